import PyProof.Rows.All
import Wide.All
import OpenK.AllK
import Wide.FinOn
import HandS.ForMost
import HandS.Wide
import HandS.Property
import HandS.Star
import HandS.IsInst
import HandS.RaiseMore
import HandS.Defaults
import HandS.Codes
import PySem.Challenge.RW_sharedpipe_k13_whole_thresholds_and_rest
set_option Elab.async false
set_option linter.all false
set_option maxRecDepth 100000
set_option maxHeartbeats 4000000
/-! ### the mathematics: rule trees -/
namespace K13
inductive T where
  | atm (t q : Int)
  | orr (a b : T)
  | nnd (a b : T)
def mx (i j : Int) : Int := if j > i then j else i
def mn (i j : Int) : Int := if j < i then j else i
theorem mx_cases (i j : Int) : (mx i j = i ∧ j ≤ i) ∨ (mx i j = j ∧ i < j) := by
  unfold mx
  split <;> omega
theorem mn_cases (i j : Int) : (mn i j = i ∧ i ≤ j) ∨ (mn i j = j ∧ j < i) := by
  unfold mn
  split <;> omega
def T.thr : T → Int
  | .atm t q => mx t q
  | .orr a b => mn a.thr b.thr
  | .nnd a b => mx a.thr b.thr
def T.giv (n : Int) : T → Int
  | .atm t q => if t ≤ n then n - n % q else 0
  | .orr a b => mx (a.giv n) (b.giv n)
  | .nnd a b => mn (a.giv n) (b.giv n)
def T.atoms : T → Nat
  | .atm _ _ => 1
  | .orr a b => a.atoms + b.atoms
  | .nnd a b => a.atoms + b.atoms
def T.depth : T → Nat
  | .atm _ _ => 0
  | .orr a b => max a.depth b.depth + 1
  | .nnd a b => max a.depth b.depth + 1
def T.parts : T → List Int
  | .atm _ q => [q]
  | .orr a b => a.parts ++ b.parts
  | .nnd a b => a.parts ++ b.parts
def T.bnds : T → List Int
  | .atm t q => [mx t q]
  | .orr a b => a.bnds ++ b.bnds
  | .nnd a b => a.bnds ++ b.bnds
/-- each number in its range; no threshold above M -/
def T.ok (M : Int) : T → Prop
  | .atm t q => 1 ≤ t ∧ t ≤ M ∧ 1 ≤ q ∧ q ≤ 6
  | .orr a b => a.ok M ∧ b.ok M
  | .nnd a b => a.ok M ∧ b.ok M
theorem T.atoms_pos : ∀ t : T, 1 ≤ t.atoms
  | .atm _ _ => Nat.le_refl _
  | .orr a b => by
    have := a.atoms_pos
    show 1 ≤ a.atoms + b.atoms
    omega
  | .nnd a b => by
    have := a.atoms_pos
    show 1 ≤ a.atoms + b.atoms
    omega
theorem T.depth_lt : ∀ t : T, t.depth < t.atoms
  | .atm _ _ => Nat.zero_lt_one
  | .orr a b => by
    have h1 := a.depth_lt
    have h2 := b.depth_lt
    have h3 := a.atoms_pos
    have h4 := b.atoms_pos
    show max a.depth b.depth + 1 < a.atoms + b.atoms
    omega
  | .nnd a b => by
    have h1 := a.depth_lt
    have h2 := b.depth_lt
    have h3 := a.atoms_pos
    have h4 := b.atoms_pos
    show max a.depth b.depth + 1 < a.atoms + b.atoms
    omega
theorem T.bnds_len : ∀ t : T, t.bnds.length = t.atoms
  | .atm _ _ => rfl
  | .orr a b => by
    show (a.bnds ++ b.bnds).length = a.atoms + b.atoms
    rw [List.length_append, a.bnds_len, b.bnds_len]
  | .nnd a b => by
    show (a.bnds ++ b.bnds).length = a.atoms + b.atoms
    rw [List.length_append, a.bnds_len, b.bnds_len]
theorem T.parts_len : ∀ t : T, t.parts.length = t.atoms
  | .atm _ _ => rfl
  | .orr a b => by
    show (a.parts ++ b.parts).length = a.atoms + b.atoms
    rw [List.length_append, a.parts_len, b.parts_len]
  | .nnd a b => by
    show (a.parts ++ b.parts).length = a.atoms + b.atoms
    rw [List.length_append, a.parts_len, b.parts_len]
theorem T.thr_ok {M : Int} (hM : 6 ≤ M) : ∀ t : T, t.ok M → 1 ≤ t.thr ∧ t.thr ≤ M
  | .atm t q, h => by
    obtain ⟨h1, h2, h3, h4⟩ := h
    show 1 ≤ mx t q ∧ mx t q ≤ M
    rcases mx_cases t q with ⟨e, _⟩ | ⟨e, _⟩ <;> rw [e] <;> omega
  | .orr a b, h => by
    have h1 := a.thr_ok hM h.1
    have h2 := b.thr_ok hM h.2
    show 1 ≤ mn a.thr b.thr ∧ mn a.thr b.thr ≤ M
    rcases mn_cases a.thr b.thr with ⟨e, _⟩ | ⟨e, _⟩ <;> rw [e] <;> omega
  | .nnd a b, h => by
    have h1 := a.thr_ok hM h.1
    have h2 := b.thr_ok hM h.2
    show 1 ≤ mx a.thr b.thr ∧ mx a.thr b.thr ≤ M
    rcases mx_cases a.thr b.thr with ⟨e, _⟩ | ⟨e, _⟩ <;> rw [e] <;> omega
theorem T.parts_ok {M : Int} : ∀ t : T, t.ok M → ∀ q ∈ t.parts, 1 ≤ q ∧ q ≤ 6
  | .atm t q, h => fun x hx => by
    rw [List.mem_singleton.mp hx]
    exact h.2.2
  | .orr a b, h => fun x hx => by
    rcases List.mem_append.mp hx with z | z
    · exact a.parts_ok h.1 x z
    · exact b.parts_ok h.2 x z
  | .nnd a b, h => fun x hx => by
    rcases List.mem_append.mp hx with z | z
    · exact a.parts_ok h.1 x z
    · exact b.parts_ok h.2 x z
/-- what is given of an amount -/
theorem T.giv_ok {M n : Int} (hn : 0 ≤ n) : ∀ t : T, t.ok M → 0 ≤ t.giv n ∧ t.giv n ≤ n ∧ n - t.giv n < t.thr ∧ (t.giv n = 0 ↔ n < t.thr) ∧ (t.thr ≤ n → ∃ q ∈ t.parts, n - t.giv n = n % q)
  | .atm t q, h => by
    obtain ⟨h1, h2, h3, h4⟩ := h
    have m0 : 0 ≤ n % q := Int.emod_nonneg n (by omega)
    have m1 : n % q < q := Int.emod_lt_of_pos n (by omega)
    have m2 : n < q → n % q = n := fun z => Int.emod_eq_of_lt hn z
    show 0 ≤ (if t ≤ n then n - n % q else 0) ∧ (if t ≤ n then n - n % q else 0) ≤ n ∧ n - (if t ≤ n then n - n % q else 0) < mx t q ∧ ((if t ≤ n then n - n % q else 0) = 0 ↔ n < mx t q) ∧ (mx t q ≤ n → ∃ q' ∈ [q], n - (if t ≤ n then n - n % q else 0) = n % q')
    by_cases ht : t ≤ n
    · rw [if_pos ht]
      have hx := mx_cases t q
      by_cases hq : n < q
      · have e := m2 hq
        exact ⟨by omega, by omega, by omega, by omega, by omega⟩
      · exact ⟨by omega, by omega, by omega, by omega, fun _ => ⟨q, List.mem_singleton.mpr rfl, by omega⟩⟩
    · rw [if_neg ht]
      have hx := mx_cases t q
      exact ⟨by omega, by omega, by omega, by omega, by omega⟩
  | .orr a b, h => by
    obtain ⟨a1, a2, a3, a4, a5⟩ := a.giv_ok hn h.1
    obtain ⟨b1, b2, b3, b4, b5⟩ := b.giv_ok hn h.2
    show 0 ≤ mx (a.giv n) (b.giv n) ∧ mx (a.giv n) (b.giv n) ≤ n ∧ n - mx (a.giv n) (b.giv n) < mn a.thr b.thr ∧ (mx (a.giv n) (b.giv n) = 0 ↔ n < mn a.thr b.thr) ∧ (mn a.thr b.thr ≤ n → ∃ q ∈ a.parts ++ b.parts, n - mx (a.giv n) (b.giv n) = n % q)
    have hx := mx_cases (a.giv n) (b.giv n)
    have hy := mn_cases a.thr b.thr
    refine ⟨by clear a5 b5; omega, by clear a5 b5; omega, by clear a5 b5; omega, by clear a5 b5; omega, fun hm => ?_⟩
    rcases hx with ⟨e, l⟩ | ⟨e, l⟩
    · obtain ⟨q, hq, z⟩ := a5 (by clear a5 b5; omega)
      exact ⟨q, List.mem_append.mpr (.inl hq), by rw [e]; exact z⟩
    · obtain ⟨q, hq, z⟩ := b5 (by clear a5 b5; omega)
      exact ⟨q, List.mem_append.mpr (.inr hq), by rw [e]; exact z⟩
  | .nnd a b, h => by
    obtain ⟨a1, a2, a3, a4, a5⟩ := a.giv_ok hn h.1
    obtain ⟨b1, b2, b3, b4, b5⟩ := b.giv_ok hn h.2
    show 0 ≤ mn (a.giv n) (b.giv n) ∧ mn (a.giv n) (b.giv n) ≤ n ∧ n - mn (a.giv n) (b.giv n) < mx a.thr b.thr ∧ (mn (a.giv n) (b.giv n) = 0 ↔ n < mx a.thr b.thr) ∧ (mx a.thr b.thr ≤ n → ∃ q ∈ a.parts ++ b.parts, n - mn (a.giv n) (b.giv n) = n % q)
    have hx := mn_cases (a.giv n) (b.giv n)
    have hy := mx_cases a.thr b.thr
    refine ⟨by clear a5 b5; omega, by clear a5 b5; omega, by clear a5 b5; omega, by clear a5 b5; omega, fun hm => ?_⟩
    rcases hx with ⟨e, l⟩ | ⟨e, l⟩
    · obtain ⟨q, hq, z⟩ := a5 (by clear a5 b5; omega)
      exact ⟨q, List.mem_append.mpr (.inl hq), by rw [e]; exact z⟩
    · obtain ⟨q, hq, z⟩ := b5 (by clear a5 b5; omega)
      exact ⟨q, List.mem_append.mpr (.inr hq), by rw [e]; exact z⟩
end K13

/-! ### what stands in the heap -/
namespace K13
open PySem L2
/-- a rule's tree at a value -/
def TreeAt (H : Hp) : T → V → Prop
  | .atm t q, v => ∃ p, v = .ref p ∧ H p = some (.tup [.str "at", .int t, .int q])
  | .orr a b, v => ∃ p x y, v = .ref p ∧ H p = some (.tup [.str "or", x, y]) ∧ TreeAt H a x ∧ TreeAt H b y
  | .nnd a b, v => ∃ p x y, v = .ref p ∧ H p = some (.tup [.str "and", x, y]) ∧ TreeAt H a x ∧ TreeAt H b y
/-- or, and: by a truth -/
def jn (o : Bool) (a b : T) : T := match o with
  | true => .orr a b
  | false => .nnd a b
def wd (o : Bool) : Str := match o with
  | true => "or"
  | false => "and"
theorem jn_ok {o : Bool} {a b : T} {M : Int} : (jn o a b).ok M = (a.ok M ∧ b.ok M) := by cases o <;> rfl
theorem jn_depth {o : Bool} {a b : T} : (jn o a b).depth = max a.depth b.depth + 1 := by cases o <;> rfl
theorem jn_atoms {o : Bool} {a b : T} : (jn o a b).atoms = a.atoms + b.atoms := by cases o <;> rfl
theorem jn_parts {o : Bool} {a b : T} : (jn o a b).parts = a.parts ++ b.parts := by cases o <;> rfl
theorem jn_bnds {o : Bool} {a b : T} : (jn o a b).bnds = a.bnds ++ b.bnds := by cases o <;> rfl
/-- a tree at a value: one at_least, or two trees joined -/
theorem TreeAt.two {H : Hp} : ∀ {t : T} {v : V}, TreeAt H t v → (∃ i q p, t = .atm i q ∧ v = .ref p ∧ H p = some (.tup [.str "at", .int i, .int q])) ∨
    ∃ o a b p x y, t = jn o a b ∧ v = .ref p ∧ H p = some (.tup [.str (wd o), x, y]) ∧ TreeAt H a x ∧ TreeAt H b y
  | .atm i q, _, ⟨p, e, h⟩ => .inl ⟨i, q, p, rfl, e, h⟩
  | .orr a b, _, ⟨p, x, y, e, h, h1, h2⟩ => .inr ⟨true, a, b, p, x, y, rfl, e, h, h1, h2⟩
  | .nnd a b, _, ⟨p, x, y, e, h, h1, h2⟩ => .inr ⟨false, a, b, p, x, y, rfl, e, h, h1, h2⟩
theorem TreeAt.join {H : Hp} {o : Bool} {a b : T} {p : Addr} {x y : V} (h : H p = some (.tup [.str (wd o), x, y])) (h1 : TreeAt H a x) (h2 : TreeAt H b y) : TreeAt H (jn o a b) (.ref p) := by
  cases o with
  | true => exact ⟨p, x, y, rfl, h, h1, h2⟩
  | false => exact ⟨p, x, y, rfl, h, h1, h2⟩
/-- the tuples stay -/
def Tups (H H' : Hp) : Prop := ∀ a xs, H a = some (.tup xs) → H' a = some (.tup xs)
theorem TreeAt.mono {H H' : Hp} (h : Tups H H') : ∀ {t : T} {v : V}, TreeAt H t v → TreeAt H' t v
  | .atm _ _, _, ⟨p, e, q⟩ => ⟨p, e, h _ _ q⟩
  | .orr _ _, _, ⟨p, x, y, e, q, q1, q2⟩ => ⟨p, x, y, e, h _ _ q, TreeAt.mono h q1, TreeAt.mono h q2⟩
  | .nnd _ _, _, ⟨p, x, y, e, q, q1, q2⟩ => ⟨p, x, y, e, h _ _ q, TreeAt.mono h q1, TreeAt.mono h q2⟩
/-- all stays but what stands at b -/
def Keep (b : Addr) (H H' : Hp) : Prop := ∀ a o, H a = some o → a ≠ b → H' a = some o
theorem Keep.refl (b : Addr) (H : Hp) : Keep b H H := fun _ _ e _ => e
theorem Keep.trans {b : Addr} {H H1 H2 : Hp} (h : Keep b H H1) (k : Keep b H1 H2) : Keep b H H2 := fun a o e n => k a o (h a o e n) n
theorem Keep.of_same {b : Addr} {H H' : Hp} (h : Same H H') : Keep b H H' := fun a o e _ => h a o e
theorem Keep.upd {b : Addr} {H : Hp} {o : HO} : Keep b H (upd H b o) := fun a u e n => by
  rw [upd_ne n]
  exact e
theorem Tups.of_same {H H' : Hp} (h : Same H H') : Tups H H' := fun a xs e => h a _ e
theorem Tups.of_keep {b : Addr} {H H' : Hp} {xs : List V} (h : Keep b H H') (hb : H b = some (.lst xs)) : Tups H H' := fun a ys e => h a _ e (ne_of e hb (by intro z; cases z))
theorem same_new {H : Hp} {p : Addr} {o : HO} (h : H p = none) : Same H (upd H p o) := fun b x e => by
  rw [upd_ne (ne_of_none e h)]
  exact e
/-- an object that H does not know may change -/
theorem same_mut {H H' : Hp} {p : Addr} {o : HO} (e : Same H H') (h : H p = none) : Same H (upd H' p o) := fun a u ha => by
  rw [upd_ne (ne_of_none ha h)]
  exact e a u ha
theorem Keep.mut {b : Addr} {H H' : Hp} {p : Addr} {o : HO} (e : Keep b H H') (h : H p = none) : Keep b H (L2.upd H' p o) := fun a u ha n => by
  rw [upd_ne (ne_of_none ha h)]
  exact e a u ha n
theorem Keep.free {b : Addr} {H H' : Hp} (e : Keep b H H') {l : Addr} (hb : H b ≠ none) (h' : H' b ≠ none) (h : H' l = none) : H l = none := by
  cases q : H l with
  | none => rfl
  | some o =>
    by_cases z : l = b
    · subst z
      exact absurd h h'
    · rw [e l o q z] at h
      cases h
/-- the bag of draws; its cells at c -/
structure Bag (H : Hp) (b c : Addr) : Prop where
  ob : ∃ (g m k : Int) (cells : List Int), H b = some (.lst [.int g, .int m, .int k, .ref c]) ∧ c ≠ b ∧ H c = some (.lst (cells.map V.int)) ∧ 0 ≤ k
theorem Bag.lst {H : Hp} {b c : Addr} (h : Bag H b c) : ∃ xs, H b = some (.lst xs) := by
  obtain ⟨g, m, k, cells, e, _⟩ := h.ob
  exact ⟨_, e⟩
theorem Bag.nn {H : Hp} {b c : Addr} (h : Bag H b c) : H b ≠ none := by
  obtain ⟨xs, e⟩ := h.lst
  rw [e]
  intro z
  cases z
theorem Bag.nc {H : Hp} {b c : Addr} (h : Bag H b c) : H c ≠ none := by
  obtain ⟨g, m, k, cells, e, n, e2, l⟩ := h.ob
  rw [e2]
  intro z
  cases z
theorem Bag.same {H H' : Hp} {b c : Addr} (h : Bag H b c) (s : Same H H') : Bag H' b c := by
  obtain ⟨g, m, k, cells, e, n, e2, l⟩ := h.ob
  exact ⟨g, m, k, cells, s _ _ e, n, s _ _ e2, l⟩
theorem Bag.upd {H : Hp} {b c d : Addr} {o : HO} (h : Bag H b c) (h1 : d ≠ b) (h2 : d ≠ c) : Bag (L2.upd H d o) b c := by
  obtain ⟨g, m, k, cells, e, n, e2, l⟩ := h.ob
  exact ⟨g, m, k, cells, by rw [upd_ne (Ne.symm h1)]; exact e, n, by rw [upd_ne (Ne.symm h2)]; exact e2, l⟩
/-- what is new is none of the bag -/
theorem Bag.ne {H : Hp} {b c d : Addr} (h : Bag H b c) (hd : H d = none) : d ≠ b ∧ d ≠ c := ⟨fun e => h.nn (e ▸ hd), fun e => h.nc (e ▸ hd)⟩
theorem Bag.tups {H H' : Hp} {b c : Addr} (h : Bag H b c) (k : Keep b H H') : Tups H H' := by
  obtain ⟨xs, e⟩ := h.lst
  exact Tups.of_keep k e
/-- a Rule object with this tree -/
def RuleAt (H : Hp) (C : Addr) (t : T) (v : V) : Prop := ∃ p dx tr, v = .ref p ∧ H p = some (.ins C dx [("its_tree", tr)]) ∧ TreeAt H t tr
theorem RuleAt.same {H H' : Hp} {C : Addr} {t : T} {v : V} (h : RuleAt H C t v) (s : Same H H') : RuleAt H' C t v := by
  obtain ⟨p, dx, tr, e, q, r⟩ := h
  exact ⟨p, dx, tr, e, s _ _ q, r.mono (Tups.of_same s)⟩
theorem RuleAt.keep {H H' : Hp} {C b c : Addr} {t : T} {v : V} (h : RuleAt H C t v) (k : Keep b H H') (hb : Bag H b c) : RuleAt H' C t v := by
  obtain ⟨p, dx, tr, e, q, r⟩ := h
  obtain ⟨xs, eb⟩ := hb.lst
  exact ⟨p, dx, tr, e, k _ _ q (ne_of q eb (by intro z; cases z)), r.mono (hb.tups k)⟩
end K13

/-! ### rules that the layer lacks -/
namespace K13
open PySem PySem.Spec PyProof.Rows L2
section
variable {X : Cx}
/-- text * int -/
theorem op_mul_str : OpR X (binaryOp .Mult) (fun x y H Q => ∃ z n, x = .str z ∧ y = .int n ∧ MulOk z n ∧ Q (.str (Txt.mul z n)) H) := by
  intro pins s σ H x y v u Q I rx ry h
  obtain ⟨z, n, rfl, rfl, hk, q⟩ := h
  obtain ⟨t, rfl⟩ := rx
  obtain ⟨t', rfl⟩ := ry
  exact SB.mul hk fun t2 k => ⟨.str _, H, I.tok _, ⟨_, rfl⟩, q⟩
/-- xs[i], read by values (for xs[i] += e) -/
def rGetL (K : PySem.W.Frag) : V → V → Hp → VK → Prop := fun x y H Q => ∃ p xs i v, x = .ref p ∧ y = .int i ∧ SqL K H p xs ∧ 0 ≤ i ∧ xs[i.toNat]? = some v ∧ Q v H
theorem get_list : PGet X (rGetL X.K) := by
  intro pins s σ H o i ov iv Q I ro ri h
  obtain ⟨p, xs, k, v, rfl, rfl, hq, h0, hv, q⟩ := h
  cases ro
  obtain ⟨t, rfl⟩ := ri
  obtain ⟨its, r, pl, hz⟩ := I.list hq
  obtain ⟨u, hu, ru⟩ := r.get hv
  have hn := line63
  have hlt : k.toNat < xs.length := by
    rcases Nat.lt_or_ge k.toNat xs.length with z | z
    · exact z
    · rw [List.getElem?_eq_none z] at hv
      cases hv
  exact wpAny_getItem_list pl.isList h0 (by omega) (by simpa using hu) ⟨v, H, I, ru, q⟩
/-- a op b, both instances of one class that has the operator as a method -/
structure OwnOp (K : PySem.W.Frag) (C : Addr) (op : Operator) (f : Addr) : Prop where
  self : PySem.W.selfFirst K C = true
  at_ : PySem.W.findIn K (.ref C) (PySem.dunder op.info.2) = some (some (.ref f))
  fn : PySem.W.isFn K (.ref f) = true
def rOwn (C : Addr) (sp : Sp) : R2 := fun x y H Q => ∃ a b dx dy fs gs, x = .ref a ∧ y = .ref b ∧ H a = some (.ins C dx fs) ∧ H b = some (.ins C dy gs) ∧ sp [.ref a, .ref b] H (fun v H' => (∃ p, v = .ref p) ∧ Q v H') E0
theorem op_own {op : Operator} {C f : Addr} {k : Nat} {fd : FuncData} {ps : List Str} {sp : Sp} (c : OwnOp X.K C op f) (F : FnOk X.prog X.w X.K X.mg X.base CX0 k f fd ps sp) (hr : Room k X.A) (hb : Binds X.K fd ps []) : OpR X (binaryOp op) (rOwn C sp) := by
  intro pins s σ H x y v u Q I rx ry h
  obtain ⟨a, b, dx, dy, fs, gs, rfl, rfl, ha, hb', q⟩ := h
  cases rx
  cases ry
  obtain ⟨mA, O, _⟩ := ins_get I.hok ha
  obtain ⟨od, J, _⟩ := O.look
  obtain ⟨mB, O2, _⟩ := ins_get I.hok hb'
  obtain ⟨od2, J2, _⟩ := O2.look
  obtain ⟨m, Fm⟩ := I.fr
  refine PySem.W.binop_K Fm I.ok.mod.kin J J2.type c.self c.at_ c.fn ?_
  refine thn (run_fn (us := [.ref a, .ref b]) (vs := [.ref a, .ref b]) F hr hb .nil pass0 I (.cons rfl (.cons rfl .nil)) q) fun r s' hq => ?_
  obtain ⟨z, H', I', rz, ⟨p, ez⟩, q'⟩ := hq
  subst ez
  obtain rfl : r = Value.ref p := rz
  exact ⟨.ref p, H', I', rfl, q'⟩
end
end K13

namespace K13
open PySem PySem.Spec PyProof.Rows L2
/-! ### the text by places -/
def topS (i : Nat) : Stmt := PySem.Challenge.pw_sharedpipe_k13_whole_thresholds_and_rest.main.body.getD i (.Pass ⟨0, 0, 0, 0⟩)
abbrev sIsInt : Stmt := topS 5
abbrev sIsNum : Stmt := topS 6
abbrev sShape : Stmt := topS 12
abbrev sAtoms : Stmt := topS 13
abbrev sIsTree : Stmt := topS 14
abbrev sGiven : Stmt := topS 15
abbrev sThr : Stmt := topS 16
abbrev sInit : Stmt := inClass (topS 20) 0
abbrev sCall : Stmt := inClass (topS 20) 1
abbrev sRest : Stmt := inClass (topS 20) 2
abbrev sThreshold : Stmt := inClass (topS 20) 3
abbrev sOr : Stmt := inClass (topS 20) 5
abbrev sAnd : Stmt := inClass (topS 20) 6
abbrev sFew : Stmt := topS 21
abbrev sAtLeast : Stmt := topS 22
/-! ### what the top holds -/
structure Tx (K : PySem.W.Frag) (mg : Str → Option Value) (C : Addr) : Prop where
  isi : mg "isinstance" = none
  int : mg "int" = none
  bool : mg "bool" = none
  tuple : mg "tuple" = none
  str : mg "str" = none
  len : mg "len" = none
  max : mg "max" = none
  min : mg "min" = none
  abs : mg "abs" = none
  repr : mg "repr" = none
  range : mg "range" = none
  by6 : ∃ t, mg "MOST_BY" = some (.int 6 t)
  at6 : ∃ t, mg "MOST_ATOMS" = some (.int 6 t)
  joins : ∃ J, mg "JOINS" = some (.ref J) ∧ ∀ H, SqT K H J [.str "or", .str "and"]
  cl : Cls K C
  noT : NoAttr K C "its_tree"
  mgC : mg "Rule" = some (.ref C)
/-- a def of the module as the top leaves it -/
def DefAt (K : PySem.W.Frag) (mg : Str → Option Value) (x : Str) (st : Stmt) (ps : List Str) : Prop := ∃ f fd, Fun K x x st f fd ∧ mg x = some (.ref f) ∧ Binds K fd ps []
/-- its promise is kept -/
def Rdy (P : Program) (w : World) (K : PySem.W.Frag) (mg : Str → Option Value) (base : Heap) (x : Str) (ps : List Str) (k : Nat) (sp : Sp) : Prop :=
  ∃ f fd, FnOk P w K mg base CX0 k f fd ps sp ∧ mg x = some (.ref f) ∧ PySem.W.keepIn K (.ref f) = true ∧ Binds K fd ps []
/-- a method of Rule -/
def MetAt (K : PySem.W.Frag) (C : Addr) (x qual : Str) (st : Stmt) (ps : List Str) (f : Addr) (fd : FuncData) : Prop := Fun K x qual st f fd ∧ PySem.W.findIn K (.ref C) x = some (some (.ref f)) ∧ PySem.W.isFn K (.ref f) = true ∧ Binds K fd ps []

theorem three0 {α : Type} {a b c : α} : atI [a, b, c] 0 = some a := rfl
theorem three1 {α : Type} {a b c : α} : atI [a, b, c] 1 = some b := rfl
theorem three2 {α : Type} {a b c : α} : atI [a, b, c] 2 = some c := rfl
theorem at_at : V.bl (decide (V.str "at" = V.str "at")) = V.bl true := congrArg V.bl (decide_eq_true rfl)
theorem wd_at (o : Bool) : V.bl (decide (V.str (wd o) = V.str "at")) = V.bl false := by cases o <;> decide +kernel
theorem wd_or (o : Bool) : V.bl (decide (V.str (wd o) = V.str "or")) = V.bl o := by cases o <;> decide +kernel
theorem in_at : V.bl (inV (.str "at") [.str "or", .str "and"]) = V.bl false := by decide +kernel
theorem in_wd (o : Bool) : V.bl (inV (.str (wd o)) [.str "or", .str "and"]) = V.bl true := by cases o <;> decide +kernel
theorem bl_true {p : Prop} [Decidable p] (h : p) : V.bl (decide p) = V.bl true := congrArg V.bl (decide_eq_true h)
theorem bl_false {p : Prop} [Decidable p] (h : ¬ p) : V.bl (decide p) = V.bl false := congrArg V.bl (decide_eq_false h)

section
variable {P : Program} {w : World} {K : PySem.W.Frag} {mg : Str → Option Value} {base : Heap} {C : Addr}
/-- a recursion's base: nothing is promised of a depth below nought -/
theorem rdy0 {x : Str} {st : Stmt} {ps : List Str} {k : Nat} {sp : Sp} (D : DefAt K mg x st ps) (h : ∀ vs H Q E, ¬ sp vs H Q E) : Rdy P w K mg base x ps k sp := by
  obtain ⟨f, fd, F, g, b⟩ := D
  exact ⟨f, fd, ⟨fun vs H Q E z => absurd z (h vs H Q E), fun A outer s H args us vs Q E _ _ _ _ z => absurd z (h vs H Q E)⟩, g, F.kp, b⟩
/-! ### kinds -/
theorem scIsInt : FnScope ["thing"] ["thing"] (defScope sIsInt) := ⟨rfl, rfl, rfl, by decide +kernel, rfl, by decide +kernel, by decide +kernel⟩
def spIsInt : Sp := fun vs H Q _ => ∃ i, vs = [.int i] ∧ Q (.bl true) H
theorem ok_isInt (D : DefAt K mg "is_integer" sIsInt ["thing"]) (T : Tx K mg C) : Rdy P w K mg base "is_integer" ["thing"] 1 spIsInt := by
  obtain ⟨f, fd, F, g, b⟩ := D
  refine ⟨f, fd, F.ok scIsInt (fun vs H Q E h => ?_) (fun cdv A outer s H vs Q E hr h => ?_), g, F.kp, b⟩
  · obtain ⟨i, rfl, _⟩ := h
    rfl
  · obtain ⟨i, rfl, q⟩ := h
    refine ⟨_, pss_one (ps_ret (pe_and
      (pe_callB call_isi (by rfl) T.isi (by decide +kernel) (pa_cons (pv 0) (pa_cons (pe_bltn (v := .ty "int") (by rfl) T.int (by decide +kernel) rfl) pa_nil)))
      (pe_one (pe_not (pe_callB call_isi (by rfl) T.isi (by decide +kernel) (pa_cons (pv 0) (pa_cons (pe_bltn (v := .ty "bool") (by rfl) T.bool (by decide +kernel) rfl) pa_nil))))))), ?_⟩
    refine ⟨_, rfl, .int i, .ty "int", .type "int", .type "int", true, rfl, .ty _, .base (.int i), kit_ty (by decide +kernel), true, rfl, iteT ?_⟩
    exact ⟨_, rfl, .int i, .ty "bool", .type "int", .type "bool", false, rfl, .ty _, .base (.int i), kit_ty (by decide +kernel), false, rfl, q⟩
theorem scIsNum : FnScope ["least", "thing"] ["least", "thing"] (defScope sIsNum) := ⟨rfl, rfl, rfl, by decide +kernel, rfl, by decide +kernel, by decide +kernel⟩
def spIsNum : Sp := fun vs H Q _ => ∃ l i, vs = [.int l, .int i] ∧ Q (.bl (decide (l ≤ i))) H
theorem ok_isNum (D : DefAt K mg "is_number" sIsNum ["least", "thing"]) (G : Rdy P w K mg base "is_integer" ["thing"] 1 spIsInt) : Rdy P w K mg base "is_number" ["least", "thing"] 2 spIsNum := by
  obtain ⟨f, fd, F, g, b⟩ := D
  obtain ⟨f1, fd1, F1, g1, k1, b1⟩ := G
  refine ⟨f, fd, F.ok scIsNum (fun vs H Q E h => ?_) (fun cdv A outer s H vs Q E hr h => ?_), g, F.kp, b⟩
  · obtain ⟨l, i, rfl, _⟩ := h
    rfl
  · obtain ⟨l, i, rfl, q⟩ := h
    refine ⟨_, pss_one (ps_ret (pe_and (pe_call F1 hr (by rfl) g1 k1 b1 .nil pass0 (pa_cons (pv 1) pa_nil)) (pe_one (pe_cmpR op_ge (pv 1) (pv 0) (nomark _))))), ?_⟩
    exact ⟨_, rfl, i, rfl, true, rfl, iteT ⟨_, rfl, _, rfl, i, l, rfl, rfl, q⟩⟩

/-! ### trees -/
theorem scShape : FnScope ["thing"] ["thing"] (defScope sShape) := ⟨rfl, rfl, rfl, by decide +kernel, rfl, by decide +kernel, by decide +kernel⟩
def spShape (n : Nat) : Sp := fun vs H Q _ => ∃ (t : K13.T) (v : V) (M : Int), vs = [v] ∧ TreeAt H t v ∧ t.ok M ∧ t.depth < n ∧ Q (.bl true) H
theorem ok_shape (D : DefAt K mg "is_shape" sShape ["thing"]) (T : Tx K mg C) (G : Rdy P w K mg base "is_number" ["least", "thing"] 2 spIsNum) : ∀ n : Nat, Rdy P w K mg base "is_shape" ["thing"] (n + 2) (spShape n)
  | 0 => rdy0 D fun vs H Q E h => by
    obtain ⟨t, v, M, _, _, _, h, _⟩ := h
    exact absurd h (Nat.not_lt_zero _)
  | n + 1 => by
    obtain ⟨f0, fd0, F0, g0, k0, b0⟩ := ok_shape D T G n
    obtain ⟨f, fd, F, g, b⟩ := D
    obtain ⟨f1, fd1, F1, g1, k1, b1⟩ := G
    obtain ⟨J, gJ, hJ⟩ := T.joins
    obtain ⟨t6, g6⟩ := T.by6
    refine ⟨f, fd, F.ok scShape (fun vs H Q E h => ?_) (fun cdv A outer s H vs Q E hr h => ?_), g, F.kp, b⟩
    · obtain ⟨t, v, M, rfl, _⟩ := h
      rfl
    · obtain ⟨t, v, M, rfl, ht, hok, hd, q⟩ := h
      have hr1 : Room 2 _ := hr.mono (by omega)
      refine ⟨_, pss_cons (ps_if (PW.pt (pw_or (pt_not (pt_val (pe_callB call_isi (by rfl) T.isi (by decide +kernel) (pa_cons (pv 0) (pa_cons (pe_bltn (v := .ty "tuple") (by rfl) T.tuple (by decide +kernel) rfl) pa_nil)))))
          (pw_or (pt_cmpR op_ne (pe_callB call_len_seq (by rfl) T.len PySem.boot_len (pa_cons (pv 0) pa_nil)) pe_int (nomark _))
          (pw_or1 (pt_not (pt_val (pe_callB call_isi (by rfl) T.isi (by decide +kernel) (pa_cons (pe_ix ix_tup (pv 0) pe_int (fun _ _ => rfl)) (pa_cons (pe_bltn (v := .ty "str") (by rfl) T.str (by decide +kernel) rfl) pa_nil)))))))))
          (pss_one (ps_ret pe_bl)) pss_nil)
        (pss_cons (ps_if (pt_cmpR op_in_seq (pe_ix ix_tup (pv 0) pe_int (fun _ _ => rfl)) (pe_glob (v := .ref J) (by rfl) gJ rfl) (by rfl))
          (pss_one (ps_ret (pe_and (pe_call F0 hr (by rfl) g0 k0 b0 .nil pass0 (pa_cons (pe_ix ix_tup (pv 0) pe_int (fun _ _ => rfl)) pa_nil))
            (pe_one (pe_call F0 hr (by rfl) g0 k0 b0 .nil pass0 (pa_cons (pe_ix ix_tup (pv 0) pe_int (fun _ _ => rfl)) pa_nil)))))) pss_nil)
        (pss_one (ps_ret (pe_and (pe_cmpR op_eq (pe_ix ix_tup (pv 0) pe_int (fun _ _ => rfl)) pe_str (nomark _))
          (pe_and (pe_call F1 hr1 (by rfl) g1 k1 b1 .nil pass0 (pa_cons pe_int (pa_cons (pe_ix ix_tup (pv 0) pe_int (fun _ _ => rfl)) pa_nil)))
          (pe_and (pe_call F1 hr1 (by rfl) g1 k1 b1 .nil pass0 (pa_cons pe_int (pa_cons (pe_ix ix_tup (pv 0) pe_int (fun _ _ => rfl)) pa_nil)))
          (pe_one (pe_cmpR op_le (pe_ix ix_tup (pv 0) pe_int (fun _ _ => rfl)) (pe_glob (v := .int 6) (by rfl) g6 ⟨_, rfl⟩) (nomark _))))))))), ?_⟩
      rcases ht.two with ⟨t, q', p, rfl, rfl, hp⟩ | ⟨o, a, b, p, x, y, rfl, rfl, hp, ha, hb⟩
      · obtain ⟨h1, h2, h3, h4⟩ := hok
        refine ⟨_, rfl, .ref p, .ty "tuple", .type "tuple", .type "tuple", true, rfl, .ty _, .base (.tup hp), kit_ty (by decide +kernel), true, rfl, iteF ?_⟩
        refine ⟨_, rfl, p, _, rfl, .inr (SqT.of hp), rfl, _, rfl, iteNS rfl ?_⟩
        refine ⟨_, rfl, p, _, 0, _, rfl, rfl, SqT.of hp, three0, .str "at", .ty "str", .type "str", .type "str", true, rfl, .ty _, .base (.str _), kit_ty (by decide +kernel), true, rfl, iteF ?_⟩
        refine ⟨_, rfl, p, _, 0, _, rfl, rfl, SqT.of hp, three0, J, _, rfl, .inr (hJ H), rfl, rfl, false, in_at, iteF ?_⟩
        refine ⟨_, rfl, p, _, 0, _, rfl, rfl, SqT.of hp, three0, rfl, true, at_at, iteT ?_⟩
        refine ⟨_, rfl, p, _, 1, _, rfl, rfl, SqT.of hp, three1, 1, t, rfl, true, bl_true h1, iteT ?_⟩
        refine ⟨_, rfl, p, _, 2, _, rfl, rfl, SqT.of hp, three2, 1, q', rfl, true, bl_true h3, iteT ?_⟩
        refine ⟨_, rfl, p, _, 2, _, rfl, rfl, SqT.of hp, three2, q', 6, rfl, rfl, ?_⟩
        show Q (.bl (decide (q' ≤ 6))) H
        rw [decide_eq_true h4]
        exact q
      · rw [jn_ok] at hok
        rw [jn_depth] at hd
        refine ⟨_, rfl, .ref p, .ty "tuple", .type "tuple", .type "tuple", true, rfl, .ty _, .base (.tup hp), kit_ty (by decide +kernel), true, rfl, iteF ?_⟩
        refine ⟨_, rfl, p, _, rfl, .inr (SqT.of hp), rfl, _, rfl, iteNS rfl ?_⟩
        refine ⟨_, rfl, p, _, 0, _, rfl, rfl, SqT.of hp, three0, .str (wd o), .ty "str", .type "str", .type "str", true, rfl, .ty _, .base (.str _), kit_ty (by decide +kernel), true, rfl, iteF ?_⟩
        refine ⟨_, rfl, p, _, 0, _, rfl, rfl, SqT.of hp, three0, J, _, rfl, .inr (hJ H), rfl, rfl, true, in_wd o, iteT ?_⟩
        refine ⟨_, rfl, p, _, 1, _, rfl, rfl, SqT.of hp, three1, a, x, M, rfl, ha, hok.1, by omega, true, rfl, iteT ?_⟩
        exact ⟨_, rfl, p, _, 2, _, rfl, rfl, SqT.of hp, three2, b, y, M, rfl, hb, hok.2, by omega, q⟩
theorem scAtoms : FnScope ["tree"] ["tree"] (defScope sAtoms) := ⟨rfl, rfl, rfl, by decide +kernel, rfl, by decide +kernel, by decide +kernel⟩
def spAtoms (n : Nat) : Sp := fun vs H Q _ => ∃ (t : K13.T) (v : V), vs = [v] ∧ TreeAt H t v ∧ t.depth < n ∧ t.atoms ≤ 1000 ∧ ∀ (H' : Hp) (p : Addr) (xs : List V), Same H H' → H p = none → H' p = some (.lst xs) → xs.length = t.atoms → Q (.ref p) H'
theorem ok_atoms (D : DefAt K mg "atoms_of" sAtoms ["tree"]) : ∀ n : Nat, Rdy P w K mg base "atoms_of" ["tree"] (n + 1) (spAtoms n)
  | 0 => rdy0 D fun vs H Q E h => by
    obtain ⟨t, v, _, _, h, _⟩ := h
    exact absurd h (Nat.not_lt_zero _)
  | n + 1 => by
    obtain ⟨f0, fd0, F0, g0, k0, b0⟩ := ok_atoms D n
    obtain ⟨f, fd, F, g, b⟩ := D
    refine ⟨f, fd, F.ok scAtoms (fun vs H Q E h => ?_) (fun cdv A outer s H vs Q E hr h => ?_), g, F.kp, b⟩
    · obtain ⟨t, v, rfl, _⟩ := h
      rfl
    · obtain ⟨t, v, rfl, ht, hd, hl, q⟩ := h
      refine ⟨_, pss_one (ps_ret (pe_ifExp (pt_cmpR op_eq (pe_ix ix_tup (pv 0) pe_int (fun _ _ => rfl)) pe_str (nomark _)) (pe_lst (pa_cons (pv 0) pa_nil))
        (pe_op op_cat (pe_call F0 hr (by rfl) g0 k0 b0 .nil pass0 (pa_cons (pe_ix ix_tup (pv 0) pe_int (fun _ _ => rfl)) pa_nil))
          (pe_call F0 hr (by rfl) g0 k0 b0 .nil pass0 (pa_cons (pe_ix ix_tup (pv 0) pe_int (fun _ _ => rfl)) pa_nil))))), ?_⟩
      rcases ht.two with ⟨i, q', p, rfl, rfl, hp⟩ | ⟨o, a, b, p, x, y, rfl, rfl, hp, ha, hb⟩
      · refine ⟨_, rfl, p, _, 0, _, rfl, rfl, SqT.of hp, three0, rfl, true, at_at, iteT ?_⟩
        exact ⟨_, rfl, by show 1 ≤ sizeLine; decide, fun l hl' => q _ l _ (same_new hl') hl' upd_same rfl⟩
      · rw [jn_depth] at hd
        rw [jn_atoms] at hl
        refine ⟨_, rfl, p, _, 0, _, rfl, rfl, SqT.of hp, three0, rfl, false, wd_at o, iteF ?_⟩
        refine ⟨_, rfl, p, _, 1, _, rfl, rfl, SqT.of hp, three1, a, x, rfl, ha, by omega, by omega, fun H1 p1 xs1 s1 n1 e1 l1 => ?_⟩
        refine ⟨_, rfl, p, _, 2, _, rfl, rfl, SqT.of (s1 _ _ hp), three2, b, y, rfl, hb.mono (Tups.of_same s1), by omega, by omega, fun H2 p2 xs2 s2 n2 e2 l2 => ?_⟩
        refine ⟨p1, p2, xs1, xs2, rfl, rfl, s2 _ _ e1, e2, Nat.le_of_lt (small1000 (by omega)), fun l hl' => ?_⟩
        refine q _ l _ ((s1.trans s2).trans (same_new hl')) ((s1.trans s2).free hl') upd_same ?_
        rw [List.length_append, l1, l2, jn_atoms]
theorem scIsTree : FnScope ["thing"] ["thing"] (defScope sIsTree) := ⟨rfl, rfl, rfl, by decide +kernel, rfl, by decide +kernel, by decide +kernel⟩
def spIsTree : Sp := fun vs H Q _ => ∃ (t : K13.T) (v : V) (M : Int), vs = [v] ∧ TreeAt H t v ∧ t.ok M ∧ t.atoms ≤ 6 ∧ ∀ H' : Hp, Same H H' → Q (.bl true) H'
theorem ok_isTree (D : DefAt K mg "is_tree" sIsTree ["thing"]) (T : Tx K mg C) (G1 : Rdy P w K mg base "is_shape" ["thing"] 8 (spShape 6)) (G2 : Rdy P w K mg base "atoms_of" ["tree"] 7 (spAtoms 6)) : Rdy P w K mg base "is_tree" ["thing"] 9 spIsTree := by
  obtain ⟨f, fd, F, g, b⟩ := D
  obtain ⟨f1, fd1, F1, g1, k1, b1⟩ := G1
  obtain ⟨f2, fd2, F2, g2, k2, b2⟩ := G2
  obtain ⟨t6, g6⟩ := T.at6
  refine ⟨f, fd, F.ok scIsTree (fun vs H Q E h => ?_) (fun cdv A outer s H vs Q E hr h => ?_), g, F.kp, b⟩
  · obtain ⟨t, v, M, rfl, _⟩ := h
    rfl
  · obtain ⟨t, v, M, rfl, ht, hok, hl, q⟩ := h
    have hd := t.depth_lt
    refine ⟨_, pss_one (ps_ret (pe_and (pe_call F1 hr (by rfl) g1 k1 b1 .nil pass0 (pa_cons (pv 0) pa_nil))
      (pe_one (pe_cmpR op_le (pe_callB call_len_seq (by rfl) T.len PySem.boot_len (pa_cons (pe_call F2 (hr.mono (by decide)) (by rfl) g2 k2 b2 .nil pass0 (pa_cons (pv 0) pa_nil)) pa_nil)) (pe_glob (v := .int 6) (by rfl) g6 ⟨_, rfl⟩) (nomark _))))), ?_⟩
    refine ⟨_, rfl, t, v, M, rfl, ht, hok, by omega, true, rfl, iteT ?_⟩
    refine ⟨_, rfl, t, v, rfl, ht, by omega, by omega, fun H1 p1 xs1 s1 n1 e1 l1 => ?_⟩
    refine ⟨p1, xs1, rfl, .inl (SqL.of e1), _, 6, rfl, rfl, ?_⟩
    show Q (.bl (decide ((xs1.length : Int) ≤ 6))) H1
    rw [decide_eq_true (by omega)]
    exact q H1 s1
theorem scGiven : FnScope ["tree", "amount", "word", "one", "other", "first", "second"] ["tree", "amount"] (defScope sGiven) := ⟨rfl, rfl, rfl, by decide +kernel, rfl, by decide +kernel, by decide +kernel⟩
def spGiven (n : Nat) : Sp := fun vs H Q _ => ∃ (t : K13.T) (v : V) (m M : Int), vs = [v, .int m] ∧ TreeAt H t v ∧ t.ok M ∧ t.depth < n ∧ Q (.int (t.giv m)) H
theorem ok_given (D : DefAt K mg "given_of" sGiven ["tree", "amount"]) (T : Tx K mg C) : ∀ n : Nat, Rdy P w K mg base "given_of" ["tree", "amount"] (n + 1) (spGiven n)
  | 0 => rdy0 D fun vs H Q E h => by
    obtain ⟨t, v, m, M, _, _, _, h, _⟩ := h
    exact absurd h (Nat.not_lt_zero _)
  | n + 1 => by
    obtain ⟨f0, fd0, F0, g0, k0, b0⟩ := ok_given D T n
    obtain ⟨f, fd, F, g, b⟩ := D
    refine ⟨f, fd, F.ok scGiven (fun vs H Q E h => ?_) (fun cdv A outer s H vs Q E hr h => ?_), g, F.kp, b⟩
    · obtain ⟨t, v, m, M, rfl, _⟩ := h
      rfl
    · obtain ⟨t, v, m, M, rfl, ht, hok, hd, q⟩ := h
      refine ⟨_, pss_cons (ps_asg (pv 0) (pg_tup rfl (pgs_cons (pg_name (i := 2) scGiven.nd rfl (.inl rfl)) (pgs_cons (pg_name (i := 3) scGiven.nd rfl (.inl rfl)) (pgs_cons (pg_name (i := 4) scGiven.nd rfl (.inl rfl)) pgs_nil)))))
        (pss_cons (ps_if (pt_cmpR op_eq (pv 2) pe_str (nomark _)) (pss_one (ps_ret (pe_ifExp (pt_cmpR op_ge (pv 1) (pv 3) (nomark _)) (pe_op op_sub (pv 1) (pe_op op_mod (pv 1) (pv 4))) pe_int))) pss_nil)
        (pss_cons (ps_par (i := 5) (j := 6) rfl scGiven.nd rfl rfl (by decide) rfl rfl (pa_cons (pe_call F0 hr (by rfl) g0 k0 b0 .nil pass0 (pa_cons (pv 3) (pa_cons (pv 1) pa_nil))) (pa_cons (pe_call F0 hr (by rfl) g0 k0 b0 .nil pass0 (pa_cons (pv 4) (pa_cons (pv 1) pa_nil))) pa_nil)) (by rfl))
        (pss_one (ps_ret (pe_ifExp (pt_cmpR op_eq (pv 2) pe_str (nomark _)) (pe_callB (call_max2 rfl) (by rfl) T.max (by decide +kernel) (pa_cons (pv 5) (pa_cons (pv 6) pa_nil))) (pe_callB (call_min2 rfl) (by rfl) T.min (by decide +kernel) (pa_cons (pv 5) (pa_cons (pv 6) pa_nil)))))))), ?_⟩
      rcases ht.two with ⟨i, q', p, rfl, rfl, hp⟩ | ⟨o, a, b, p, x, y, rfl, rfl, hp, ha, hb⟩
      · obtain ⟨h1, h2, h3, h4⟩ := hok
        refine ⟨_, rfl, p, _, rfl, SqT.of hp, rfl, _, _, rfl, _, _, rfl, _, _, rfl, rfl, ?_⟩
        refine ⟨_, rfl, rfl, true, at_at, iteT ?_⟩
        refine ⟨_, rfl, _, rfl, m, i, rfl, rfl, _, rfl, ?_⟩
        have q2 : Q (.int (if i ≤ m then m - m % q' else 0)) H := q
        by_cases hm : i ≤ m
        · rw [if_pos hm] at q2
          rw [decide_eq_true hm]
          exact iteT ⟨_, rfl, _, rfl, _, rfl, m, q', rfl, rfl, (by omega), m, _, rfl, rfl, q2⟩
        · rw [if_neg hm] at q2
          rw [decide_eq_false hm]
          exact iteF q2
      · rw [jn_ok] at hok
        rw [jn_depth] at hd
        refine ⟨_, rfl, p, _, rfl, SqT.of hp, rfl, _, _, rfl, _, _, rfl, _, _, rfl, rfl, ?_⟩
        refine ⟨_, rfl, rfl, false, wd_at o, iteF ?_⟩
        refine ⟨_, rfl, _, rfl, a, x, m, M, rfl, ha, hok.1, by omega, ?_⟩
        refine ⟨_, rfl, _, rfl, b, y, m, M, rfl, hb, hok.2, by omega, ?_⟩
        refine ⟨_, _, rfl, ?_⟩
        refine ⟨_, rfl, rfl, o, wd_or o, ?_⟩
        cases o with
        | true => exact iteT ⟨_, rfl, _, rfl, _, _, rfl, q⟩
        | false => exact iteF ⟨_, rfl, _, rfl, _, _, rfl, q⟩
theorem scThr : FnScope ["tree", "word", "one", "other", "first", "second"] ["tree"] (defScope sThr) := ⟨rfl, rfl, rfl, by decide +kernel, rfl, by decide +kernel, by decide +kernel⟩
def spThr (n : Nat) : Sp := fun vs H Q _ => ∃ (t : K13.T) (v : V), vs = [v] ∧ TreeAt H t v ∧ t.depth < n ∧ Q (.int t.thr) H
theorem ok_thr (D : DefAt K mg "threshold_of" sThr ["tree"]) (T : Tx K mg C) : ∀ n : Nat, Rdy P w K mg base "threshold_of" ["tree"] (n + 1) (spThr n)
  | 0 => rdy0 D fun vs H Q E h => by
    obtain ⟨t, v, _, _, h, _⟩ := h
    exact absurd h (Nat.not_lt_zero _)
  | n + 1 => by
    obtain ⟨f0, fd0, F0, g0, k0, b0⟩ := ok_thr D T n
    obtain ⟨f, fd, F, g, b⟩ := D
    refine ⟨f, fd, F.ok scThr (fun vs H Q E h => ?_) (fun cdv A outer s H vs Q E hr h => ?_), g, F.kp, b⟩
    · obtain ⟨t, v, rfl, _⟩ := h
      rfl
    · obtain ⟨t, v, rfl, ht, hd, q⟩ := h
      refine ⟨_, pss_cons (ps_asg (pv 0) (pg_tup rfl (pgs_cons (pg_name (i := 1) scThr.nd rfl (.inl rfl)) (pgs_cons (pg_name (i := 2) scThr.nd rfl (.inl rfl)) (pgs_cons (pg_name (i := 3) scThr.nd rfl (.inl rfl)) pgs_nil)))))
        (pss_cons (ps_if (pt_cmpR op_eq (pv 1) pe_str (nomark _)) (pss_one (ps_ret (pe_callB (call_max2 rfl) (by rfl) T.max (by decide +kernel) (pa_cons (pv 2) (pa_cons (pv 3) pa_nil))))) pss_nil)
        (pss_cons (ps_par (i := 4) (j := 5) rfl scThr.nd rfl rfl (by decide) rfl rfl (pa_cons (pe_call F0 hr (by rfl) g0 k0 b0 .nil pass0 (pa_cons (pv 2) pa_nil)) (pa_cons (pe_call F0 hr (by rfl) g0 k0 b0 .nil pass0 (pa_cons (pv 3) pa_nil)) pa_nil)) (by rfl))
        (pss_one (ps_ret (pe_ifExp (pt_cmpR op_eq (pv 1) pe_str (nomark _)) (pe_callB (call_min2 rfl) (by rfl) T.min (by decide +kernel) (pa_cons (pv 4) (pa_cons (pv 5) pa_nil))) (pe_callB (call_max2 rfl) (by rfl) T.max (by decide +kernel) (pa_cons (pv 4) (pa_cons (pv 5) pa_nil)))))))), ?_⟩
      rcases ht.two with ⟨i, q', p, rfl, rfl, hp⟩ | ⟨o, a, b, p, x, y, rfl, rfl, hp, ha, hb⟩
      · refine ⟨_, rfl, p, _, rfl, SqT.of hp, rfl, _, _, rfl, _, _, rfl, _, _, rfl, rfl, ?_⟩
        refine ⟨_, rfl, rfl, true, at_at, iteT ?_⟩
        exact ⟨_, rfl, _, rfl, _, _, rfl, q⟩
      · rw [jn_depth] at hd
        refine ⟨_, rfl, p, _, rfl, SqT.of hp, rfl, _, _, rfl, _, _, rfl, _, _, rfl, rfl, ?_⟩
        refine ⟨_, rfl, rfl, false, wd_at o, iteF ?_⟩
        refine ⟨_, rfl, a, x, rfl, ha, by omega, ?_⟩
        refine ⟨_, rfl, b, y, rfl, hb, by omega, ?_⟩
        refine ⟨_, _, rfl, ?_⟩
        refine ⟨_, rfl, rfl, o, wd_or o, ?_⟩
        cases o with
        | true => exact iteT ⟨_, rfl, _, rfl, _, _, rfl, q⟩
        | false => exact iteF ⟨_, rfl, _, rfl, _, _, rfl, q⟩
end
end K13

namespace K13
open PySem PySem.Spec PyProof.Rows L2
/-- a method of the class as the top leaves it -/
def FunAt (K : PySem.W.Frag) (x qual : Str) (st : Stmt) (ps : List Str) (f : Addr) : Prop := ∃ fd, Fun K x qual st f fd ∧ Binds K fd ps []
def RdyM (P : Program) (w : World) (K : PySem.W.Frag) (mg : Str → Option Value) (base : Heap) (f : Addr) (ps : List Str) (k : Nat) (sp : Sp) : Prop := ∃ fd, FnOk P w K mg base CX0 k f fd ps sp ∧ Binds K fd ps []
theorem its_look {tr : V} : ([("its_tree", tr)] : List (Str × V)).lookup ("its_tree" : Str) = some tr := by simp [List.lookup]
theorem its_none {tr : V} {m : Str} (h : (m == ("its_tree" : Str)) = false) : ([("its_tree", tr)] : List (Str × V)).lookup m = none := by simp [List.lookup, h]
section
variable {P : Program} {w : World} {K : PySem.W.Frag} {mg : Str → Option Value} {base : Heap} {C : Addr}
/-! ### Rule -/
theorem scInit : FnScope ["self", "tree"] ["self", "tree"] (defScope sInit) := ⟨rfl, rfl, rfl, by decide +kernel, rfl, by decide +kernel, by decide +kernel⟩
def spInit (C : Addr) : Sp := fun vs H Q _ => ∃ (p dx : Addr) (t : K13.T) (v : V) (M : Int), vs = [.ref p, v] ∧ H p = some (.ins C dx []) ∧ TreeAt H t v ∧ t.ok M ∧ t.atoms ≤ 6 ∧
  ∀ H' : Hp, Keep p H H' → H' p = some (.ins C dx [("its_tree", v)]) → Q .non H'
theorem ok_init {f : Addr} (D : FunAt K "__init__" "Rule.__init__" sInit ["self", "tree"] f) (T : Tx K mg C) (G : Rdy P w K mg base "is_tree" ["thing"] 9 spIsTree) : RdyM P w K mg base f ["self", "tree"] 10 (spInit C) := by
  obtain ⟨fd, F, b⟩ := D
  obtain ⟨f1, fd1, F1, g1, k1, b1⟩ := G
  refine ⟨fd, F.ok scInit (fun vs H Q E h => ?_) (fun cdv A outer s H vs Q E hr h => ?_), b⟩
  · obtain ⟨p, dx, t, v, M, rfl, _⟩ := h
    rfl
  · obtain ⟨p, dx, t, v, M, rfl, hp, ht, hok, hl, q⟩ := h
    refine ⟨_, pss_cons (ps_if (pt_not (pt_val (pe_call F1 hr (by rfl) g1 k1 b1 .nil pass0 (pa_cons (pv 1) pa_nil)))) (pss_one ps_never) pss_nil) (pss_one (ps_fld (pv 0) (pv 1) rfl)), ?_⟩
    refine ⟨_, rfl, t, v, M, rfl, ht, hok, hl, fun H1 s1 => ⟨true, rfl, iteF ?_⟩⟩
    refine ⟨_, rfl, _, rfl, p, C, dx, [], rfl, s1 _ _ hp, T.cl, T.noT, (by show 0 < 1000; decide), ?_⟩
    exact q _ (fun c o e n => by
      rw [upd_ne n]
      exact s1 c o e) upd_same
/-- Rule(tree): from a promise of what comes of it -/
theorem made {x dx : Addr} {v : V} {t : K13.T} {M : Int} {H1 : Hp} {Q : VK} (hx : H1 x = none) (hdx : H1 dx = none) (ne : dx ≠ x) (ht : TreeAt H1 t v) (hok : t.ok M) (hl : t.atoms ≤ 6)
    (k : ∀ H2, Same H1 H2 → RuleAt H2 C t (.ref x) → Q (.ref x) H2) : spInit C (.ref x :: ([v] ++ [])) (upd (upd H1 dx (.own x)) x (.ins C dx [])) (fun u H2 => u = .non ∧ Q (.ref x) H2) E0 := by
  have s1 : Same H1 (upd (upd H1 dx (.own x)) x (.ins C dx [])) := (same_new hdx).trans (same_new (by rw [upd_ne (Ne.symm ne)]; exact hx))
  refine ⟨x, dx, t, v, M, rfl, upd_same, ht.mono (Tups.of_same s1), hok, hl, fun H' kp hx' => ?_⟩
  have s2 : Same H1 H' := fun c o e => kp c o (s1 c o e) (ne_of_none e hx)
  exact ⟨rfl, k H' s2 ⟨x, dx, v, rfl, hx', ht.mono (Tups.of_same s2)⟩⟩
theorem scCall : FnScope ["self", "amount"] ["self", "amount"] (defScope sCall) := ⟨rfl, rfl, rfl, by decide +kernel, rfl, by decide +kernel, by decide +kernel⟩
def spCall (C : Addr) : Sp := fun vs H Q _ => ∃ (t : K13.T) (v : V) (m M : Int), vs = [v, .int m] ∧ RuleAt H C t v ∧ t.ok M ∧ t.atoms ≤ 6 ∧ Q (.int (t.giv m)) H
theorem ok_call {f : Addr} (D : FunAt K "__call__" "Rule.__call__" sCall ["self", "amount"] f) (T : Tx K mg C) (G : Rdy P w K mg base "given_of" ["tree", "amount"] 7 (spGiven 6)) : RdyM P w K mg base f ["self", "amount"] 8 (spCall C) := by
  obtain ⟨fd, F, b⟩ := D
  obtain ⟨f1, fd1, F1, g1, k1, b1⟩ := G
  refine ⟨fd, F.ok scCall (fun vs H Q E h => ?_) (fun cdv A outer s H vs Q E hr h => ?_), b⟩
  · obtain ⟨t, v, m, M, rfl, _⟩ := h
    rfl
  · obtain ⟨t, v, m, M, rfl, ⟨p, dx, tr, rfl, hp, ht⟩, hok, hl, q⟩ := h
    have hd := t.depth_lt
    refine ⟨_, pss_one (ps_ret (pe_call F1 hr (by rfl) g1 k1 b1 .nil pass0 (pa_cons (pe_fld (pv 0) rfl) (pa_cons (pv 1) pa_nil)))), ?_⟩
    exact ⟨_, rfl, p, C, dx, _, tr, rfl, hp, T.cl, T.noT, its_look, _, rfl, t, tr, m, M, rfl, ht, hok, by omega, q⟩
theorem scRest : FnScope ["self", "amount"] ["self", "amount"] (defScope sRest) := ⟨rfl, rfl, rfl, by decide +kernel, rfl, by decide +kernel, by decide +kernel⟩
def spRest (C : Addr) : Sp := fun vs H Q _ => ∃ (t : K13.T) (v : V) (m M : Int), vs = [v, .int m] ∧ RuleAt H C t v ∧ t.ok M ∧ t.atoms ≤ 6 ∧ Q (.int (m - t.giv m)) H
theorem ok_rest {f : Addr} (D : FunAt K "rest" "Rule.rest" sRest ["self", "amount"] f) (T : Tx K mg C) (G : Rdy P w K mg base "given_of" ["tree", "amount"] 7 (spGiven 6)) : RdyM P w K mg base f ["self", "amount"] 8 (spRest C) := by
  obtain ⟨fd, F, b⟩ := D
  obtain ⟨f1, fd1, F1, g1, k1, b1⟩ := G
  refine ⟨fd, F.ok scRest (fun vs H Q E h => ?_) (fun cdv A outer s H vs Q E hr h => ?_), b⟩
  · obtain ⟨t, v, m, M, rfl, _⟩ := h
    rfl
  · obtain ⟨t, v, m, M, rfl, ⟨p, dx, tr, rfl, hp, ht⟩, hok, hl, q⟩ := h
    have hd := t.depth_lt
    refine ⟨_, pss_one (ps_ret (pe_op op_sub (pv 1) (pe_call F1 hr (by rfl) g1 k1 b1 .nil pass0 (pa_cons (pe_fld (pv 0) rfl) (pa_cons (pv 1) pa_nil))))), ?_⟩
    exact ⟨_, rfl, _, rfl, p, C, dx, _, tr, rfl, hp, T.cl, T.noT, its_look, _, rfl, t, tr, m, M, rfl, ht, hok, by omega, m, _, rfl, rfl, q⟩
theorem scThreshold : FnScope ["self"] ["self"] (defScope sThreshold) := ⟨rfl, rfl, rfl, by decide +kernel, rfl, by decide +kernel, by decide +kernel⟩
def spThreshold (C : Addr) : Sp := fun vs H Q _ => ∃ (t : K13.T) (v : V), vs = [v] ∧ RuleAt H C t v ∧ t.atoms ≤ 6 ∧ Q (.int t.thr) H
theorem ok_threshold {f : Addr} (D : FunAt K "threshold" "Rule.threshold" sThreshold ["self"] f) (T : Tx K mg C) (G : Rdy P w K mg base "threshold_of" ["tree"] 7 (spThr 6)) : RdyM P w K mg base f ["self"] 8 (spThreshold C) := by
  obtain ⟨fd, F, b⟩ := D
  obtain ⟨f1, fd1, F1, g1, k1, b1⟩ := G
  refine ⟨fd, F.ok scThreshold (fun vs H Q E h => ?_) (fun cdv A outer s H vs Q E hr h => ?_), b⟩
  · obtain ⟨t, v, rfl, _⟩ := h
    rfl
  · obtain ⟨t, v, rfl, ⟨p, dx, tr, rfl, hp, ht⟩, hl, q⟩ := h
    have hd := t.depth_lt
    refine ⟨_, pss_one (ps_ret (pe_call F1 hr (by rfl) g1 k1 b1 .nil pass0 (pa_cons (pe_fld (pv 0) rfl) pa_nil))), ?_⟩
    exact ⟨_, rfl, p, C, dx, _, tr, rfl, hp, T.cl, T.noT, its_look, t, tr, rfl, ht, by omega, q⟩
theorem scFew : FnScope ["one", "other"] ["one", "other"] (defScope sFew) := ⟨rfl, rfl, rfl, by decide +kernel, rfl, by decide +kernel, by decide +kernel⟩
def spFew : Sp := fun vs H Q _ => ∃ (a b : K13.T) (x y : V), vs = [x, y] ∧ TreeAt H a x ∧ TreeAt H b y ∧ a.atoms + b.atoms ≤ 6 ∧ ∀ H' : Hp, Same H H' → Q .non H'
theorem ok_few (D : DefAt K mg "need_few" sFew ["one", "other"]) (T : Tx K mg C) (G : Rdy P w K mg base "atoms_of" ["tree"] 7 (spAtoms 6)) : Rdy P w K mg base "need_few" ["one", "other"] 8 spFew := by
  obtain ⟨f, fd, F, g, b⟩ := D
  obtain ⟨f1, fd1, F1, g1, k1, b1⟩ := G
  obtain ⟨t6, g6⟩ := T.at6
  refine ⟨f, fd, F.ok scFew (fun vs H Q E h => ?_) (fun cdv A outer s H vs Q E hr h => ?_), g, F.kp, b⟩
  · obtain ⟨a, b, x, y, rfl, _⟩ := h
    rfl
  · obtain ⟨a, b, x, y, rfl, ha, hb, hl, q⟩ := h
    have h1 := a.depth_lt
    have h2 := b.depth_lt
    have h3 := a.atoms_pos
    have h4 := b.atoms_pos
    refine ⟨_, pss_one (ps_if (pt_cmpR op_gt (pe_callB call_len_seq (by rfl) T.len PySem.boot_len (pa_cons (pe_op op_cat (pe_call F1 hr (by rfl) g1 k1 b1 .nil pass0 (pa_cons (pv 0) pa_nil)) (pe_call F1 hr (by rfl) g1 k1 b1 .nil pass0 (pa_cons (pv 1) pa_nil))) pa_nil))
      (pe_glob (v := .int 6) (by rfl) g6 ⟨_, rfl⟩) (nomark _)) (pss_one ps_never) pss_nil), ?_⟩
    refine ⟨_, rfl, a, x, rfl, ha, by omega, by omega, fun H1 p1 xs1 s1 n1 e1 l1 => ?_⟩
    refine ⟨_, rfl, b, y, rfl, hb.mono (Tups.of_same s1), by omega, by omega, fun H2 p2 xs2 s2 n2 e2 l2 => ?_⟩
    refine ⟨p1, p2, xs1, xs2, rfl, rfl, s2 _ _ e1, e2, Nat.le_of_lt (small1000 (by omega)), fun l hl' => ?_⟩
    refine ⟨l, _, rfl, .inl (SqL.of upd_same), _, 6, rfl, rfl, false, bl_false ?_, iteF ?_⟩
    · rw [List.length_append]
      omega
    · exact q _ ((s1.trans s2).trans (same_new hl'))
theorem scOr : FnScope ["self", "other"] ["self", "other"] (defScope sOr) := ⟨rfl, rfl, rfl, by decide +kernel, rfl, by decide +kernel, by decide +kernel⟩
theorem scAnd : FnScope ["self", "other"] ["self", "other"] (defScope sAnd) := ⟨rfl, rfl, rfl, by decide +kernel, rfl, by decide +kernel, by decide +kernel⟩
/-- o: | or & -/
def spJoin (C : Addr) (o : Bool) : Sp := fun vs H Q _ => ∃ (a b : K13.T) (x y : V) (M : Int), vs = [x, y] ∧ RuleAt H C a x ∧ RuleAt H C b y ∧ a.ok M ∧ b.ok M ∧ a.atoms + b.atoms ≤ 6 ∧
  ∀ (H' : Hp) (p : Addr), Same H H' → RuleAt H' C (jn o a b) (.ref p) → Q (.ref p) H'
theorem ok_or {f f0 : Addr} (D : FunAt K "__or__" "Rule.__or__" sOr ["self", "other"] f) (T : Tx K mg C) (M0 : Mk K C f0) (G : RdyM P w K mg base f0 ["self", "tree"] 10 (spInit C)) (N : Rdy P w K mg base "need_few" ["one", "other"] 8 spFew) :
    RdyM P w K mg base f ["self", "other"] 12 (spJoin C true) := by
  obtain ⟨fd, F, b⟩ := D
  obtain ⟨fd0, F0, b0⟩ := G
  obtain ⟨f1, fd1, F1, g1, k1, b1⟩ := N
  refine ⟨fd, F.ok scOr (fun vs H Q E h => ?_) (fun cdv A outer s H vs Q E hr h => ?_), b⟩
  · obtain ⟨a, b, x, y, M, rfl, _⟩ := h
    rfl
  · obtain ⟨a, b, x, y, M, rfl, ⟨p, dx, tp, rfl, hp, hta⟩, ⟨p', dx', tp', rfl, hp', htb⟩, oka, okb, hl, q⟩ := h
    refine ⟨_, pss_cons (ps_expr (pe_call F1 (hr.mono (by decide)) (by rfl) g1 k1 b1 .nil pass0 (pa_cons (pe_fld (pv 0) rfl) (pa_cons (pe_fld (pv 1) rfl) pa_nil))))
      (pss_one (ps_ret (pe_make M0 F0 hr (by rfl) T.mgC b0 .nil pass0 (pa_cons (pe_tup (pa_cons pe_str (pa_cons (pe_fld (pv 0) rfl) (pa_cons (pe_fld (pv 1) rfl) pa_nil)))) pa_nil)))), ?_⟩
    refine ⟨_, rfl, p, C, dx, _, tp, rfl, hp, T.cl, T.noT, its_look, _, rfl, p', C, dx', _, tp', rfl, hp', T.cl, T.noT, its_look, a, b, tp, tp', rfl, hta, htb, hl, fun H1 s1 => ?_⟩
    refine ⟨_, rfl, p, C, dx, _, tp, rfl, s1 _ _ hp, T.cl, T.noT, its_look, _, rfl, p', C, dx', _, tp', rfl, s1 _ _ hp', T.cl, T.noT, its_look, (by show 3 ≤ sizeLine; decide), fun l hl' => ?_⟩
    have s2 := s1.trans (same_new (o := .tup [.str "or", tp, tp']) hl')
    intro x dy hx hdy ne
    refine made hx hdy ne (t := jn true a b) (M := M) (TreeAt.join (o := true) upd_same (hta.mono (Tups.of_same s2)) (htb.mono (Tups.of_same s2))) (by rw [jn_ok]; exact ⟨oka, okb⟩) (by rw [jn_atoms]; exact hl) fun H2 s3 r => ?_
    exact q H2 x (s2.trans s3) r
theorem ok_and {f f0 : Addr} (D : FunAt K "__and__" "Rule.__and__" sAnd ["self", "other"] f) (T : Tx K mg C) (M0 : Mk K C f0) (G : RdyM P w K mg base f0 ["self", "tree"] 10 (spInit C)) (N : Rdy P w K mg base "need_few" ["one", "other"] 8 spFew) :
    RdyM P w K mg base f ["self", "other"] 12 (spJoin C false) := by
  obtain ⟨fd, F, b⟩ := D
  obtain ⟨fd0, F0, b0⟩ := G
  obtain ⟨f1, fd1, F1, g1, k1, b1⟩ := N
  refine ⟨fd, F.ok scAnd (fun vs H Q E h => ?_) (fun cdv A outer s H vs Q E hr h => ?_), b⟩
  · obtain ⟨a, b, x, y, M, rfl, _⟩ := h
    rfl
  · obtain ⟨a, b, x, y, M, rfl, ⟨p, dx, tp, rfl, hp, hta⟩, ⟨p', dx', tp', rfl, hp', htb⟩, oka, okb, hl, q⟩ := h
    refine ⟨_, pss_cons (ps_expr (pe_call F1 (hr.mono (by decide)) (by rfl) g1 k1 b1 .nil pass0 (pa_cons (pe_fld (pv 0) rfl) (pa_cons (pe_fld (pv 1) rfl) pa_nil))))
      (pss_one (ps_ret (pe_make M0 F0 hr (by rfl) T.mgC b0 .nil pass0 (pa_cons (pe_tup (pa_cons pe_str (pa_cons (pe_fld (pv 0) rfl) (pa_cons (pe_fld (pv 1) rfl) pa_nil)))) pa_nil)))), ?_⟩
    refine ⟨_, rfl, p, C, dx, _, tp, rfl, hp, T.cl, T.noT, its_look, _, rfl, p', C, dx', _, tp', rfl, hp', T.cl, T.noT, its_look, a, b, tp, tp', rfl, hta, htb, hl, fun H1 s1 => ?_⟩
    refine ⟨_, rfl, p, C, dx, _, tp, rfl, s1 _ _ hp, T.cl, T.noT, its_look, _, rfl, p', C, dx', _, tp', rfl, s1 _ _ hp', T.cl, T.noT, its_look, (by show 3 ≤ sizeLine; decide), fun l hl' => ?_⟩
    have s2 := s1.trans (same_new (o := .tup [.str "and", tp, tp']) hl')
    intro x dy hx hdy ne
    refine made hx hdy ne (t := jn false a b) (M := M) (TreeAt.join (o := false) upd_same (hta.mono (Tups.of_same s2)) (htb.mono (Tups.of_same s2))) (by rw [jn_ok]; exact ⟨oka, okb⟩) (by rw [jn_atoms]; exact hl) fun H2 s3 r => ?_
    exact q H2 x (s2.trans s3) r
/-! ### at_least, with its default -/
theorem scAtLeast : FnScope ["least", "by"] ["least", "by"] (defScope sAtLeast) := ⟨rfl, rfl, rfl, by decide +kernel, rfl, by decide +kernel, by decide +kernel⟩
def spAtLeast (C : Addr) : Sp := fun vs H Q _ => ∃ (t q' M : Int), vs = [.int t, .int q'] ∧ (K13.T.atm t q').ok M ∧ ∀ (H' : Hp) (p : Addr), Same H H' → RuleAt H' C (.atm t q') (.ref p) → Q (.ref p) H'
/-- at_least as the top leaves it: called with two values, with one -/
def LeastAt (K : PySem.W.Frag) (mg : Str → Option Value) (f : Addr) (fd : FuncData) : Prop := FunD K "at_least" "at_least" (defArgs sAtLeast) (defBody sAtLeast) (defScope sAtLeast) [.int 1] [] f fd ∧ mg "at_least" = some (.ref f)
def RdyL (P : Program) (w : World) (K : PySem.W.Frag) (mg : Str → Option Value) (base : Heap) (k : Nat) (sp : Sp) : Prop :=
  ∃ f fd, FnOk P w K mg base CX0 k f fd ["least", "by"] sp ∧ mg "at_least" = some (.ref f) ∧ PySem.W.keepIn K (.ref f) = true ∧ Binds K fd ["least", "by"] [] ∧ ∃ ds, Vals [.int 1] ds ∧ Binds K fd ["least", "by"] ds
theorem ok_atLeast {f f0 : Addr} {fd : FuncData} (D : LeastAt K mg f fd) (T : Tx K mg C) (M0 : Mk K C f0) (G : RdyM P w K mg base f0 ["self", "tree"] 10 (spInit C)) (N : Rdy P w K mg base "is_number" ["least", "thing"] 2 spIsNum) : RdyL P w K mg base 12 (spAtLeast C) := by
  obtain ⟨F, g⟩ := D
  obtain ⟨fd0, F0, b0⟩ := G
  obtain ⟨f1, fd1, F1, g1, k1, b1⟩ := N
  obtain ⟨t6, g6⟩ := T.by6
  have B2 : Binds K fd ["least", "by"] [] := by
    obtain ⟨ds, hv, hb⟩ := F.binds1 (ps := ["least", "by"]) 2 1 (by simp) rfl fun T kV doc pm an cdv ct us its hu hi => match us, hu, its, hi with | [_, _], _, [_], _ => ⟨_, rfl, rfl⟩
    cases hv
    exact hb
  have B1 : ∃ ds, Vals [.int 1] ds ∧ Binds K fd ["least", "by"] ds := F.binds1 (ps := ["least", "by"]) 1 0 (by simp) rfl fun T kV doc pm an cdv ct us its hu hi => match us, hu, its, hi with | [_], _, [_], _ => ⟨_, rfl, rfl⟩
  refine ⟨f, fd, F.ok scAtLeast (fun vs H Q E h => ?_) (fun cdv A outer s H vs Q E hr h => ?_), g, F.kp, B2, B1⟩
  · obtain ⟨t, q', M, rfl, _⟩ := h
    rfl
  · obtain ⟨t, q', M, rfl, hok, q⟩ := h
    obtain ⟨h1, h2, h3, h4⟩ := id hok
    have hr1 : Room 2 _ := hr.mono (by decide)
    refine ⟨_, PSs.nox (pss_cons (ps_if (pt_not (pt_val (pe_call F1 hr1 (by rfl) g1 k1 b1 .nil pass0 (pa_cons pe_int (pa_cons (pv 0) pa_nil))))) (pss_one ps_never) pss_nil)
      (pss_cons (ps_if (PW.pt (pw_or (pt_not (pt_val (pe_call F1 hr1 (by rfl) g1 k1 b1 .nil pass0 (pa_cons pe_int (pa_cons (pv 1) pa_nil))))) (pw_or1 (pt_cmpR op_gt (pv 1) (pe_glob (v := .int 6) (by rfl) g6 ⟨_, rfl⟩) (nomark _))))) (pss_one ps_never) pss_nil)
      (pss_one (ps_ret (pe_make M0 F0 hr (by rfl) T.mgC b0 .nil pass0 (pa_cons (pe_tup (pa_cons pe_str (pa_cons (pv 0) (pa_cons (pv 1) pa_nil)))) pa_nil)))))), ?_⟩
    refine ⟨_, rfl, 1, t, rfl, true, bl_true h1, iteF ?_⟩
    refine ⟨_, rfl, 1, q', rfl, true, bl_true h3, iteF ?_⟩
    refine ⟨_, rfl, q', 6, rfl, rfl, false, bl_false (by omega), iteF ?_⟩
    refine ⟨_, rfl, _, rfl, (by show 3 ≤ sizeLine; decide), fun l hl' => ?_⟩
    have s2 := same_new (o := .tup [.str "at", .int t, .int q']) hl'
    intro x dy hx hdy ne
    refine made hx hdy ne (t := .atm t q') (M := M) ⟨l, rfl, upd_same⟩ hok (by show 1 ≤ 6; decide) fun H2 s3 r => ?_
    exact q H2 x (s2.trans s3) r
end
end K13

namespace K13
open PySem PySem.Spec PyProof.Rows L2
abbrev sBag : Stmt := topS 24
abbrev sTake : Stmt := topS 25
abbrev sAlike : Stmt := topS 26
abbrev sSize : Stmt := topS 27
abbrev sLThr : Stmt := topS 28
/-- the bag as it stands -/
structure BagIs (H : Hp) (b : Addr) (g m k : Int) (c : Addr) (cells : List Int) : Prop where
  ob : H b = some (.lst [.int g, .int m, .int k, .ref c])
  ne : c ≠ b
  oc : H c = some (.lst (cells.map V.int))
theorem BagIs.put {H : Hp} {b c : Addr} {g m k g' m' k' : Int} {cells : List Int} (h : BagIs H b g m k c cells) : BagIs (upd H b (.lst [.int g', .int m', .int k', .ref c])) b g' m' k' c cells :=
  ⟨upd_same, h.ne, by rw [upd_ne h.ne]; exact h.oc⟩
theorem BagIs.bag {H : Hp} {b c : Addr} {g m k : Int} {cells : List Int} (h : BagIs H b g m k c cells) (h0 : 0 ≤ k) : Bag H b c := ⟨g, m, k, cells, h.ob, h.ne, h.oc, h0⟩
theorem atI_lt {xs : List V} {i : Int} (h0 : 0 ≤ i) (h1 : i < xs.length) : ∃ v, v ∈ xs ∧ atI xs i = some v := by
  have hj : i.toNat < xs.length := by omega
  refine ⟨xs[i.toNat], List.getElem_mem hj, ?_⟩
  have e : i = ((i.toNat : Nat) : Int) := by omega
  have z := atI_nat (xs := xs) (j := i.toNat) (v := xs[i.toNat]) (List.getElem?_eq_getElem hj)
  rw [← e] at z
  exact z
/-- a comprehension's turn where nothing is tested -/
theorem yes_if {σ : L2.St} {H : Hp} {A B : Hp → Prop} (h : A H) : tYes σ H fun b H3 => if b = true then A H3 else B H3 := by
  show (if true = true then A H else B H)
  rw [if_pos rfl]
  exact h
theorem four0 {α : Type} {a b c d : α} : atI [a, b, c, d] 0 = some a := rfl
theorem four1 {α : Type} {a b c d : α} : atI [a, b, c, d] 1 = some b := rfl
theorem four2 {α : Type} {a b c d : α} : atI [a, b, c, d] 2 = some c := rfl
theorem four3 {α : Type} {a b c d : α} : atI [a, b, c, d] 3 = some d := rfl
theorem cut_ints (ns : List Int) (lo hi : Option Int) : ∃ ms : List Int, cutV (ns.map V.int) lo hi = ms.map V.int ∧ ms.length ≤ ns.length := by
  unfold cutV
  rw [List.length_map, ← List.map_drop, ← List.map_take]
  refine ⟨_, rfl, ?_⟩
  rw [List.length_take, List.length_drop]
  omega
section
variable {P : Program} {w : World} {K : PySem.W.Frag} {mg : Str → Option Value} {base : Heap} {C : Addr}
/-! ### the bag is made -/
theorem scBag : FnScope ["_law_script", "_law_cell"] ["_law_script"] (defScope sBag) := ⟨rfl, rfl, rfl, by decide +kernel, rfl, by decide +kernel, by decide +kernel⟩
def spBag (K : PySem.W.Frag) : Sp := fun vs H Q _ => ∃ (a : Addr) (ns : List Int), vs = [.ref a] ∧ SqL K H a (ns.map V.int) ∧ ns.length ≤ 63 ∧ ∀ (H' : Hp) (b c : Addr), H b = none → Same H H' → Bag H' b c → Q (.ref b) H'
theorem ok_bag (D : DefAt K mg "_law_bag" sBag ["_law_script"]) (T : Tx K mg C) : Rdy P w K mg base "_law_bag" ["_law_script"] 1 (spBag K) := by
  obtain ⟨f, fd, F, g, b⟩ := D
  refine ⟨f, fd, F.ok scBag (fun vs H Q E h => ?_) (fun cdv A outer s H vs Q E hr h => ?_), g, F.kp, b⟩
  · obtain ⟨a, ns, rfl, _⟩ := h
    rfl
  · obtain ⟨a, ns, rfl, hS, hlen, q⟩ := h
    refine ⟨_, pss_one (ps_ret (pe_lst (pa_cons pe_int (pa_cons pe_int (pa_cons pe_int (pa_cons
      (pe_lc (own := [("_law_cell", 1)]) (g := gName 1) (by rfl) scBag.nd (pi_list (pe_slice sl_list (pv 0) po_none (po_some pe_int))) (blkOk_by (N := ["_law_script", "_law_cell"]) (sc := defScope sBag) (by decide +kernel))
        (fun _ _ _ _ _ => pg_name (i := 1) scBag.nd rfl (Or.inl rfl)) (fun _ _ _ _ _ => pts_nil) (fun _ _ _ _ _ => pe_callB call_abs (by rfl) T.abs (by decide +kernel) (pa_cons (pv 1) pa_nil))) pa_nil)))))), ?_⟩
    obtain ⟨ms, em, lm⟩ := cut_ints ns none (some 63)
    refine ⟨.ref a, rfl, 63, rfl, a, _, rfl, hS, fun p np => ?_⟩
    rw [em]
    have s1 := same_new (o := .lst (ms.map V.int)) np
    refine ⟨p, rfl, ⟨_, SqL.of upd_same⟩, fun D nD => ?_⟩
    have pD : p ≠ D := ne_of_none upd_same nD
    refine lc_list (K := K) (a := p) (xs := ms.map V.int) (fun i H' => Same H H' ∧ H' p = some (.lst (ms.map V.int)) ∧ ∃ acc : List Int, H' D = some (.lst (acc.map V.int)) ∧ acc.length = i)
      ⟨s1.trans (same_new nD), by rw [upd_ne pD]; exact upd_same, [], upd_same, rfl⟩ (fun i H' _ h => SqL.of h.2.1) (fun i x H' hx h => ?_) (fun H' h => ?_)
    · obtain ⟨s2, hp, acc, hD, ha⟩ := h
      obtain ⟨z, hz, rfl⟩ := List.mem_map.mp (List.mem_of_getElem? hx)
      have hi : i < ms.length := by
        have := (List.getElem?_eq_some_iff.mp hx).1
        rw [List.length_map] at this
        exact this
      refine ⟨rfl, yes_if ?_⟩
      refine ⟨_, rfl, z, rfl, acc.map V.int, hD, ?_, ?_⟩
      · rw [List.length_map]
        exact small1000 (by omega)
      · refine ⟨same_mut s2 (s1.free nD), by rw [upd_ne pD]; exact hp, acc ++ [if z < 0 then -z else z], ?_, by rw [List.length_append, ha] <;> rfl⟩
        rw [upd_same, List.map_append]
        rfl
    · obtain ⟨s2, hp, acc, hD, ha⟩ := h
      refine ⟨(by show 4 ≤ sizeLine; decide), fun b nb => ?_⟩
      have nDb : D ≠ b := ne_of_none hD nb
      exact q _ b D (s2.free nb) (s2.trans (same_new nb)) ⟨0, 1234567891, 0, acc, upd_same, nDb, by rw [upd_ne nDb]; exact hD, Int.le_refl _⟩
/-! ### a draw -/
theorem pM : (0 : Int) < 2147483647 := by decide
theorem pN : (0 : Int) < 1000000007 := by decide
theorem pO : (0 : Int) < 998244353 := by decide
theorem scTake : FnScope ["_law_bag_here", "_law_many", "_law_cell", "_law_mixed", "_law_value", "_law_begin", "_law_second"] ["_law_bag_here", "_law_many"] (defScope sTake) := ⟨rfl, rfl, rfl, by decide +kernel, rfl, by decide +kernel, by decide +kernel⟩
def spTake : Sp := fun vs H Q _ => ∃ (b c : Addr) (n : Int), vs = [.ref b, .int n] ∧ Bag H b c ∧ 0 < n ∧ n.natAbs.log2 < 9000 ∧ ∀ (v : Int) (H' : Hp), 0 ≤ v → v < n → Bag H' b c → Keep b H H' → Q (.int v) H'
theorem ok_take (D : DefAt K mg "_law_take" sTake ["_law_bag_here", "_law_many"]) (T : Tx K mg C) : Rdy P w K mg base "_law_take" ["_law_bag_here", "_law_many"] 1 spTake := by
  obtain ⟨f, fd, F, g, b⟩ := D
  refine ⟨f, fd, F.ok scTake (fun vs H Q E h => ?_) (fun cdv A outer s H vs Q E hr h => ?_), g, F.kp, b⟩
  · obtain ⟨b, c, n, rfl, _⟩ := h
    rfl
  · obtain ⟨b, c, n, rfl, hB, hn, hlog, q⟩ := h
    refine ⟨_, C8.pss_cut (ps_if (pt_cmpR op_eq (pe_ix ix_list (pv 0) pe_int (fun _ _ => rfl)) pe_int (nomark _))
        (pss_cons (ps_set (i := 2) scTake.nd rfl (Or.inl rfl) pe_int)
        (C8.pss_cut (ps_if (pt_cmpR op_lt (pe_ix ix_list (pv 0) pe_int (fun _ _ => rfl)) (pe_callB call_len_seq (by rfl) T.len PySem.boot_len (pa_cons (pe_ix ix_list (pv 0) pe_int (fun _ _ => rfl)) pa_nil)) (nomark _))
          (pss_one (ps_set (i := 2) scTake.nd rfl (Or.inl rfl) (pe_ix ix_list (pe_ix ix_list (pv 0) pe_int (fun _ _ => rfl)) (pe_ix ix_list (pv 0) pe_int (fun _ _ => rfl)) (fun _ _ => rfl)))) pss_nil)
        (pss_cons (ps_augS (pv 0) pe_int get_list pe_int ip_add set_list)
        (C8.pss_cut (ps_if (pt_cmpR op_ge (pv 2) pe_int (nomark _)) (pss_one (ps_asg (pv 2) (pg_sub (pv 0) pe_int set_list))) pss_nil)
        (pss_cons (ps_set (i := 3) scTake.nd rfl (Or.inl rfl) (pe_op op_add (pe_op op_add (pe_op op_mul (pe_ix ix_list (pv 0) pe_int (fun _ _ => rfl)) pe_int)
            (pe_op op_mod (pe_callTy call_int1 (by rfl) T.int (by decide +kernel) (pa_cons (pv 2) pa_nil)) pe_int)) (pe_op op_mul pe_int (pe_ix ix_list (pv 0) pe_int (fun _ _ => rfl)))))
        (pss_one (ps_asg (pe_op op_mod (pe_callTy call_int1 (by rfl) T.int (by decide +kernel) (pa_cons (pv 3) pa_nil)) pe_int) (pg_sub (pv 0) pe_int set_list)))))))) pss_nil)
      (pss_cons (ps_if (pt_cmpR op_gt (pe_ix ix_list (pv 0) pe_int (fun _ _ => rfl)) pe_int (nomark _))
        (pss_cons (ps_set (i := 4) scTake.nd rfl (Or.inl rfl) (pe_op op_mod (pe_callTy call_int1 (by rfl) T.int (by decide +kernel) (pa_cons (pe_ix ix_list (pv 0) pe_int (fun _ _ => rfl)) pa_nil)) (pv 1)))
        (pss_cons (ps_asg (pe_op op_fdivW (pe_ix ix_list (pv 0) pe_int (fun _ _ => rfl)) (pv 1)) (pg_sub (pv 0) pe_int set_list))
        (pss_one (ps_ret (pv 4))))) pss_nil)
      (pss_cons (ps_set (i := 5) scTake.nd rfl (Or.inl rfl) (pe_op op_mod (pe_callTy call_int1 (by rfl) T.int (by decide +kernel) (pa_cons (pe_op op_mul (pe_op op_add (pe_ix ix_list (pv 0) pe_int (fun _ _ => rfl)) pe_int) pe_int) pa_nil)) pe_int))
      (pss_cons (ps_set (i := 6) scTake.nd rfl (Or.inl rfl) (pe_op op_mod (pe_callTy call_int1 (by rfl) T.int (by decide +kernel) (pa_cons
          (pe_op op_mul (pe_op op_mod (pe_callTy call_int1 (by rfl) T.int (by decide +kernel) (pa_cons (pe_op op_mul (pv 5) (pv 5)) pa_nil)) pe_int) pe_int) pa_nil)) pe_int))
      (pss_cons (ps_if (pt_cmpR op_gt (pv 1) pe_int (nomark _)) (pss_one (ps_ret (pe_op op_mod (pe_callTy call_int1 (by rfl) T.int (by decide +kernel) (pa_cons (pe_op op_add (pe_op op_mul (pv 6) pe_int) (pv 5)) pa_nil)) (pv 1)))) pss_nil)
      (pss_one (ps_ret (pe_op op_mod (pe_callTy call_int1 (by rfl) T.int (by decide +kernel) (pa_cons (pe_op op_fdiv (pv 6) pe_int) pa_nil)) (pv 1)))))))), ?_⟩
    obtain ⟨g, m, k, cells, hb, ne, hc, h0⟩ := hB.ob
    have S : BagIs H b g m k c cells := ⟨hb, ne, hc⟩
    refine ⟨fun σ' H' => ∃ (y2 y3 : Option V), σ' = [some (.ref b), some (.int n), y2, y3, none, none, none] ∧ Bag H' b c ∧ Keep b H H', ?_, ?_⟩
    · -- if bag[0] == 0
      refine ⟨_, rfl, b, _, 0, _, rfl, rfl, SqL.of hb, four0, rfl, _, rfl, ite2 (fun _ => ?_) (fun _ => ?_)⟩
      · -- cell = 0; if bag[2] < len(bag[3]): cell = bag[3][bag[2]]
        refine ⟨fun σ' H' => ∃ cell : Int, σ' = [some (.ref b), some (.int n), some (.int cell), none, none, none, none] ∧ H' = H, ?_, ?_⟩
        · refine ⟨_, rfl, b, _, 2, _, rfl, rfl, SqL.of hb, four2, _, rfl, b, _, 3, _, rfl, rfl, SqL.of hb, four3, c, _, rfl, .inl (SqL.of hc), k, _, rfl, rfl, _, rfl, ite2 (fun hlt => ?_) (fun _ => ?_)⟩
          · obtain ⟨v, hv, hat⟩ := atI_lt h0 (of_decide_eq_true hlt)
            obtain ⟨z, _, rfl⟩ := List.mem_map.mp hv
            exact ⟨_, rfl, b, _, 3, _, rfl, rfl, SqL.of hb, four3, _, rfl, b, _, 2, _, rfl, rfl, SqL.of hb, four2, c, _, k, _, rfl, rfl, SqL.of hc, hat, z, rfl, rfl⟩
          · exact ⟨0, rfl, rfl⟩
        · rintro σ' H' ⟨cell, rfl, rfl⟩
          -- bag[2] += 1
          refine ⟨_, rfl, b, _, 2, _, rfl, rfl, SqL.of hb, (by decide), rfl, k, 1, rfl, rfl, b, _, 2, 2, rfl, rfl, hb, rfl, ?_⟩
          have S1 : BagIs (upd H' b (.lst [.int g, .int m, .int (k + 1), .ref c])) b g m (k + 1) c cells := S.put
          -- if cell >= 10 ** 18: bag[0] = cell
          refine ⟨fun σ' H2 => ∃ g' : Int, σ' = [some (.ref b), some (.int n), some (.int cell), none, none, none, none] ∧ BagIs H2 b g' m (k + 1) c cells ∧ Keep b H' H2, ?_, ?_⟩
          · refine ⟨_, rfl, cell, _, rfl, rfl, _, rfl, ite2 (fun _ => ?_) (fun _ => ?_)⟩
            · refine ⟨_, rfl, _, rfl, b, _, 0, 0, rfl, rfl, S1.ob, rfl, cell, rfl, S1.put, ?_⟩
              exact Keep.upd.trans Keep.upd
            · exact ⟨g, rfl, S1, Keep.upd⟩
          · rintro σ' H2 ⟨g', rfl, S2, K2⟩
            -- mixed = ..; bag[1] = ..
            refine ⟨_, rfl, b, _, 1, _, rfl, rfl, SqL.of S2.ob, four1, m, _, rfl, rfl, .inr (by decide), _, rfl, .inl ⟨_, rfl, cell, _, rfl, rfl, pM, _, _, rfl, rfl, _, rfl, b, _, 2, _, rfl, rfl, SqL.of S2.ob, four2, _, _, rfl, rfl, .inl (by decide), _, _, rfl, rfl, ?_⟩⟩
            refine ⟨_, rfl, .inl ⟨_, rfl, _, _, rfl, rfl, pM, _, rfl, b, _, 1, 1, rfl, rfl, S2.ob, rfl, ?_⟩⟩
            exact ⟨_, _, rfl, BagIs.bag (S2.put) (by omega), K2.trans Keep.upd⟩
      · exact ⟨none, none, rfl, hB, Keep.refl b H⟩
    · rintro σ' H1 ⟨y2, y3, rfl, B1, K1⟩
      obtain ⟨g1, m1, k1, cells1, hb1, ne1, hc1, h01⟩ := B1.ob
      have S1 : BagIs H1 b g1 m1 k1 c cells1 := ⟨hb1, ne1, hc1⟩
      refine ⟨_, rfl, b, _, 0, _, rfl, rfl, SqL.of hb1, four0, _, _, rfl, rfl, _, rfl, ite2 (fun _ => ?_) (fun _ => ?_)⟩
      · refine ⟨_, rfl, b, _, 0, _, rfl, rfl, SqL.of hb1, four0, .inl ⟨_, rfl, _, rfl, g1, n, rfl, rfl, hn, ?_⟩⟩
        refine ⟨_, rfl, b, _, 0, _, rfl, rfl, SqL.of hb1, four0, _, rfl, g1, n, rfl, rfl, ⟨hn, hlog⟩, _, rfl, b, _, 0, 0, rfl, rfl, hb1, rfl, ?_⟩
        exact ⟨_, rfl, q _ _ (Int.emod_nonneg _ (by omega)) (Int.emod_lt_of_pos _ hn) (BagIs.bag (S1.put) h01) (K1.trans Keep.upd)⟩
      · refine ⟨_, rfl, b, _, 1, _, rfl, rfl, SqL.of hb1, four1, m1, 1, rfl, rfl, _, _, rfl, rfl, .inr (by decide), .inl ⟨_, rfl, _, _, rfl, rfl, pN, ?_⟩⟩
        have z0 := Int.emod_nonneg ((m1 + 1) * 39373) (show (1000000007 : Int) ≠ 0 by decide)
        have z1 := Int.emod_lt_of_pos ((m1 + 1) * 39373) (show (0 : Int) < 1000000007 by decide)
        refine ⟨_, rfl, _, rfl, _, _, rfl, rfl, .inl ⟨by omega, by omega⟩, .inl ⟨_, rfl, _, _, rfl, rfl, pO, _, _, rfl, rfl, .inr (by decide), .inl ⟨_, rfl, _, _, rfl, rfl, pO, ?_⟩⟩⟩
        refine ⟨_, rfl, n, _, rfl, rfl, _, rfl, ite2 (fun _ => ?_) (fun _ => ?_)⟩
        · exact ⟨_, rfl, _, _, rfl, rfl, .inr (by decide), _, rfl, _, _, rfl, rfl, .inl ⟨_, rfl, _, rfl, _, n, rfl, rfl, hn, q _ _ (Int.emod_nonneg _ (by omega)) (Int.emod_lt_of_pos _ hn) B1 K1⟩⟩
        · exact ⟨_, rfl, _, _, rfl, rfl, ⟨by decide, by decide⟩, .inl ⟨_, rfl, _, rfl, _, n, rfl, rfl, hn, q _ _ (Int.emod_nonneg _ (by omega)) (Int.emod_lt_of_pos _ hn) B1 K1⟩⟩
end
end K13

namespace K13
open PySem PySem.Spec PyProof.Rows L2
abbrev sBounds : Stmt := topS 31
abbrev sParts : Stmt := topS 33
theorem two0 {α : Type} {a b : α} : atI [a, b] 0 = some a := rfl
theorem two1 {α : Type} {a b : α} : atI [a, b] 1 = some b := rfl
/-- an int below two -/
theorem int2 {v : Int} (h0 : 0 ≤ v) (h1 : v < 2) : v = 0 ∨ v = 1 := by omega
theorem log_of {v : Int} {k : Nat} (hk : 0 < k) (h0 : 0 ≤ v) (h : v < 2 ^ k) : v.natAbs.log2 < k := by
  refine PySem.Flt.log2_lt_of hk ?_
  have e : ((v.natAbs : Nat) : Int) = v := by omega
  have z : ((v.natAbs : Nat) : Int) < ((2 ^ k : Nat) : Int) := by
    rw [e]
    simpa using h
  exact Int.ofNat_lt.mp z
section
variable {P : Program} {w : World} {K : PySem.W.Frag} {mg : Str → Option Value} {base : Heap} {C : Addr}
theorem scAlike : FnScope ["_law_found", "_law_due"] ["_law_found", "_law_due"] (defScope sAlike) := ⟨rfl, rfl, rfl, by decide +kernel, rfl, by decide +kernel, by decide +kernel⟩
def spAlike : Sp := fun vs H Q _ => ∃ i : Int, vs = [.int i, .int i] ∧ i.natAbs.log2 < 1920 ∧ Q (.bl true) H
theorem ok_alike (D : DefAt K mg "_law_alike" sAlike ["_law_found", "_law_due"]) (T : Tx K mg C) : Rdy P w K mg base "_law_alike" ["_law_found", "_law_due"] 1 spAlike := by
  obtain ⟨f, fd, F, g, b⟩ := D
  refine ⟨f, fd, F.ok scAlike (fun vs H Q E h => ?_) (fun cdv A outer s H vs Q E hr h => ?_), g, F.kp, b⟩
  · obtain ⟨i, rfl, _⟩ := h
    rfl
  · obtain ⟨i, rfl, hl, q⟩ := h
    refine ⟨_, pss_one (ps_ret (pe_and (pe_cmpR op_eq (pv 0) (pv 1) (nomark _)) (pe_one (pe_cmpR op_eq (pe_callB SkE.call_repr_int (by rfl) T.repr (by decide +kernel) (pa_cons (pv 0) pa_nil)) (pe_callB SkE.call_repr_int (by rfl) T.repr (by decide +kernel) (pa_cons (pv 1) pa_nil)) (nomark _))))), ?_⟩
    refine ⟨_, rfl, _, rfl, rfl, true, bl_true rfl, iteT ?_⟩
    refine ⟨_, rfl, i, rfl, hl, _, rfl, i, rfl, hl, rfl, ?_⟩
    rw [decide_eq_true rfl]
    exact q
theorem scSize : FnScope ["_law_bag_here", "_law_top", "_law_scale"] ["_law_bag_here", "_law_top", "_law_scale"] (defScope sSize) := ⟨rfl, rfl, rfl, by decide +kernel, rfl, by decide +kernel, by decide +kernel⟩
def spSize : Sp := fun vs H Q _ => ∃ (b c : Addr) (s : Int), vs = [.ref b, .int 30, .int s] ∧ Bag H b c ∧ 1 ≤ s ∧ ∀ (v : Int) (H' : Hp), 1 ≤ v → v ≤ 30 * s → Bag H' b c → Keep b H H' → Q (.int v) H'
theorem small_log {n : Int} (h0 : 0 ≤ n) (h : n < 2 ^ 120) : n.natAbs.log2 < 9000 := Nat.lt_trans (log_of (k := 120) (by decide) h0 h) (by decide)
theorem ok_size (D : DefAt K mg "_law_draw_size" sSize ["_law_bag_here", "_law_top", "_law_scale"]) (G : Rdy P w K mg base "_law_take" ["_law_bag_here", "_law_many"] 1 spTake) : Rdy P w K mg base "_law_draw_size" ["_law_bag_here", "_law_top", "_law_scale"] 2 spSize := by
  obtain ⟨f, fd, F, g, b⟩ := D
  obtain ⟨f1, fd1, F1, g1, k1, b1⟩ := G
  refine ⟨f, fd, F.ok scSize (fun vs H Q E h => ?_) (fun cdv A outer st H vs Q E hr h => ?_), g, F.kp, b⟩
  · obtain ⟨b, c, s, rfl, _⟩ := h
    rfl
  · obtain ⟨b, c, s, rfl, hB, hs, q⟩ := h
    refine ⟨_, pss_one (ps_ret (pe_op op_mul (pe_op op_add pe_int (pe_call F1 hr (by rfl) g1 k1 b1 .nil pass0 (pa_cons (pv 0) (pa_cons (pv 1) pa_nil))))
      (pe_ix ix_list (pe_lst (pa_cons pe_int (pa_cons (pv 2) pa_nil))) (pe_call F1 hr (by rfl) g1 k1 b1 .nil pass0 (pa_cons (pv 0) (pa_cons pe_int pa_nil))) (fun _ _ => rfl)))), ?_⟩
    refine ⟨_, rfl, _, rfl, b, c, 30, rfl, hB, by decide, small_log (by decide) (by decide), fun v H1 v0 v1 B1 K1 => ?_⟩
    refine ⟨1, v, rfl, rfl, _, rfl, (by show 2 ≤ sizeLine; decide), fun l hl => ?_⟩
    have sl := same_new (o := .lst [.int 1, .int s]) hl
    refine ⟨_, rfl, b, c, 2, rfl, B1.same sl, by decide, small_log (by decide) (by decide), fun u H2 u0 u1 B2 K2 => ?_⟩
    have nlb : l ≠ b := fun e => B1.nn (e ▸ hl)
    have hl2 : H2 l = some (.lst [.int 1, .int s]) := K2 _ _ upd_same nlb
    have kk : Keep b H H2 := (K1.trans (Keep.of_same sl)).trans K2
    rcases int2 u0 u1 with rfl | rfl
    · exact ⟨l, _, 0, _, rfl, rfl, SqL.of hl2, two0, 1 + v, 1, rfl, rfl, .inl ⟨by omega, by omega⟩, q _ H2 (by omega) (by omega) B2 kk⟩
    · refine ⟨l, _, 1, _, rfl, rfl, SqL.of hl2, two1, 1 + v, s, rfl, rfl, .inl ⟨by omega, by omega⟩, q _ H2 ?_ ?_ B2 kk⟩
      · have h1 : (1 : Int) * 1 ≤ (1 + v) * s := Int.mul_le_mul (by omega) hs (by decide) (by omega)
        omega
      · exact Int.mul_le_mul_of_nonneg_right (by omega) (by omega)
/-! ### the law's own threshold, bounds, multiples -/
theorem scLThr : FnScope ["_law_tree", "_law_word", "_law_one", "_law_other", "_law_pair"] ["_law_tree"] (defScope sLThr) := ⟨rfl, rfl, rfl, by decide +kernel, rfl, by decide +kernel, by decide +kernel⟩
def spLThr (n : Nat) : Sp := fun vs H Q _ => ∃ (t : K13.T) (v : V), vs = [v] ∧ TreeAt H t v ∧ t.depth < n ∧ ∀ H' : Hp, Same H H' → Q (.int t.thr) H'
theorem min2 {i j m : Int} (h : m ∈ [i, j]) (l : ∀ y, y ∈ [i, j] → m ≤ y) : m = mn i j := by
  have l1 := l i (by simp)
  have l2 := l j (by simp)
  have h' : m = i ∨ m = j := by simpa using h
  have hx := mn_cases i j
  omega
theorem max2 {i j m : Int} (h : m ∈ [i, j]) (l : ∀ y, y ∈ [i, j] → y ≤ m) : m = mx i j := by
  have l1 := l i (by simp)
  have l2 := l j (by simp)
  have h' : m = i ∨ m = j := by simpa using h
  have hx := mx_cases i j
  omega
theorem ok_lthr (D : DefAt K mg "_law_threshold" sLThr ["_law_tree"]) (T : Tx K mg C) : ∀ n : Nat, Rdy P w K mg base "_law_threshold" ["_law_tree"] (n + 1) (spLThr n)
  | 0 => rdy0 D fun vs H Q E h => by
    obtain ⟨t, v, _, _, h, _⟩ := h
    exact absurd h (Nat.not_lt_zero _)
  | n + 1 => by
    obtain ⟨f0, fd0, F0, g0, k0, b0⟩ := ok_lthr D T n
    obtain ⟨f, fd, F, g, b⟩ := D
    refine ⟨f, fd, F.ok scLThr (fun vs H Q E h => ?_) (fun cdv A outer s H vs Q E hr h => ?_), g, F.kp, b⟩
    · obtain ⟨t, v, rfl, _⟩ := h
      rfl
    · obtain ⟨t, v, rfl, ht, hd, q⟩ := h
      refine ⟨_, pss_cons (ps_asg (pv 0) (pg_tup rfl (pgs_cons (pg_name (i := 1) scLThr.nd rfl (.inl rfl)) (pgs_cons (pg_name (i := 2) scLThr.nd rfl (.inl rfl)) (pgs_cons (pg_name (i := 3) scLThr.nd rfl (.inl rfl)) pgs_nil)))))
        (pss_cons (ps_if (pt_cmpR op_eq (pv 1) pe_str (nomark _)) (pss_one (ps_ret (pe_callB (call_max2 rfl) (by rfl) T.max (by decide +kernel) (pa_cons (pv 2) (pa_cons (pv 3) pa_nil))))) pss_nil)
        (pss_cons (ps_set (i := 4) scLThr.nd rfl (Or.inl rfl) (pe_lst (pa_cons (pe_call F0 hr (by rfl) g0 k0 b0 .nil pass0 (pa_cons (pv 2) pa_nil)) (pa_cons (pe_call F0 hr (by rfl) g0 k0 b0 .nil pass0 (pa_cons (pv 3) pa_nil)) pa_nil))))
        (pss_one (ps_ret (pe_ifExp (pt_cmpR op_eq (pv 1) pe_str (nomark _)) (pe_callB (cr_min rfl) (by rfl) T.min (by decide +kernel) (pa_cons (pv 4) pa_nil)) (pe_callB (cr_max rfl) (by rfl) T.max (by decide +kernel) (pa_cons (pv 4) pa_nil))))))), ?_⟩
      rcases ht.two with ⟨i, q', p, rfl, rfl, hp⟩ | ⟨o, a, b, p, x, y, rfl, rfl, hp, ha, hb⟩
      · refine ⟨_, rfl, p, _, rfl, SqT.of hp, rfl, _, _, rfl, _, _, rfl, _, _, rfl, rfl, ?_⟩
        refine ⟨_, rfl, rfl, true, at_at, iteT ?_⟩
        exact ⟨_, rfl, _, rfl, _, _, rfl, q H (Same.refl H)⟩
      · rw [jn_depth] at hd
        refine ⟨_, rfl, p, _, rfl, SqT.of hp, rfl, _, _, rfl, _, _, rfl, _, _, rfl, rfl, ?_⟩
        refine ⟨_, rfl, rfl, false, wd_at o, iteF ?_⟩
        refine ⟨_, rfl, a, x, rfl, ha, by omega, fun H1 s1 => ?_⟩
        refine ⟨_, rfl, b, y, rfl, hb.mono (Tups.of_same s1), by omega, fun H2 s2 => ?_⟩
        refine ⟨(by show 2 ≤ sizeLine; decide), fun l hl => ?_⟩
        have s3 := (s1.trans s2).trans (same_new (o := .lst [.int a.thr, .int b.thr]) hl)
        refine ⟨_, rfl, rfl, o, wd_or o, ?_⟩
        cases o with
        | true => exact iteT ⟨_, rfl, l, [a.thr, b.thr], rfl, SqL.of upd_same, (by show 0 < 2; decide), fun m h1 h2 => by rw [min2 h1 h2]; exact q _ s3⟩
        | false => exact iteF ⟨_, rfl, l, [a.thr, b.thr], rfl, SqL.of upd_same, (by show 0 < 2; decide), fun m h1 h2 => by rw [max2 h1 h2]; exact q _ s3⟩
theorem scBounds : FnScope ["_law_tree", "_law_word", "_law_one", "_law_other"] ["_law_tree"] (defScope sBounds) := ⟨rfl, rfl, rfl, by decide +kernel, rfl, by decide +kernel, by decide +kernel⟩
theorem scParts : FnScope ["_law_tree", "_law_word", "_law_one", "_law_other"] ["_law_tree"] (defScope sParts) := ⟨rfl, rfl, rfl, by decide +kernel, rfl, by decide +kernel, by decide +kernel⟩
def spInts (g : K13.T → List Int) (n : Nat) : Sp := fun vs H Q _ => ∃ (t : K13.T) (v : V), vs = [v] ∧ TreeAt H t v ∧ t.depth < n ∧ t.atoms ≤ 1000 ∧ ∀ (H' : Hp) (p : Addr), Same H H' → H p = none → H' p = some (.lst ((g t).map V.int)) → Q (.ref p) H'
theorem ok_bounds (D : DefAt K mg "_law_bounds" sBounds ["_law_tree"]) (T : Tx K mg C) : ∀ n : Nat, Rdy P w K mg base "_law_bounds" ["_law_tree"] (n + 1) (spInts K13.T.bnds n)
  | 0 => rdy0 D fun vs H Q E h => by
    obtain ⟨t, v, _, _, h, _⟩ := h
    exact absurd h (Nat.not_lt_zero _)
  | n + 1 => by
    obtain ⟨f0, fd0, F0, g0, k0, b0⟩ := ok_bounds D T n
    obtain ⟨f, fd, F, g, b⟩ := D
    refine ⟨f, fd, F.ok scBounds (fun vs H Q E h => ?_) (fun cdv A outer s H vs Q E hr h => ?_), g, F.kp, b⟩
    · obtain ⟨t, v, rfl, _⟩ := h
      rfl
    · obtain ⟨t, v, rfl, ht, hd, hl, q⟩ := h
      refine ⟨_, pss_cons (ps_asg (pv 0) (pg_tup rfl (pgs_cons (pg_name (i := 1) scBounds.nd rfl (.inl rfl)) (pgs_cons (pg_name (i := 2) scBounds.nd rfl (.inl rfl)) (pgs_cons (pg_name (i := 3) scBounds.nd rfl (.inl rfl)) pgs_nil)))))
        (pss_one (ps_ret (pe_ifExp (pt_cmpR op_eq (pv 1) pe_str (nomark _)) (pe_lst (pa_cons (pe_callB (call_max2 rfl) (by rfl) T.max (by decide +kernel) (pa_cons (pv 2) (pa_cons (pv 3) pa_nil))) pa_nil))
          (pe_op op_cat (pe_call F0 hr (by rfl) g0 k0 b0 .nil pass0 (pa_cons (pv 2) pa_nil)) (pe_call F0 hr (by rfl) g0 k0 b0 .nil pass0 (pa_cons (pv 3) pa_nil)))))), ?_⟩
      rcases ht.two with ⟨i, q', p, rfl, rfl, hp⟩ | ⟨o, a, b, p, x, y, rfl, rfl, hp, ha, hb⟩
      · refine ⟨_, rfl, p, _, rfl, SqT.of hp, rfl, _, _, rfl, _, _, rfl, _, _, rfl, rfl, ?_⟩
        refine ⟨_, rfl, rfl, true, at_at, iteT ?_⟩
        exact ⟨_, rfl, _, rfl, _, _, rfl, (by show 1 ≤ sizeLine; decide), fun l hl' => q _ l (same_new hl') hl' upd_same⟩
      · rw [jn_depth] at hd
        rw [jn_atoms] at hl
        refine ⟨_, rfl, p, _, rfl, SqT.of hp, rfl, _, _, rfl, _, _, rfl, _, _, rfl, rfl, ?_⟩
        refine ⟨_, rfl, rfl, false, wd_at o, iteF ?_⟩
        refine ⟨_, rfl, a, x, rfl, ha, by omega, by omega, fun H1 p1 s1 n1 e1 => ?_⟩
        refine ⟨_, rfl, b, y, rfl, hb.mono (Tups.of_same s1), by omega, by omega, fun H2 p2 s2 n2 e2 => ?_⟩
        refine ⟨p1, p2, _, _, rfl, rfl, s2 _ _ e1, e2, ?_, fun l hl' => ?_⟩
        · rw [List.length_map, List.length_map, a.bnds_len, b.bnds_len]
          exact Nat.le_of_lt (small1000 (by omega))
        · refine q _ l ((s1.trans s2).trans (same_new hl')) ((s1.trans s2).free hl') ?_
          rw [upd_same, jn_bnds, List.map_append]
theorem ok_parts (D : DefAt K mg "_law_parts_of" sParts ["_law_tree"]) : ∀ n : Nat, Rdy P w K mg base "_law_parts_of" ["_law_tree"] (n + 1) (spInts K13.T.parts n)
  | 0 => rdy0 D fun vs H Q E h => by
    obtain ⟨t, v, _, _, h, _⟩ := h
    exact absurd h (Nat.not_lt_zero _)
  | n + 1 => by
    obtain ⟨f0, fd0, F0, g0, k0, b0⟩ := ok_parts D n
    obtain ⟨f, fd, F, g, b⟩ := D
    refine ⟨f, fd, F.ok scParts (fun vs H Q E h => ?_) (fun cdv A outer s H vs Q E hr h => ?_), g, F.kp, b⟩
    · obtain ⟨t, v, rfl, _⟩ := h
      rfl
    · obtain ⟨t, v, rfl, ht, hd, hl, q⟩ := h
      refine ⟨_, pss_cons (ps_asg (pv 0) (pg_tup rfl (pgs_cons (pg_name (i := 1) scParts.nd rfl (.inl rfl)) (pgs_cons (pg_name (i := 2) scParts.nd rfl (.inl rfl)) (pgs_cons (pg_name (i := 3) scParts.nd rfl (.inl rfl)) pgs_nil)))))
        (pss_one (ps_ret (pe_ifExp (pt_cmpR op_eq (pv 1) pe_str (nomark _)) (pe_lst (pa_cons (pv 3) pa_nil))
          (pe_op op_cat (pe_call F0 hr (by rfl) g0 k0 b0 .nil pass0 (pa_cons (pv 2) pa_nil)) (pe_call F0 hr (by rfl) g0 k0 b0 .nil pass0 (pa_cons (pv 3) pa_nil)))))), ?_⟩
      rcases ht.two with ⟨i, q', p, rfl, rfl, hp⟩ | ⟨o, a, b, p, x, y, rfl, rfl, hp, ha, hb⟩
      · refine ⟨_, rfl, p, _, rfl, SqT.of hp, rfl, _, _, rfl, _, _, rfl, _, _, rfl, rfl, ?_⟩
        refine ⟨_, rfl, rfl, true, at_at, iteT ?_⟩
        exact ⟨_, rfl, (by show 1 ≤ sizeLine; decide), fun l hl' => q _ l (same_new hl') hl' upd_same⟩
      · rw [jn_depth] at hd
        rw [jn_atoms] at hl
        refine ⟨_, rfl, p, _, rfl, SqT.of hp, rfl, _, _, rfl, _, _, rfl, _, _, rfl, rfl, ?_⟩
        refine ⟨_, rfl, rfl, false, wd_at o, iteF ?_⟩
        refine ⟨_, rfl, a, x, rfl, ha, by omega, by omega, fun H1 p1 s1 n1 e1 => ?_⟩
        refine ⟨_, rfl, b, y, rfl, hb.mono (Tups.of_same s1), by omega, by omega, fun H2 p2 s2 n2 e2 => ?_⟩
        refine ⟨p1, p2, _, _, rfl, rfl, s2 _ _ e1, e2, ?_, fun l hl' => ?_⟩
        · rw [List.length_map, List.length_map, a.parts_len, b.parts_len]
          exact Nat.le_of_lt (small1000 (by omega))
        · refine q _ l ((s1.trans s2).trans (same_new hl')) ((s1.trans s2).free hl') ?_
          rw [upd_same, jn_parts, List.map_append]
end
end K13

namespace K13
/-! ### joining two neighbours keeps the sum -/
theorem sum_join : ∀ (l : List Nat) (i x y : Nat), l[i]? = some x → l[i + 1]? = some y → (l.take i ++ [x + y] ++ l.drop (i + 2)).sum = l.sum
  | [], _, _, _, h, _ => by simp at h
  | [_], 0, _, _, _, h => by simp at h
  | a :: b :: r, 0, x, y, h, h2 => by
    have e1 : a = x := Option.some.inj h
    have e2 : b = y := Option.some.inj h2
    subst e1
    subst e2
    show ((a + b) :: r).sum = (a :: b :: r).sum
    rw [List.sum_cons, List.sum_cons, List.sum_cons]
    omega
  | a :: r, i + 1, x, y, h, h2 => by
    have ih := sum_join r i x y h h2
    show (a :: (r.take i ++ [x + y] ++ r.drop (i + 2))).sum = (a :: r).sum
    rw [List.sum_cons, List.sum_cons, ih]
open PySem PySem.Spec PyProof.Rows L2
abbrev sDraw : Stmt := topS 29
abbrev sMade : Stmt := topS 30
abbrev sAmounts : Stmt := topS 32
theorem cut_take (xs : List V) (i : Nat) (h : i ≤ xs.length) : cutV xs none (some (i : Int)) = xs.take i := by
  unfold cutV
  rw [HT.sIx_none, HT.sIx_nat, List.drop_zero, Nat.min_eq_left h, Nat.sub_zero]
theorem cut_drop (xs : List V) (i : Nat) (h : i ≤ xs.length) : cutV xs (some (i : Int)) none = xs.drop i := by
  unfold cutV
  rw [HT.sIx_none, HT.sIx_nat, Nat.min_eq_left h]
  exact List.take_of_length_le (by rw [List.length_drop]; omega)
/-- trees that stand in a list -/
abbrev Trees : Type := List (K13.T × V)
def Wood (H : Hp) (M : Int) (ps : Trees) : Prop := ∀ p ∈ ps, TreeAt H p.1 p.2 ∧ p.1.ok M
theorem Wood.mono {H H' : Hp} {M : Int} {ps : Trees} (h : Wood H M ps) (t : Tups H H') : Wood H' M ps := fun p hp => ⟨(h p hp).1.mono t, (h p hp).2⟩
def sumA (ps : Trees) : Nat := (ps.map fun p => p.1.atoms).sum
def vals (ps : Trees) : List V := ps.map fun p => p.2
theorem vals_len (ps : Trees) : (vals ps).length = ps.length := List.length_map ..
theorem vals_at {ps : Trees} {i : Nat} {p : K13.T × V} (h : ps[i]? = some p) : (vals ps)[i]? = some p.2 := by
  unfold vals
  rw [List.getElem?_map, h]
  rfl
theorem atoms_at {ps : Trees} {i : Nat} {p : K13.T × V} (h : ps[i]? = some p) : (ps.map fun p => p.1.atoms)[i]? = some p.1.atoms := by
  rw [List.getElem?_map, h]
  rfl
def joined (ps : Trees) (i : Nat) (z : K13.T × V) : Trees := ps.take i ++ [z] ++ ps.drop (i + 2)
theorem joined_len {ps : Trees} {i : Nat} {z : K13.T × V} (h : i + 1 < ps.length) : (joined ps i z).length = ps.length - 1 := by
  unfold joined
  rw [List.length_append, List.length_append, List.length_take, List.length_drop, List.length_singleton]
  omega
theorem joined_vals {ps : Trees} {i : Nat} {z : K13.T × V} : vals (joined ps i z) = (vals ps).take i ++ [z.2] ++ (vals ps).drop (i + 2) := by
  unfold joined vals
  rw [List.map_append, List.map_append, List.map_take, List.map_drop]
  rfl
theorem joined_sum {ps : Trees} {i : Nat} {z p p' : K13.T × V} (h : ps[i]? = some p) (h' : ps[i + 1]? = some p') (e : z.1.atoms = p.1.atoms + p'.1.atoms) : sumA (joined ps i z) = sumA ps := by
  have x := sum_join (ps.map fun p => p.1.atoms) i _ _ (atoms_at h) (atoms_at h')
  rw [← e] at x
  unfold sumA joined
  rw [List.map_append, List.map_append, List.map_take, List.map_drop]
  exact x
theorem joined_wood {H : Hp} {M : Int} {ps : Trees} {i : Nat} {z : K13.T × V} (h : Wood H M ps) (hz : TreeAt H z.1 z.2 ∧ z.1.ok M) : Wood H M (joined ps i z) := fun p hp => by
  unfold joined at hp
  rcases List.mem_append.mp hp with hp | hp
  · rcases List.mem_append.mp hp with hp | hp
    · exact h p (List.mem_of_mem_take hp)
    · rw [List.mem_singleton.mp hp]
      exact hz
  · exact h p (List.mem_of_mem_drop hp)
section
variable {P : Program} {w : World} {K : PySem.W.Frag} {mg : Str → Option Value} {base : Heap} {C : Addr}
/-! ### a rule's tree is drawn -/
theorem scDraw : FnScope ["_law_bag_here", "_law_top", "_law_scale", "_law_many", "_law_some", "_law_at", "_law_k"] ["_law_bag_here", "_law_top", "_law_scale", "_law_many"] (defScope sDraw) := ⟨rfl, rfl, rfl, by decide +kernel, rfl, by decide +kernel, by decide +kernel⟩
def spDraw : Sp := fun vs H Q _ => ∃ (b c : Addr) (s n : Int), vs = [.ref b, .int 30, .int s, .int n] ∧ Bag H b c ∧ 1 ≤ s ∧ 1 ≤ n ∧ n ≤ 6 ∧
  ∀ (t : K13.T) (v : V) (H' : Hp), TreeAt H' t v → t.ok (30 * s) → (t.atoms : Int) = n → Bag H' b c → Keep b H H' → Q v H'
theorem ok_draw (D : DefAt K mg "_law_draw_rule" sDraw ["_law_bag_here", "_law_top", "_law_scale", "_law_many"]) (T : Tx K mg C) (G1 : Rdy P w K mg base "_law_take" ["_law_bag_here", "_law_many"] 1 spTake)
    (G2 : Rdy P w K mg base "_law_draw_size" ["_law_bag_here", "_law_top", "_law_scale"] 2 spSize) : Rdy P w K mg base "_law_draw_rule" ["_law_bag_here", "_law_top", "_law_scale", "_law_many"] 3 spDraw := by
  obtain ⟨f, fd, F, g, b⟩ := D
  obtain ⟨f1, fd1, F1, g1, k1, b1⟩ := G1
  obtain ⟨f2, fd2, F2, g2, k2, b2⟩ := G2
  refine ⟨f, fd, F.ok scDraw (fun vs H Q E h => ?_) (fun cdv A outer st H vs Q E hr h => ?_), g, F.kp, b⟩
  · obtain ⟨b, c, s, n, rfl, _⟩ := h
    rfl
  · obtain ⟨b, c, s, n, rfl, hB, hs, n1, n6, q⟩ := h
    have hr1 : Room 1 _ := hr.mono (by decide)
    refine ⟨_, pss_cons (ps_setLc (i := 4) (own := [("_law_k", 6)]) (g := gName 6) (by rfl) scDraw.nd rfl rfl (sw_true rfl rfl rfl (by decide +kernel)) (pi_range1 (by rfl) T.range (pa_cons (pv 3) pa_nil))
        (blkOk_by (N := ["_law_bag_here", "_law_top", "_law_scale", "_law_many", "_law_some", "_law_at", "_law_k"]) (sc := defScope sDraw) (by decide +kernel)) (fun _ _ _ _ _ => pg_name (i := 6) scDraw.nd rfl (Or.inl rfl)) (fun _ _ _ _ _ => pts_nil)
        (fun _ _ _ _ _ => pe_tup (pa_cons pe_str (pa_cons (pe_call F2 hr (by rfl) g2 k2 b2 .nil pass0 (pa_cons (pv 0) (pa_cons (pv 1) (pa_cons (pv 2) pa_nil)))) (pa_cons (pe_op op_add pe_int (pe_call F1 hr1 (by rfl) g1 k1 b1 .nil pass0 (pa_cons (pv 0) (pa_cons pe_int pa_nil)))) pa_nil)))))
      (pss_cons (ps_while PassesOwn.never (pt_cmpR op_gt (pe_callB call_len_seq (by rfl) T.len PySem.boot_len (pa_cons (pv 4) pa_nil)) pe_int (nomark _))
        (pss_cons (ps_set (i := 5) scDraw.nd rfl (Or.inl rfl) (pe_call F1 hr1 (by rfl) g1 k1 b1 .nil pass0 (pa_cons (pv 0) (pa_cons (pe_op op_sub (pe_callB call_len_seq (by rfl) T.len PySem.boot_len (pa_cons (pv 4) pa_nil)) pe_int) pa_nil))))
        (pss_one (ps_set (i := 4) scDraw.nd rfl (Or.inl rfl) (pe_op op_cat (pe_op op_cat (pe_slice sl_list (pv 4) po_none (po_some (pv 5)))
          (pe_lst (pa_cons (pe_tup (pa_cons (pe_ix ix_list (pe_lst (pa_cons pe_str (pa_cons pe_str pa_nil))) (pe_call F1 hr1 (by rfl) g1 k1 b1 .nil pass0 (pa_cons (pv 0) (pa_cons pe_int pa_nil))) (fun _ _ => rfl))
            (pa_cons (pe_ix ix_list (pv 4) (pv 5) (fun _ _ => rfl)) (pa_cons (pe_ix ix_list (pv 4) (pe_op op_add (pv 5) pe_int) (fun _ _ => rfl)) pa_nil)))) pa_nil)))
          (pe_slice sl_list (pv 4) (po_some (pe_op op_add (pv 5) pe_int)) po_none))))))
      (pss_one (ps_ret (pe_ix ix_list (pv 4) pe_int (fun _ _ => rfl))))), ?_⟩
    -- some = [("at", .., ..) for k in range(many)]
    refine ⟨_, rfl, n, rfl, by omega, by omega, fun D nD => ?_⟩
    obtain ⟨Db, Dc⟩ := hB.ne nD
    refine lc_range (lo := 0) (n := n.toNat) (fun i H' => Bag H' b c ∧ Keep b H H' ∧ ∃ ps : Trees, H' D = some (.lst (vals ps)) ∧ Wood H' (30 * s) ps ∧ ps.length = i ∧ sumA ps = i)
      ⟨hB.same (same_new nD), Keep.of_same (same_new nD), [], upd_same, (fun p hp => absurd hp (by simp)), rfl, rfl⟩ (fun i H' hi h => ?_) (fun H' h => ?_)
    · obtain ⟨B0, K0, ps, hD, hW, hl, hA⟩ := h
      refine ⟨rfl, yes_if ?_⟩
      refine ⟨_, rfl, _, rfl, _, rfl, b, c, s, rfl, B0, hs, fun v H1 v0 v1 B1 K1 => ?_⟩
      refine ⟨_, rfl, b, c, 6, rfl, B1, by decide, small_log (by decide) (by decide), fun u H2 u0 u1 B2 K2 => ?_⟩
      refine ⟨1, u, rfl, rfl, (by show 3 ≤ sizeLine; decide), fun l nl => ?_⟩
      have sl := same_new (o := .tup [.str "at", .int v, .int (1 + u)]) nl
      have K3 : Keep b H' (upd H2 l (.tup [.str "at", .int v, .int (1 + u)])) := (K1.trans K2).trans (Keep.of_same sl)
      have hD3 := K3 _ _ hD Db
      have lD : l ≠ D := (ne_of_none (K2 _ _ (K1 _ _ hD Db) Db) nl).symm
      have tu : Tups H' (upd (upd H2 l (.tup [.str "at", .int v, .int (1 + u)])) D (.lst (vals ps ++ [.ref l]))) := fun a xs e => by
        rw [upd_ne (ne_of e hD (by intro z; cases z))]
        exact B0.tups K3 a xs e
      refine ⟨vals ps, hD3, ?_, (B2.same sl).upd Db Dc, (K0.trans K3).mut nD, ps ++ [(.atm v (1 + u), .ref l)], ?_, ?_, ?_, ?_⟩
      · rw [vals_len]
        exact small1000 (by omega)
      · rw [upd_same]
        show some (HO.lst (vals ps ++ [.ref l])) = some (HO.lst (List.map (fun p => p.2) (ps ++ [(K13.T.atm v (1 + u), V.ref l)])))
        rw [List.map_append]
        rfl
      · intro p hp
        rcases List.mem_append.mp hp with hp | hp
        · exact ⟨(hW p hp).1.mono tu, (hW p hp).2⟩
        · rw [List.mem_singleton.mp hp]
          exact ⟨⟨l, rfl, by rw [upd_ne lD]; exact upd_same⟩, v0, v1, by omega, by omega⟩
      · rw [List.length_append, hl] <;> rfl
      · show (List.map (fun p => p.1.atoms) (ps ++ [(K13.T.atm v (1 + u), V.ref l)])).sum = i + 1
        rw [List.map_append, List.sum_append]
        show sumA ps + 1 = i + 1
        rw [hA]
    · obtain ⟨B0, K0, ps, hD, hW, hl, hA⟩ := h
      -- while len(some) > 1
      refine ⟨fun m σ H' => ∃ (L : Addr) (ps : Trees) (x5 : Option V), σ = [some (.ref b), some (.int 30), some (.int s), some (.int n), some (.ref L), x5, none] ∧ m = ps.length ∧ 1 ≤ ps.length ∧ ps.length ≤ 6 ∧
        H' L = some (.lst (vals ps)) ∧ L ≠ b ∧ Wood H' (30 * s) ps ∧ (sumA ps : Int) = n ∧ Bag H' b c ∧ Keep b H H', ⟨_, D, ps, none, rfl, rfl, by omega, by omega, hD, Db, hW, by omega, B0, K0⟩, ?_⟩
      clear hD hW hl hA ps B0 K0 H'
      rintro m σ H0 ⟨L, ps, x5, rfl, rfl, l1, l6, hL, Lb, hW, hA, B0, K0⟩
      refine ⟨_, rfl, L, _, rfl, .inl (SqL.of hL), _, 1, rfl, rfl, _, rfl, ite2 (fun ht => ?_) (fun ht => ?_)⟩
      · have hlen : 1 < ps.length := by
          have z := of_decide_eq_true ht
          rw [vals_len] at z
          omega
        refine ⟨fun σ' H' => ∃ (L : Addr) (ps' : Trees) (x5 : Option V), σ' = [some (.ref b), some (.int 30), some (.int s), some (.int n), some (.ref L), x5, none] ∧ ps'.length = ps.length - 1 ∧
          H' L = some (.lst (vals ps')) ∧ L ≠ b ∧ Wood H' (30 * s) ps' ∧ (sumA ps' : Int) = n ∧ Bag H' b c ∧ Keep b H H', fun σ' H' z => ?_, ?_⟩
        · obtain ⟨L', ps', x5', e, hl', z⟩ := z
          exact ⟨ps'.length, by omega, L', ps', x5', e, rfl, by omega, by omega, z⟩
        · -- at = take(bag, len(some) - 1)
          refine ⟨_, rfl, _, rfl, L, _, rfl, .inl (SqL.of hL), _, 1, rfl, rfl, b, c, _, rfl, B0, ?_, ?_, fun v H1 v0 v1 B1 K1 => ?_⟩
          · rw [vals_len]
            omega
          · refine small_log ?_ ?_
            · rw [vals_len]
              omega
            · rw [vals_len]
              have : (6 : Int) < 2 ^ 120 := by decide
              omega
          rw [vals_len] at v1
          obtain ⟨i, rfl⟩ : ∃ i : Nat, v = i := ⟨v.toNat, by omega⟩
          have hi : i + 1 < ps.length := by omega
          have ea := List.getElem?_eq_getElem (l := ps) (i := i) (by omega)
          have eb := List.getElem?_eq_getElem (l := ps) (i := i + 1) hi
          obtain ⟨ta, oa⟩ := hW _ (List.mem_of_getElem? ea)
          obtain ⟨tb, ob⟩ := hW _ (List.mem_of_getElem? eb)
          have hL1 := K1 _ _ hL Lb
          -- some[:at]
          refine ⟨_, rfl, _, rfl, _, rfl, L, _, rfl, SqL.of hL1, fun p1 np1 => ?_⟩
          obtain ⟨p1b, p1c⟩ := B1.ne np1
          have s1 := same_new (o := .lst (cutV (vals ps) none (some (i : Int)))) np1
          -- ["or", "and"]
          refine ⟨(by show 2 ≤ sizeLine; decide), fun p2 np2 => ?_⟩
          have s2 := same_new (o := .lst [.str "or", .str "and"]) np2
          have B1' := (B1.same s1)
          obtain ⟨p2b, p2c⟩ := B1'.ne np2
          refine ⟨_, rfl, b, c, 2, rfl, B1'.same s2, by decide, small_log (by decide) (by decide), fun u H2 u0 u1 B2 K2 => ?_⟩
          have hL2 := K2 _ _ (s2 _ _ (s1 _ _ hL1)) Lb
          have h12 := K2 _ _ (s2 _ _ upd_same) p1b
          have h22 := K2 _ _ upd_same p2b
          obtain ⟨o, ho⟩ : ∃ o : Bool, atI [V.str "or", V.str "and"] u = some (.str (wd o)) := by
            rcases int2 u0 u1 with rfl | rfl
            · exact ⟨true, rfl⟩
            · exact ⟨false, rfl⟩
          have K02 : Keep b H0 H2 := ((K1.trans (Keep.of_same s1)).trans (Keep.of_same s2)).trans K2
          refine ⟨p2, _, u, _, rfl, rfl, SqL.of h22, ho, ?_⟩
          refine ⟨_, rfl, _, rfl, L, _, _, _, rfl, rfl, SqL.of hL2, atI_nat (vals_at ea), ?_⟩
          refine ⟨_, rfl, _, rfl, _, 1, rfl, rfl, L, _, _, _, rfl, rfl, SqL.of hL2, atI_nat (j := i + 1) (vals_at eb), ?_⟩
          refine ⟨(by show 3 ≤ sizeLine; decide), fun p3 np3 => ?_⟩
          have s3 := same_new (o := .tup [.str (wd o), ps[i].2, ps[i + 1].2]) np3
          refine ⟨(by show 1 ≤ sizeLine; decide), fun p4 np4 => ?_⟩
          have s4 := same_new (o := .lst [.ref p3]) np4
          refine ⟨p1, p4, _, _, rfl, rfl, s4 _ _ (s3 _ _ h12), upd_same, ?_, fun p5 np5 => ?_⟩
          · have z := cutV_length (vals ps) none (some (i : Int))
            rw [vals_len] at z
            show (cutV (vals ps) none (some (i : Int))).length + 1 ≤ sizeLine
            exact Nat.le_of_lt (small1000 (by omega))
          have s5 := same_new (o := .lst (cutV (vals ps) none (some (i : Int)) ++ [.ref p3])) np5
          -- some[at + 2:]
          refine ⟨_, rfl, _, rfl, _, 2, rfl, rfl, _, rfl, L, _, rfl, SqL.of (s5 _ _ (s4 _ _ (s3 _ _ hL2))), fun p6 np6 => ?_⟩
          have s6 := same_new (o := .lst (cutV (vals ps) (some ((i : Int) + 2)) none)) np6
          refine ⟨p5, p6, _, _, rfl, rfl, s6 _ _ upd_same, upd_same, ?_, fun p7 np7 => ?_⟩
          · have z := cutV_length (vals ps) none (some (i : Int))
            have z' := cutV_length (vals ps) (some ((i : Int) + 2)) none
            rw [vals_len] at z z'
            show (cutV (vals ps) none (some (i : Int)) ++ [V.ref p3]).length + (cutV (vals ps) (some ((i : Int) + 2)) none).length ≤ sizeLine
            rw [List.length_append]
            show (cutV (vals ps) none (some (i : Int))).length + 1 + (cutV (vals ps) (some ((i : Int) + 2)) none).length ≤ sizeLine
            exact Nat.le_of_lt (small1000 (by omega))
          have s7 := same_new (o := .lst (cutV (vals ps) none (some (i : Int)) ++ [.ref p3] ++ cutV (vals ps) (some ((i : Int) + 2)) none)) np7
          have S := (((s3.trans s4).trans s5).trans s6).trans s7
          have Kz := K02.trans (Keep.of_same (b := b) S)
          have Bz := B2.same S
          have h3 := ((s4.trans s5).trans s6).trans s7 _ _ (upd_same (H := H2) (a := p3) (o := .tup [.str (wd o), ps[i].2, ps[i + 1].2]))
          have p7b : p7 ≠ b := ((B2.same (((s3.trans s4).trans s5).trans s6)).ne np7).1
          have tz := B0.tups Kz
          refine ⟨p7, joined ps i (jn o ps[i].1 ps[i + 1].1, .ref p3), _, rfl, joined_len hi, ?_, p7b, ?_, ?_, Bz, K0.trans Kz⟩
          · rw [upd_same, joined_vals, cut_take _ _ (by rw [vals_len]; omega), show ((i : Int) + 2) = ((i + 2 : Nat) : Int) by omega, cut_drop _ _ (by rw [vals_len]; omega)]
          · exact joined_wood (hW.mono tz) ⟨TreeAt.join h3 (ta.mono tz) (tb.mono tz), by rw [jn_ok]; exact ⟨oa, ob⟩⟩
          · rw [joined_sum ea eb (by show (jn o ps[i].1 ps[i + 1].1).atoms = _; rw [jn_atoms])]
            exact hA
      · -- return some[0]
        have hlen : ps.length = 1 := by
          have z := of_decide_eq_false (Bool.eq_false_iff.mpr ht)
          rw [vals_len] at z
          omega
        obtain ⟨p, rfl⟩ := List.length_eq_one_iff.mp hlen
        obtain ⟨tp, op⟩ := hW p (List.mem_singleton.mpr rfl)
        refine ⟨_, rfl, L, _, 0, _, rfl, rfl, SqL.of hL, rfl, q p.1 p.2 H0 tp op ?_ B0 K0⟩
        have z : sumA [p] = p.1.atoms := by
          show p.1.atoms + 0 = p.1.atoms
          omega
        rw [z] at hA
        exact hA
end
end K13

namespace K13
open PySem PySem.Spec PyProof.Rows L2
section
variable {P : Program} {w : World} {K : PySem.W.Frag} {mg : Str → Option Value} {base : Heap} {C : Addr}
/-! ### a Rule is made of a tree -/
theorem scMade : FnScope ["_law_bag_here", "_law_tree", "_law_word", "_law_one", "_law_other", "_law_first", "_law_second"] ["_law_bag_here", "_law_tree"] (defScope sMade) := ⟨rfl, rfl, rfl, by decide +kernel, rfl, by decide +kernel, by decide +kernel⟩
def spMade (C : Addr) (n : Nat) : Sp := fun vs H Q _ => ∃ (b c : Addr) (t : K13.T) (v : V) (M : Int), vs = [.ref b, v] ∧ Bag H b c ∧ TreeAt H t v ∧ t.ok M ∧ t.atoms ≤ 6 ∧ t.depth < n ∧
  ∀ (H' : Hp) (p : Addr), RuleAt H' C t (.ref p) → Bag H' b c → Keep b H H' → Q (.ref p) H'
theorem ok_made {f0 fo fa : Addr} (D : DefAt K mg "_law_made" sMade ["_law_bag_here", "_law_tree"]) (T : Tx K mg C) (G1 : Rdy P w K mg base "_law_take" ["_law_bag_here", "_law_many"] 1 spTake) (M0 : Mk K C f0) (G : RdyM P w K mg base f0 ["self", "tree"] 10 (spInit C))
    (L : RdyL P w K mg base 12 (spAtLeast C)) (cO : OwnOp K C .BitOr fo) (GO : RdyM P w K mg base fo ["self", "other"] 12 (spJoin C true)) (cA : OwnOp K C .BitAnd fa) (GA : RdyM P w K mg base fa ["self", "other"] 12 (spJoin C false)) :
    ∀ n : Nat, Rdy P w K mg base "_law_made" ["_law_bag_here", "_law_tree"] (n + 12) (spMade C n)
  | 0 => rdy0 D fun vs H Q E h => by
    obtain ⟨b, c, t, v, M, _, _, _, _, _, h, _⟩ := h
    exact absurd h (Nat.not_lt_zero _)
  | n + 1 => by
    obtain ⟨fr, fdr, Fr, gr, kr, br⟩ := ok_made D T G1 M0 G L cO GO cA GA n
    obtain ⟨f, fd, F, g, b⟩ := D
    obtain ⟨f1, fd1, F1, g1, k1, b1⟩ := G1
    obtain ⟨fd0, F0, b0⟩ := G
    obtain ⟨fl, fdl, FL, gl, kl, bl2, ds, vds, bl1⟩ := L
    obtain ⟨fdo, FO, bo⟩ := GO
    obtain ⟨fda, FA, ba⟩ := GA
    refine ⟨f, fd, F.ok scMade (fun vs H Q E h => ?_) (fun cdv A outer st H vs Q E hr h => ?_), g, F.kp, b⟩
    · obtain ⟨b, c, t, v, M, rfl, _⟩ := h
      rfl
    · obtain ⟨b, c, t, v, M, rfl, hB, ht, hok, hl, hd, q⟩ := h
      have hr1 : Room 1 _ := hr.mono (by omega)
      have hr11 : Room 11 _ := hr.mono (by omega)
      have hr12 : Room 12 _ := hr.mono (by omega)
      refine ⟨_, pss_cons (ps_asg (pv 1) (pg_tup rfl (pgs_cons (pg_name (i := 2) scMade.nd rfl (.inl rfl)) (pgs_cons (pg_name (i := 3) scMade.nd rfl (.inl rfl)) (pgs_cons (pg_name (i := 4) scMade.nd rfl (.inl rfl)) pgs_nil)))))
        (pss_cons (ps_if (pt_cmpR op_eq (pe_call F1 hr1 (by rfl) g1 k1 b1 .nil pass0 (pa_cons (pv 0) (pa_cons pe_int pa_nil))) pe_int (nomark _)) (pss_one (ps_ret (pe_make M0 F0 hr11 (by rfl) T.mgC b0 .nil pass0 (pa_cons (pv 1) pa_nil)))) pss_nil)
        (pss_cons (ps_if (pt_cmpR op_eq (pv 2) pe_str (nomark _)) (pss_one (ps_ret (pe_ifExp (pt_cmpR op_eq (pv 4) pe_int (nomark _)) (pe_call FL hr12 (by rfl) gl kl bl1 vds pass0 (pa_cons (pv 3) pa_nil)) (pe_call FL hr12 (by rfl) gl kl bl2 .nil pass0 (pa_cons (pv 3) (pa_cons (pv 4) pa_nil)))))) pss_nil)
        (pss_cons (ps_par (i := 5) (j := 6) rfl scMade.nd rfl rfl (by decide) rfl rfl (pa_cons (pe_call Fr hr (by rfl) gr kr br .nil pass0 (pa_cons (pv 0) (pa_cons (pv 3) pa_nil))) (pa_cons (pe_call Fr hr (by rfl) gr kr br .nil pass0 (pa_cons (pv 0) (pa_cons (pv 4) pa_nil))) pa_nil)) (by rfl))
        (pss_one (ps_ret (pe_ifExp (pt_cmpR op_eq (pv 2) pe_str (nomark _)) (pe_op (op_own cO FO hr12 bo) (pv 5) (pv 6)) (pe_op (op_own cA FA hr12 ba) (pv 5) (pv 6)))))))), ?_⟩
      rcases ht.two with ⟨i, q', p, rfl, rfl, hp⟩ | ⟨o, a, b', p, x, y, rfl, rfl, hp, ha, hb⟩
      · refine ⟨_, rfl, p, _, rfl, SqT.of hp, rfl, _, _, rfl, _, _, rfl, _, _, rfl, rfl, ?_⟩
        refine ⟨_, rfl, b, c, 2, rfl, hB, by decide, small_log (by decide) (by decide), fun u H1 u0 u1 B1 K1 => ?_⟩
        refine ⟨rfl, _, rfl, ite2 (fun _ => ?_) (fun _ => ?_)⟩
        · refine ⟨_, rfl, fun x dx hx hdx ne => ?_⟩
          exact made hx hdx ne (ht.mono (hB.tups K1)) hok hl fun H2 s2 r => q H2 x r (B1.same s2) (K1.trans (Keep.of_same s2))
        · refine ⟨_, rfl, rfl, true, at_at, iteT ?_⟩
          refine ⟨_, rfl, rfl, _, rfl, ite2 (fun e1 => ?_) (fun _ => ?_)⟩
          · have e2 : q' = 1 := by
              have := of_decide_eq_true e1
              injection this
            subst e2
            exact ⟨_, rfl, i, 1, M, rfl, hok, fun H2 p2 s2 r => q H2 p2 r (B1.same s2) (K1.trans (Keep.of_same s2))⟩
          · exact ⟨_, rfl, _, rfl, i, q', M, rfl, hok, fun H2 p2 s2 r => q H2 p2 r (B1.same s2) (K1.trans (Keep.of_same s2))⟩
      · have hok' := hok
        rw [jn_ok] at hok'
        rw [jn_depth] at hd
        have hl' := hl
        rw [jn_atoms] at hl'
        have a1 := a.atoms_pos
        have a2 := b'.atoms_pos
        refine ⟨_, rfl, p, _, rfl, SqT.of hp, rfl, _, _, rfl, _, _, rfl, _, _, rfl, rfl, ?_⟩
        refine ⟨_, rfl, b, c, 2, rfl, hB, by decide, small_log (by decide) (by decide), fun u H1 u0 u1 B1 K1 => ?_⟩
        refine ⟨rfl, _, rfl, ite2 (fun _ => ?_) (fun _ => ?_)⟩
        · refine ⟨_, rfl, fun x dx hx hdx ne => ?_⟩
          exact made hx hdx ne (ht.mono (hB.tups K1)) hok hl fun H2 s2 r => q H2 x r (B1.same s2) (K1.trans (Keep.of_same s2))
        · refine ⟨_, rfl, rfl, false, wd_at o, iteF ?_⟩
          refine ⟨_, rfl, _, rfl, b, c, a, x, M, rfl, B1, ha.mono (hB.tups K1), hok'.1, by omega, by omega, fun H2 p2 r2 B2 K2 => ?_⟩
          refine ⟨_, rfl, _, rfl, b, c, b', y, M, rfl, B2, (hb.mono (hB.tups K1)).mono (B1.tups K2), hok'.2, by omega, by omega, fun H3 p3 r3 B3 K3 => ?_⟩
          have r2' := r2.keep K3 B2
          obtain ⟨z2, d2, t2, e2, h2, _⟩ := id r2'
          obtain ⟨z3, d3, t3, e3, h3, _⟩ := id r3
          cases e2
          cases e3
          refine ⟨_, _, rfl, ?_⟩
          refine ⟨_, rfl, rfl, o, wd_or o, ?_⟩
          cases o with
          | true => exact iteT ⟨_, rfl, _, rfl, p2, p3, d2, d3, _, _, rfl, rfl, h2, h3, a, b', _, _, M, rfl, r2', r3, hok'.1, hok'.2, hl', fun H4 p4 s4 r4 => ⟨⟨p4, rfl⟩, q H4 p4 r4 (B3.same s4) (((K1.trans K2).trans K3).trans (Keep.of_same s4))⟩⟩
          | false => exact iteF ⟨_, rfl, _, rfl, p2, p3, d2, d3, _, _, rfl, rfl, h2, h3, a, b', _, _, M, rfl, r2', r3, hok'.1, hok'.2, hl', fun H4 p4 s4 r4 => ⟨⟨p4, rfl⟩, q H4 p4 r4 (B3.same s4) (((K1.trans K2).trans K3).trans (Keep.of_same s4))⟩⟩
/-! ### amounts are drawn -/
theorem scAmounts : FnScope ["_law_bag_here", "_law_tree", "_law_many", "_law_bounds_here", "_law_found", "_law_k", "_law_near"] ["_law_bag_here", "_law_tree", "_law_many"] (defScope sAmounts) := ⟨rfl, rfl, rfl, by decide +kernel, rfl, by decide +kernel, by decide +kernel⟩
def spAmounts : Sp := fun vs H Q _ => ∃ (b c : Addr) (t : K13.T) (v : V), vs = [.ref b, v, .int 12] ∧ Bag H b c ∧ TreeAt H t v ∧ t.atoms ≤ 6 ∧
  ∀ (H' : Hp) (p : Addr) (ns : List Int), H p = none → H' p = some (.lst (ns.map V.int)) → (∀ n ∈ ns, 0 ≤ n) → ns.length = 14 → Bag H' b c → Keep b H H' → Q (.ref p) H'
theorem three_of {x y z : Int} {v : V} (h : v ∈ [V.int x, V.int y, V.int z]) (hx : 0 ≤ x) (hy : 0 ≤ y) (hz : 0 ≤ z) : ∃ i : Int, v = .int i ∧ 0 ≤ i := by
  rcases List.mem_cons.mp h with rfl | h
  · exact ⟨x, rfl, hx⟩
  · rcases List.mem_cons.mp h with rfl | h
    · exact ⟨y, rfl, hy⟩
    · rw [List.mem_singleton.mp h]
      exact ⟨z, rfl, hz⟩
theorem ok_amounts (D : DefAt K mg "_law_amounts" sAmounts ["_law_bag_here", "_law_tree", "_law_many"]) (T : Tx K mg C) (G1 : Rdy P w K mg base "_law_take" ["_law_bag_here", "_law_many"] 1 spTake)
    (G2 : Rdy P w K mg base "_law_bounds" ["_law_tree"] 7 (spInts K13.T.bnds 6)) : Rdy P w K mg base "_law_amounts" ["_law_bag_here", "_law_tree", "_law_many"] 8 spAmounts := by
  obtain ⟨f, fd, F, g, b⟩ := D
  obtain ⟨f1, fd1, F1, g1, k1, b1⟩ := G1
  obtain ⟨f2, fd2, F2, g2, k2, b2⟩ := G2
  refine ⟨f, fd, F.ok scAmounts (fun vs H Q E h => ?_) (fun cdv A outer st H vs Q E hr h => ?_), g, F.kp, b⟩
  · obtain ⟨b, c, t, v, rfl, _⟩ := h
    rfl
  · obtain ⟨b, c, t, v, rfl, hB, ht, hl, q⟩ := h
    have hr1 : Room 1 _ := hr.mono (by decide)
    have hd := t.depth_lt
    have hp := t.atoms_pos
    refine ⟨_, pss_cons (ps_par (i := 3) (j := 4) rfl scAmounts.nd rfl rfl (by decide) rfl rfl (pa_cons (pe_call F2 hr (by rfl) g2 k2 b2 .nil pass0 (pa_cons (pv 1) pa_nil)) (pa_cons (pe_lst (pa_cons pe_int (pa_cons pe_int pa_nil))) pa_nil)) (by rfl))
      (pss_cons (ps_for PassesOwn.never rfl (pi_range1 (by rfl) T.range (pa_cons (pv 2) pa_nil)) (pg_name (i := 5) scAmounts.nd rfl (.inl rfl))
        (pss_cons (ps_set (i := 6) scAmounts.nd rfl (Or.inl rfl) (pe_op op_sub (pe_op op_add (pe_ix ix_list (pv 3) (pe_call F1 hr1 (by rfl) g1 k1 b1 .nil pass0 (pa_cons (pv 0) (pa_cons (pe_callB call_len_seq (by rfl) T.len PySem.boot_len (pa_cons (pv 3) pa_nil)) pa_nil))) (fun _ _ => rfl))
          (pe_call F1 hr1 (by rfl) g1 k1 b1 .nil pass0 (pa_cons (pv 0) (pa_cons pe_int pa_nil)))) pe_int))
        (pss_one (ps_expr (pe_bm PySem.F.plainAttrs_list PySem.F.slot_list_append PySem.F.type_list_append mt_append (pv 4) (pa_cons
          (pe_ix ix_list (pe_lst (pa_cons (pe_callB (call_max2 rfl) (by rfl) T.max (by decide +kernel) (pa_cons pe_int (pa_cons (pv 6) pa_nil)))
              (pa_cons (pe_call F1 hr1 (by rfl) g1 k1 b1 .nil pass0 (pa_cons (pv 0) (pa_cons (pe_op op_pow pe_int pe_int) pa_nil))) (pa_cons (pe_call F1 hr1 (by rfl) g1 k1 b1 .nil pass0 (pa_cons (pv 0) (pa_cons pe_int pa_nil))) pa_nil))))
            (pe_call F1 hr1 (by rfl) g1 k1 b1 .nil pass0 (pa_cons (pv 0) (pa_cons pe_int pa_nil))) (fun _ _ => rfl)) pa_nil))))))
      (pss_one (ps_ret (pv 4)))), ?_⟩
    refine ⟨_, rfl, t, v, rfl, ht, by omega, by omega, fun H0 B s0 nB eB => ?_⟩
    refine ⟨(by show 2 ≤ sizeLine; decide), fun fo nfo => ?_⟩
    have s1 := same_new (o := .lst [.int 0, .int 1]) nfo
    have nfH : H fo = none := s0.free nfo
    obtain ⟨Bb, Bc⟩ := hB.ne nB
    obtain ⟨fb, fc⟩ := hB.ne nfH
    have Bf : B ≠ fo := ne_of_none eB nfo
    refine ⟨_, _, rfl, ?_⟩
    refine ⟨_, rfl, 12, rfl, by decide, by decide, ?_⟩
    refine for_range (lo := 0) (n := 12) (fun i σ H' => ∃ (x5 x6 : Option V) (ns : List Int), σ = [some (.ref b), some v, some (.int 12), some (.ref B), some (.ref fo), x5, x6] ∧ Bag H' b c ∧ Keep b H H' ∧
        H' B = some (.lst (t.bnds.map V.int)) ∧ H' fo = some (.lst (ns.map V.int)) ∧ (∀ n ∈ ns, 0 ≤ n) ∧ ns.length = 2 + i)
      ⟨none, none, [0, 1], rfl, hB.same (s0.trans s1), Keep.of_same (s0.trans s1), s1 _ _ eB, upd_same, (fun n hn => ?_), rfl⟩ (fun i σ H' hi h => ?_) (fun σ H' h => ?_)
    · have : n = 0 ∨ n = 1 := by simpa using hn
      omega
    · obtain ⟨x5, x6, ns, rfl, B0, K0, hBn, hF, hns, hlen⟩ := h
      -- near = bounds[..] + .. - 9
      refine ⟨_, rfl, _, rfl, _, rfl, B, _, rfl, .inl (SqL.of hBn), b, c, _, rfl, B0, ?_, ?_, fun u H1 u0 u1 B1 K1 => ?_⟩
      · rw [List.length_map, t.bnds_len]
        omega
      · rw [List.length_map, t.bnds_len]
        refine small_log (by omega) ?_
        have : (6 : Int) < 2 ^ 120 := by decide
        omega
      obtain ⟨z, hz, hat⟩ := atI_lt u0 u1
      obtain ⟨z, _, rfl⟩ := List.mem_map.mp hz
      have hB1 := K1 _ _ hBn Bb
      have hF1 := K1 _ _ hF fb
      refine ⟨B, _, u, _, rfl, rfl, SqL.of hB1, hat, ?_⟩
      refine ⟨_, rfl, b, c, 70, rfl, B1, by decide, small_log (by decide) (by decide), fun u2 H2 _ _ B2 K2 => ?_⟩
      have hB2 := K2 _ _ hB1 Bb
      have hF2 := K2 _ _ hF1 fb
      refine ⟨z, u2, rfl, rfl, _, 9, rfl, rfl, ?_⟩
      -- found.append([..][..])
      refine ⟨.ref fo, rfl, .inl ⟨rfl, _, SqL.of hF2⟩, _, rfl, 0, _, rfl, ?_⟩
      refine ⟨_, rfl, 10, 30, rfl, rfl, ⟨by decide, by decide, by decide⟩, b, c, _, rfl, B2, by decide +kernel, small_log (by decide +kernel) (by decide +kernel), fun u3 H3 z3 _ B3 K3 => ?_⟩
      refine ⟨_, rfl, b, c, 80, rfl, B3, by decide, small_log (by decide) (by decide), fun u4 H4 z4 _ B4 K4 => ?_⟩
      refine ⟨(by show 3 ≤ sizeLine; decide), fun l nl => ?_⟩
      have sl := same_new (o := .lst [.int (if z + u2 - 9 > 0 then z + u2 - 9 else 0), .int u3, .int u4]) nl
      refine ⟨_, rfl, b, c, 3, rfl, B4.same sl, by decide, small_log (by decide) (by decide), fun u5 H5 h50 h51 B5 K5 => ?_⟩
      have hl5 := K5 _ _ upd_same (B4.ne nl).1
      obtain ⟨y, hy, hat5⟩ := atI_lt (xs := [.int (if z + u2 - 9 > 0 then z + u2 - 9 else 0), .int u3, .int u4]) h50 h51
      obtain ⟨j, rfl, hj⟩ := three_of hy (by split <;> omega) z3 z4
      have Kt : Keep b H' H5 := ((((K1.trans K2).trans K3).trans K4).trans (Keep.of_same sl)).trans K5
      have hF5 := Kt _ _ hF fb
      have hB5 := Kt _ _ hBn Bb
      refine ⟨l, _, u5, _, rfl, rfl, SqL.of hl5, hat5, fo, _, _, rfl, rfl, hF5, ?_, ?_⟩
      · rw [List.length_map]
        exact small1000 (by omega)
      · refine ⟨_, _, ns ++ [j], rfl, B5.upd fb fc, (K0.trans Kt).mut nfH, by rw [upd_ne Bf]; exact hB5, ?_, fun n hn => ?_, ?_⟩
        · rw [upd_same, List.map_append]
          rfl
        · rcases List.mem_append.mp hn with hn | hn
          · exact hns n hn
          · rw [List.mem_singleton.mp hn]
            exact hj
        · rw [List.length_append, hlen]
          rfl
    · obtain ⟨x5, x6, ns, rfl, B0, K0, hBn, hF, hns, hlen⟩ := h
      exact ⟨_, rfl, q H' fo ns nfH hF hns hlen B0 K0⟩
end
end K13

namespace K13
open PySem PySem.Spec PyProof.Rows L2
abbrev sLaw : Stmt := topS 34
theorem scale_ok : ∀ n : Nat, n < 31 → (Str.ofString "1").length + (Txt.mul (Str.ofString "0") (n : Int)).length ≤ 100 ∧ PySem.intText? (Str.ofString "1" ++ Txt.mul (Str.ofString "0") (n : Int)) = some ((10 : Int) ^ n) ∧
    (Str.ofString "1" ++ Txt.mul (Str.ofString "0") (n : Int)).length ≤ 640 ∧ (1 : Int) ≤ (10 : Int) ^ n ∧ (10 : Int) ^ n ≤ 10 ^ 30 := by decide +kernel
theorem bl_iff {p q : Prop} [Decidable p] [Decidable q] (h : p ↔ q) : V.bl (!decide (V.bl (decide p) = V.bl (decide q))) = V.bl false := by
  have e : decide p = decide q := decide_eq_decide.mpr h
  rw [e, decide_eq_true rfl]
  rfl
theorem in_ints {r n q : Int} {ps : List Int} (h : q ∈ ps) (e : r = n % q) : inV (.int r) (ps.map fun q => V.int (n % q)) = true := by
  unfold inV
  rw [List.any_eq_true]
  refine ⟨V.int (n % q), List.mem_map.mpr ⟨q, h, rfl⟩, ?_⟩
  show (n % q == r) = true
  rw [e]
  exact beq_self_eq_true _
theorem flat_ints {n : Int} (ps : List Int) : (ps.map fun q => V.int (n % q)).all flatV = true := by
  rw [List.all_eq_true]
  intro x hx
  obtain ⟨q, _, rfl⟩ := List.mem_map.mp hx
  rfl
section
variable {P : Program} {w : World} {K : PySem.W.Frag} {mg : Str → Option Value} {base : Heap} {C : Addr}
theorem scLaw : FnScope ["_law_script", "_law_bag_here", "_law_scale", "_law_turn", "_law_tree", "_law_rule", "_law_top", "_law_amount", "_law_given_back", "_law_rest", "_law_by"] ["_law_script"] (defScope sLaw) := ⟨rfl, rfl, rfl, by decide +kernel, rfl, by decide +kernel, by decide +kernel⟩
def spLaw (K : PySem.W.Frag) : Sp := fun vs H Q _ => ∃ (a : Addr) (ns : List Int), vs = [.ref a] ∧ SqL K H a (ns.map V.int) ∧ ns.length ≤ 63 ∧ ∀ H', Q (.bl true) H'
theorem ok_law {f fc fr ft pt : Addr} {fd : FuncData} (F : Fun K "law" "law" sLaw f fd) (T : Tx K mg C) (Gbag : Rdy P w K mg base "_law_bag" ["_law_script"] 1 (spBag K)) (Gtake : Rdy P w K mg base "_law_take" ["_law_bag_here", "_law_many"] 1 spTake)
    (Gdraw : Rdy P w K mg base "_law_draw_rule" ["_law_bag_here", "_law_top", "_law_scale", "_law_many"] 3 spDraw) (Gmade : Rdy P w K mg base "_law_made" ["_law_bag_here", "_law_tree"] 18 (spMade C 6)) (Gthr : Rdy P w K mg base "_law_threshold" ["_law_tree"] 7 (spLThr 6))
    (Galike : Rdy P w K mg base "_law_alike" ["_law_found", "_law_due"] 1 spAlike) (Gam : Rdy P w K mg base "_law_amounts" ["_law_bag_here", "_law_tree", "_law_many"] 8 spAmounts) (Gparts : Rdy P w K mg base "_law_parts_of" ["_law_tree"] 7 (spInts K13.T.parts 6))
    (cC : StX.CallO K C fc) (Gc : RdyM P w K mg base fc ["self", "amount"] 8 (spCall C)) (cR : Meth K C "rest" fr) (Gr : RdyM P w K mg base fr ["self", "amount"] 8 (spRest C))
    (cT : PropOf K C "threshold" pt ft) (Gt : RdyM P w K mg base ft ["self"] 8 (spThreshold C)) : FnOk P w K mg base CX0 19 f fd ["_law_script"] (spLaw K) := by
  obtain ⟨f1, fd1, F1, g1, k1, b1⟩ := Gbag
  obtain ⟨f2, fd2, F2, g2, k2, b2⟩ := Gtake
  obtain ⟨f3, fd3, F3, g3, k3, b3⟩ := Gdraw
  obtain ⟨f4, fd4, F4, g4, k4, b4⟩ := Gmade
  obtain ⟨f5, fd5, F5, g5, k5, b5⟩ := Gthr
  obtain ⟨f6, fd6, F6, g6, k6, b6⟩ := Galike
  obtain ⟨f7, fd7, F7, g7, k7, b7⟩ := Gam
  obtain ⟨f8, fd8, F8, g8, k8, b8⟩ := Gparts
  obtain ⟨fdc, Fc, bc⟩ := Gc
  obtain ⟨fdr, Fr, br⟩ := Gr
  obtain ⟨fdt, Ft, bt⟩ := Gt
  refine F.ok scLaw (fun vs H Q E h => ?_) (fun cdv A outer st H vs Q E hr h => ?_)
  · obtain ⟨a, ns, rfl, _⟩ := h
    rfl
  · obtain ⟨a, ns, rfl, hS, hlen, q⟩ := h
    have hr1 : Room 1 _ := hr.mono (by decide)
    have hr3 : Room 3 _ := hr.mono (by decide)
    have hr7 : Room 7 _ := hr.mono (by decide)
    have hr8 : Room 8 _ := hr.mono (by decide)
    have hr9 : Room 9 _ := hr.mono (by decide)
    refine ⟨_, pss_cons (ps_set (i := 1) scLaw.nd rfl (Or.inl rfl) (pe_call F1 hr1 (by rfl) g1 k1 b1 .nil pass0 (pa_cons (pv 0) pa_nil)))
      (pss_cons (ps_set (i := 2) scLaw.nd rfl (Or.inl rfl) (pe_callTy call_int_str (by rfl) T.int (by decide +kernel) (pa_cons (pe_op op_add_str pe_str (pe_op op_mul_str pe_str (pe_call F2 hr1 (by rfl) g2 k2 b2 .nil pass0 (pa_cons (pv 1) (pa_cons pe_int pa_nil))))) pa_nil)))
      (pss_cons (ps_for PassesOwn.never rfl (pi_range1 (by rfl) T.range (pa_cons pe_int pa_nil)) (pg_name (i := 3) scLaw.nd rfl (.inl rfl))
        (pss_cons (ps_set (i := 4) scLaw.nd rfl (Or.inl rfl) (pe_call F3 hr3 (by rfl) g3 k3 b3 .nil pass0 (pa_cons (pv 1) (pa_cons pe_int (pa_cons (pv 2) (pa_cons (pe_op op_add pe_int (pe_call F2 hr1 (by rfl) g2 k2 b2 .nil pass0 (pa_cons (pv 1) (pa_cons pe_int pa_nil)))) pa_nil))))))
        (pss_cons (ps_par (i := 5) (j := 6) rfl scLaw.nd rfl rfl (by decide) rfl rfl (pa_cons (pe_call F4 hr (by rfl) g4 k4 b4 .nil pass0 (pa_cons (pv 1) (pa_cons (pv 4) pa_nil))) (pa_cons (pe_call F5 hr7 (by rfl) g5 k5 b5 .nil pass0 (pa_cons (pv 4) pa_nil)) pa_nil)) (by rfl))
        (pss_cons (ps_if (pt_not (pt_val (pe_call F6 hr1 (by rfl) g6 k6 b6 .nil pass0 (pa_cons (pe_prop (pv 5) T.cl cT Ft hr9 bt .nil pass0 rfl) (pa_cons (pv 6) pa_nil))))) (pss_one (ps_ret pe_bl)) pss_nil)
        (pss_cons (ps_for PassesOwn.never rfl (pi_list (pe_op op_cat (pe_call F7 hr8 (by rfl) g7 k7 b7 .nil pass0 (pa_cons (pv 1) (pa_cons (pv 4) (pa_cons pe_int pa_nil))))
            (pe_lst (pa_cons (pe_op op_sub (pv 6) pe_int) (pa_cons (pv 6) (pa_cons (pe_op op_add (pv 6) pe_int) (pa_cons (pe_op op_add (pv 6) pe_int) (pa_cons (pe_call F2 hr1 (by rfl) g2 k2 b2 .nil pass0 (pa_cons (pv 1) (pa_cons (pv 6) pa_nil))) pa_nil)))))))) (pg_name (i := 7) scLaw.nd rfl (.inr rfl))
          (pss_cons (ps_par (i := 8) (j := 9) rfl scLaw.nd rfl rfl (by decide) rfl rfl (pa_cons (StX.pe_callO (pv 5) cC (Fc.raw bc .nil) hr8 pass0 (pa_cons (pv 7) pa_nil)) (pa_cons (pe_meth (pv 5) T.cl cR Fr hr8 br .nil pass0 (pa_cons (pv 7) pa_nil)) pa_nil)) (by rfl))
          (pss_cons (ps_if (PW.pt (pw_or (pt_cmpR op_ne (pe_op op_add (pv 8) (pv 9)) (pv 7) (nomark _)) (pw_or (pt_cmpR op_ge (pv 9) (pv 6) (nomark _))
              (pw_or1 (pt_cmpR op_ne (pe_cmpR op_eq (pv 8) pe_int (nomark _)) (pe_cmpR op_lt (pv 7) (pv 6) (nomark _)) (nomark _)))))) (pss_one (ps_ret pe_bl)) pss_nil)
          (pss_one (ps_if (PW.pt (pw_and (pt_cmpR op_ge (pv 7) (pv 6) (nomark _)) (pw_and1 (pt_cmpR op_notIn_seq (pv 9)
              (pe_lc (own := [("_law_by", 10)]) (g := gName 10) (by rfl) scLaw.nd (pi_list (pe_call F8 hr7 (by rfl) g8 k8 b8 .nil pass0 (pa_cons (pv 4) pa_nil)))
                (blkOk_by (N := ["_law_script", "_law_bag_here", "_law_scale", "_law_turn", "_law_tree", "_law_rule", "_law_top", "_law_amount", "_law_given_back", "_law_rest", "_law_by"]) (sc := defScope sLaw) (by decide +kernel))
                (fun _ _ _ _ _ => pg_name (i := 10) scLaw.nd rfl (Or.inl rfl)) (fun _ _ _ _ _ => pts_nil) (fun _ _ _ _ _ => pe_op op_mod (pe_callTy call_int1 (by rfl) T.int (by decide +kernel) (pa_cons (pv 7) pa_nil)) (pv 10))) (by rfl))))) (pss_one (ps_ret pe_bl)) pss_nil)))))
        (pss_one (ps_if (pt_not (pt_val (pe_call F6 hr1 (by rfl) g6 k6 b6 .nil pass0 (pa_cons (pe_prop (pv 5) T.cl cT Ft hr9 bt .nil pass0 rfl) (pa_cons (pv 6) pa_nil))))) (pss_one (ps_ret pe_bl)) pss_nil)))))))
      (pss_one (ps_ret pe_bl)))), ?_⟩
    -- bag = _law_bag(script)
    refine ⟨_, rfl, a, ns, rfl, hS, hlen, fun H0 b c _ _ B0 => ?_⟩
    -- scale = int("1" + "0" * take(bag, 31))
    refine ⟨_, rfl, b, c, 31, rfl, B0, by decide, small_log (by decide) (by decide), fun u H1 u0 u1 B1 K1 => ?_⟩
    obtain ⟨n, rfl⟩ : ∃ n : Nat, u = n := ⟨u.toNat, by omega⟩
    obtain ⟨z1, z2, z3, z4, z5⟩ := scale_ok n (by omega)
    refine ⟨_, n, rfl, rfl, mulOk_of 1 31 (by decide +kernel) (by omega) (by omega) (by decide) (by decide), _, _, rfl, rfl, Nat.le_of_lt (small1000 (by omega)), _, _, rfl, z2, z3, ?_⟩
    generalize (10 : Int) ^ n = s at z4 z5
    -- for turn in range(3)
    refine ⟨3, rfl, by decide, by decide, ?_⟩
    refine for_range (lo := 0) (n := 3) (fun i σ H' => ∃ (x3 x4 x5 x6 x7 x8 x9 : Option V), σ = [some (.ref a), some (.ref b), some (.int s), x3, x4, x5, x6, x7, x8, x9, none] ∧ Bag H' b c)
      ⟨none, none, none, none, none, none, none, rfl, B1⟩ (fun i σ H' hi h => ?_) (fun σ H' h => q H')
    obtain ⟨x3, x4, x5, x6, x7, x8, x9, rfl, B2⟩ := h
    clear B0 B1 K1 z1 z2 z3
    -- tree = draw_rule(bag, 30, scale, 1 + take(bag, 6))
    refine ⟨_, rfl, _, rfl, _, rfl, b, c, 6, rfl, B2, by decide, small_log (by decide) (by decide), fun u H2 v0 v1 B3 K3 => ?_⟩
    refine ⟨1, u, rfl, rfl, b, c, s, 1 + u, rfl, B3, z4, by omega, by omega, fun t tv H3 ht hok hat B4 K4 => ?_⟩
    have hl6 : t.atoms ≤ 6 := by omega
    have hd := t.depth_lt
    obtain ⟨t1, t2⟩ := t.thr_ok (by omega) hok
    have tlt : t.thr < 2 ^ 120 := by
      have e : (30 : Int) * 10 ^ 30 < 2 ^ 120 := by decide +kernel
      omega
    have hlog : t.thr.natAbs.log2 < 1920 := Nat.lt_trans (log_of (k := 120) (by decide) (by omega) tlt) (by decide)
    -- rule, top = made(bag, tree), threshold(tree)
    refine ⟨_, rfl, _, rfl, b, c, t, tv, 30 * s, rfl, B4, ht, hok, hl6, by omega, fun H4 p r4 B5 K5 => ?_⟩
    refine ⟨_, rfl, t, tv, rfl, ht.mono (B4.tups K5), by omega, fun H5 s5 => ?_⟩
    have ht5 := (ht.mono (B4.tups K5)).mono (Tups.of_same s5)
    have r5 := r4.same s5
    have B6 := B5.same s5
    refine ⟨_, _, rfl, ?_⟩
    -- if not alike(rule.threshold, top)
    obtain ⟨p', dx, tr, ep, hp5, _⟩ := id r5
    cases ep
    refine ⟨_, rfl, p, dx, _, rfl, hp5, t, _, rfl, r5, hl6, _, rfl, t.thr, rfl, hlog, true, rfl, iteF ?_⟩
    -- for amount in amounts(..) + [..]
    refine ⟨_, rfl, _, rfl, b, c, t, tv, rfl, B6, ht5, hl6, fun H6 Am ms nAm eAm hms hml B7 K7 => ?_⟩
    have Amb : Am ≠ b := (B6.ne nAm).1
    refine ⟨_, rfl, t.thr, 1, rfl, rfl, _, rfl, _, rfl, t.thr, 1, rfl, rfl, _, rfl, t.thr, 59, rfl, rfl, _, rfl, _, rfl, b, c, t.thr, rfl, B7, by omega, small_log (by omega) tlt, fun u2 H7 w0 w1 B8 K8 => ?_⟩
    refine ⟨(by show 5 ≤ sizeLine; decide), fun l nl => ?_⟩
    have sl := same_new (o := .lst [.int (t.thr - 1), .int t.thr, .int (t.thr + 1), .int (t.thr + 59), .int u2]) nl
    refine ⟨Am, l, _, _, rfl, rfl, sl _ _ (K8 _ _ eAm Amb), upd_same, ?_, fun L nL => ?_⟩
    · show (ms.map V.int).length + 5 ≤ sizeLine
      rw [List.length_map]
      exact Nat.le_of_lt (small1000 (by omega))
    have sL := same_new (o := .lst (ms.map V.int ++ [.int (t.thr - 1), .int t.thr, .int (t.thr + 1), .int (t.thr + 59), .int u2])) nL
    have all0 : ∀ x ∈ (ms.map V.int ++ [V.int (t.thr - 1), V.int t.thr, V.int (t.thr + 1), V.int (t.thr + 59), V.int u2]), ∃ m : Int, x = .int m ∧ 0 ≤ m := fun x hx => by
      rcases List.mem_append.mp hx with hx | hx
      · obtain ⟨m, hm, rfl⟩ := List.mem_map.mp hx
        exact ⟨m, rfl, hms m hm⟩
      · have e : x = V.int (t.thr - 1) ∨ x = V.int t.thr ∨ x = V.int (t.thr + 1) ∨ x = V.int (t.thr + 59) ∨ x = V.int u2 := by simpa using hx
        rcases e with e | e | e | e | e
        · exact ⟨_, e, by omega⟩
        · exact ⟨_, e, by omega⟩
        · exact ⟨_, e, by omega⟩
        · exact ⟨_, e, by omega⟩
        · exact ⟨_, e, w0⟩
    have Kz : Keep b H5 (upd (upd H7 l (.lst [.int (t.thr - 1), .int t.thr, .int (t.thr + 1), .int (t.thr + 59), .int u2])) L (.lst (ms.map V.int ++ [.int (t.thr - 1), .int t.thr, .int (t.thr + 1), .int (t.thr + 59), .int u2]))) :=
      ((K7.trans K8).trans (Keep.of_same sl)).trans (Keep.of_same sL)
    have Bz := (B8.same sl).same sL
    have hLz : (upd (upd H7 l (.lst [.int (t.thr - 1), .int t.thr, .int (t.thr + 1), .int (t.thr + 59), .int u2])) L (.lst (ms.map V.int ++ [.int (t.thr - 1), .int t.thr, .int (t.thr + 1), .int (t.thr + 59), .int u2]))) L = some (.lst (ms.map V.int ++ [.int (t.thr - 1), .int t.thr, .int (t.thr + 1), .int (t.thr + 59), .int u2])) := upd_same
    have rz := r5.keep Kz B6
    have tz := ht5.mono (B6.tups Kz)
    generalize upd (upd H7 l (.lst [.int (t.thr - 1), .int t.thr, .int (t.thr + 1), .int (t.thr + 59), .int u2])) L (.lst (ms.map V.int ++ [.int (t.thr - 1), .int t.thr, .int (t.thr + 1), .int (t.thr + 59), .int u2])) = HA at Kz Bz hLz rz tz
    generalize ms.map V.int ++ [V.int (t.thr - 1), V.int t.thr, V.int (t.thr + 1), V.int (t.thr + 59), V.int u2] = xs at all0 hLz
    refine ⟨L, rfl, ⟨_, SqL.of hLz⟩, ?_⟩
    refine for_list (K := K) (a := L) (xs := xs) (fun j σ H' => ∃ (x7 x8 x9 : Option V), σ = [some (.ref a), some (.ref b), some (.int s), some (.int (0 + (i : Int))), some tv, some (.ref p), some (.int t.thr), x7, x8, x9, none] ∧ Same HA H')
      ⟨x7, x8, x9, rfl, Same.refl HA⟩ (fun j σ H' _ h => ?_) (fun j x σ H' hx h => ?_) (fun σ H' h => ?_)
    · obtain ⟨y7, y8, y9, _, sz⟩ := h
      exact SqL.of (sz _ _ hLz)
    · obtain ⟨y7, y8, y9, rfl, sz⟩ := h
      obtain ⟨m, rfl, m0⟩ := all0 x (List.mem_of_getElem? hx)
      obtain ⟨a1, a2, a3, a4, a5⟩ := t.giv_ok m0 hok
      have rj := rz.same sz
      have tj := tz.mono (Tups.of_same sz)
      obtain ⟨p', dx', tr', ep, hpj, _⟩ := id rj
      cases ep
      -- given, rest = rule(amount), rule.rest(amount)
      refine ⟨_, rfl, p, rfl, _, rfl, .inr ⟨_, _, hpj⟩, t, _, m, 30 * s, rfl, rj, hok, hl6, ?_⟩
      refine ⟨_, rfl, p, dx', _, rfl, hpj, its_none (by decide +kernel), _, rfl, t, _, m, 30 * s, rfl, rj, hok, hl6, ?_⟩
      refine ⟨_, _, rfl, ?_⟩
      -- if given + rest != amount or rest >= top or (given == 0) != (amount < top)
      refine ⟨_, rfl, _, rfl, _, _, rfl, rfl, _, rfl, rfl, _, rfl, iteNS (congrArg V.int (by omega)) ?_⟩
      refine ⟨_, rfl, _, rfl, _, t.thr, rfl, rfl, false, bl_false (by omega), iteF ?_⟩
      refine ⟨_, rfl, rfl, _, rfl, _, rfl, m, t.thr, rfl, rfl, rfl, false, bl_iff ⟨fun e => a4.mp (by injection e), fun e => congrArg V.int (a4.mpr e)⟩, iteF ?_⟩
      -- if amount >= top and rest not in [..]
      refine ⟨_, rfl, _, rfl, m, t.thr, rfl, rfl, _, rfl, ite2 (fun hle => ?_) (fun _ => iteF ?_)⟩
      · obtain ⟨q', hq', eq'⟩ := a5 (of_decide_eq_true hle)
        refine ⟨_, rfl, _, rfl, t, tv, rfl, tj, by omega, by omega, fun H2' p2 s2 n2 e2 => ?_⟩
        refine ⟨p2, rfl, ⟨_, SqL.of e2⟩, fun D nD => ?_⟩
        have pD : p2 ≠ D := ne_of_none e2 nD
        refine lc_list (K := K) (a := p2) (xs := t.parts.map V.int) (fun k H'' => Same HA H'' ∧ H'' p2 = some (.lst (t.parts.map V.int)) ∧ H'' D = some (.lst ((t.parts.take k).map fun q => V.int (m % q))))
          ⟨(sz.trans s2).trans (same_new nD), by rw [upd_ne pD]; exact e2, upd_same⟩ (fun k H'' _ h => SqL.of h.2.1) (fun k x H'' hx h => ?_) (fun H'' h => ?_)
        · obtain ⟨s3, hp2, hD⟩ := h
          rw [List.getElem?_map] at hx
          obtain ⟨qq, hqq, eqq⟩ : ∃ qq, t.parts[k]? = some qq ∧ x = V.int qq := by
            cases e : t.parts[k]? with
            | none => rw [e] at hx; cases hx
            | some y => rw [e] at hx; exact ⟨y, rfl, (Option.some.inj hx).symm⟩
          subst eqq
          have qok := t.parts_ok hok qq (List.mem_of_getElem? hqq)
          refine ⟨rfl, yes_if ?_⟩
          refine ⟨_, rfl, .inl ⟨m, rfl, _, rfl, m, qq, rfl, rfl, ?_, _, hD, ?_, same_mut s3 ((sz.trans s2).free nD), by rw [upd_ne pD]; exact hp2, ?_⟩⟩
          · show 0 < qq
            omega
          · rw [List.length_map, List.length_take]
            have := t.parts_len
            exact small1000 (by omega)
          · rw [upd_same, List.take_add_one, hqq, List.map_append]
            rfl
        · obtain ⟨s3, hp2, hD⟩ := h
          rw [List.length_map, List.take_length] at hD
          refine ⟨D, _, rfl, .inl (SqL.of hD), rfl, flat_ints _, false, ?_, iteF ?_⟩
          · show V.bl (!inV (V.int (m - t.giv m)) (t.parts.map fun q => V.int (m % q))) = V.bl false
            rw [in_ints hq' eq']
            rfl
          · exact ⟨_, _, _, rfl, s3⟩
      · exact ⟨_, _, _, rfl, sz⟩
    · obtain ⟨y7, y8, y9, rfl, sz⟩ := h
      have rj := rz.same sz
      obtain ⟨p', dx', tr', ep, hpj, _⟩ := id rj
      cases ep
      refine ⟨_, rfl, p, dx', _, rfl, hpj, t, _, rfl, rj, hl6, _, rfl, t.thr, rfl, hlog, true, rfl, iteF ?_⟩
      exact ⟨_, _, _, _, _, _, _, rfl, Bz.same sz⟩
end
end K13

namespace K13
open PySem PySem.Spec PyProof.Rows L2
/-! ### what the top has written: each fact is one that k_is finds -/
theorem def_mk {K : PySem.W.Frag} {h : Heap} {mg : Str → Option Value} {x : Str} {st : Stmt} {ps : List Str} {f : Addr} {od an : Option Addr} {sl : Array (Option Value)} {oc kV dc pm cd ct : Value} (X : K.In h) (G : h.Ns mainGlobals mg)
    (a : PySem.W.nsIn K mainGlobals x = some (some (.ref f))) (l : K.lookup f = some ⟨oc, od, .func (PySem.W.fnOf x x (defArgs st) (defBody st) (defScope st) .none kV dc pm an cd ct), sl⟩) (c : PySem.W.codeIn K cd x = true) (k : PySem.W.keepIn K (.ref f) = true)
    (hb : ∀ (kV doc pm : Value) (an : Option Addr) (cdv ct : Value) (us : List Value), us.length = ps.length → bindArgs (PySem.W.fnOf x x (defArgs st) (defBody st) (defScope st) .none kV doc pm an cdv ct) ⟨us, []⟩ = pure (ps.zip us)) : DefAt K mg x st ps :=
  ⟨f, _, fun_mk l c k, PySem.W.mg_of X G a, (fun_mk l c k).binds hb⟩
theorem met_mk {K : PySem.W.Frag} {x qual : Str} {st : Stmt} {ps : List Str} {f : Addr} {od an : Option Addr} {sl : Array (Option Value)} {oc kV dc pm cd ct : Value}
    (l : K.lookup f = some ⟨oc, od, .func (PySem.W.fnOf x qual (defArgs st) (defBody st) (defScope st) .none kV dc pm an cd ct), sl⟩) (c : PySem.W.codeIn K cd qual = true) (k : PySem.W.keepIn K (.ref f) = true)
    (hb : ∀ (kV doc pm : Value) (an : Option Addr) (cdv ct : Value) (us : List Value), us.length = ps.length → bindArgs (PySem.W.fnOf x qual (defArgs st) (defBody st) (defScope st) .none kV doc pm an cdv ct) ⟨us, []⟩ = pure (ps.zip us)) : FunAt K x qual st ps f :=
  ⟨_, fun_mk l c k, (fun_mk l c k).binds hb⟩
/-- at_least, and its default's tuple -/
theorem least_mk {K : PySem.W.Frag} {h : Heap} {mg : Str → Option Value} {f D : Addr} {od an odT : Option Addr} {sl slT : Array (Option Value)} {oc kV dc pm cd ct ocT : Value} {tk : Tok} {n : Nat} (X : K.In h) (G : h.Ns mainGlobals mg)
    (a : PySem.W.nsIn K mainGlobals "at_least" = some (some (.ref f))) (l : K.lookup f = some ⟨oc, od, .func (PySem.W.fnOf "at_least" "at_least" (defArgs sAtLeast) (defBody sAtLeast) (defScope sAtLeast) (.ref D) kV dc pm an cd ct), sl⟩)
    (c : PySem.W.codeIn K cd "at_least" = true) (k : PySem.W.keepIn K (.ref f) = true) (lT : K.lookup D = some ⟨ocT, odT, .seq ([Value.int 1 tk] : List Value).toArray n, slT⟩) : ∃ fd, LeastAt K mg f fd :=
  ⟨_, ⟨⟨oc, od, .ref D, kV, dc, pm, an, cd, ct, sl, rfl, l, c, .inr ⟨by simp, D, _, [.int 1 tk], n, rfl, lT, rfl, .cons ⟨tk, rfl⟩ .nil⟩, .inl rfl⟩, k⟩, PySem.W.mg_of X G a⟩

theorem all_mk {l : PySem.W.OpenLaw} {w : World} {K : PySem.W.Frag} {h : Heap} {mg : Str → Option Value} {fa C : Addr} (X : K.In h) (G : h.Ns mainGlobals mg) (hfa : mg "law" = some (.ref fa))
    {f1 f2 f3 f4 f5 f6 fl pt J f0 : Addr} {odJ od0 an0 : Option Addr} {slJ sl0 : Array (Option Value)} {oc0 kV0 dc0 pm0 cd0 ct0 : Value} {rest : List Value} {t1 t2 t3 t4 : Tok} {nJ : Nat}
    (d1 : DefAt K mg "is_integer" sIsInt ["thing"])
    (d2 : DefAt K mg "is_number" sIsNum ["least", "thing"])
    (d3 : DefAt K mg "is_shape" sShape ["thing"])
    (d4 : DefAt K mg "atoms_of" sAtoms ["tree"])
    (d5 : DefAt K mg "is_tree" sIsTree ["thing"])
    (d6 : DefAt K mg "given_of" sGiven ["tree", "amount"])
    (d7 : DefAt K mg "threshold_of" sThr ["tree"])
    (d8 : DefAt K mg "need_few" sFew ["one", "other"])
    (d9 : DefAt K mg "_law_bag" sBag ["_law_script"])
    (d10 : DefAt K mg "_law_take" sTake ["_law_bag_here", "_law_many"])
    (d11 : DefAt K mg "_law_alike" sAlike ["_law_found", "_law_due"])
    (d12 : DefAt K mg "_law_draw_size" sSize ["_law_bag_here", "_law_top", "_law_scale"])
    (d13 : DefAt K mg "_law_threshold" sLThr ["_law_tree"])
    (d14 : DefAt K mg "_law_draw_rule" sDraw ["_law_bag_here", "_law_top", "_law_scale", "_law_many"])
    (d15 : DefAt K mg "_law_made" sMade ["_law_bag_here", "_law_tree"])
    (d16 : DefAt K mg "_law_bounds" sBounds ["_law_tree"])
    (d17 : DefAt K mg "_law_amounts" sAmounts ["_law_bag_here", "_law_tree", "_law_many"])
    (d18 : DefAt K mg "_law_parts_of" sParts ["_law_tree"])
    (aC : PySem.W.nsIn K mainGlobals "Rule" = some (some (.ref C)))
    (am1 : PySem.W.findIn K (.ref C) "__init__" = some (some (.ref f1))) (im1 : PySem.W.isFn K (.ref f1) = true)
    (m1 : FunAt K "__init__" "Rule.__init__" sInit ["self", "tree"] f1)
    (am2 : PySem.W.findIn K (.ref C) "__call__" = some (some (.ref f2))) (im2 : PySem.W.isFn K (.ref f2) = true)
    (m2 : FunAt K "__call__" "Rule.__call__" sCall ["self", "amount"] f2)
    (am3 : PySem.W.findIn K (.ref C) "rest" = some (some (.ref f3))) (im3 : PySem.W.isFn K (.ref f3) = true)
    (m3 : FunAt K "rest" "Rule.rest" sRest ["self", "amount"] f3)
    (am4 : PySem.W.findIn K (.ref C) "threshold" = some (some (.ref pt))) (gm4 : PySem.W.specialIn K (.ref pt) "__get__" = some (some (.builtin "property.__get__"))) (tm4 : PySem.W.takesIn K (.ref pt) = some true) (rm4 : PySem.W.recIn K pt "property" = some (.ref f4 :: rest))
    (m4 : FunAt K "threshold" "Rule.threshold" sThreshold ["self"] f4)
    (am5 : PySem.W.findIn K (.ref C) "__or__" = some (some (.ref f5))) (im5 : PySem.W.isFn K (.ref f5) = true)
    (m5 : FunAt K "__or__" "Rule.__or__" sOr ["self", "other"] f5)
    (am6 : PySem.W.findIn K (.ref C) "__and__" = some (some (.ref f6))) (im6 : PySem.W.isFn K (.ref f6) = true)
    (m6 : FunAt K "__and__" "Rule.__and__" sAnd ["self", "other"] f6)
    (km3 : PySem.W.keepIn K (.ref f3) = true) (nm2 : PySem.W.fnIn K f2 = true)
    (dl : ∃ fd, LeastAt K mg fl fd)
    (sf : PySem.W.selfFirst K C = true) (pg : PySem.W.plainGet K C Str.empty = true) (hd : PySem.W.hasDictIn K C = true) (po : PySem.W.plainOver K C = true) (sa : PySem.W.findIn K (.ref C) "__setattr__" = some (some (.builtin "object.__setattr__"))) (mk : PySem.W.makesIn K C = true) (kc : PySem.W.keepIn K (.ref C) = true) (nT : PySem.W.findIn K (.ref C) "its_tree" = some none)
    (cb : PySem.W.nsIn K mainGlobals "MOST_BY" = some (some (.int 6 t1))) (ca : PySem.W.nsIn K mainGlobals "MOST_ATOMS" = some (some (.int 6 t2))) (cj : PySem.W.nsIn K mainGlobals "JOINS" = some (some (.ref J)))
    (lJ : K.lookup J = some ⟨.type "tuple", odJ, .seq ([Value.str "or" t3, Value.str "and" t4] : List Value).toArray nJ, slJ⟩)
    (z1 : PySem.W.nsIn K mainGlobals "isinstance" = some none)
    (z2 : PySem.W.nsIn K mainGlobals "int" = some none)
    (z3 : PySem.W.nsIn K mainGlobals "bool" = some none)
    (z4 : PySem.W.nsIn K mainGlobals "tuple" = some none)
    (z5 : PySem.W.nsIn K mainGlobals "str" = some none)
    (z6 : PySem.W.nsIn K mainGlobals "len" = some none)
    (z7 : PySem.W.nsIn K mainGlobals "max" = some none)
    (z8 : PySem.W.nsIn K mainGlobals "min" = some none)
    (z9 : PySem.W.nsIn K mainGlobals "abs" = some none)
    (z10 : PySem.W.nsIn K mainGlobals "repr" = some none)
    (z11 : PySem.W.nsIn K mainGlobals "range" = some none)
    (a0 : PySem.W.nsIn K mainGlobals "law" = some (some (.ref f0))) (l0 : K.lookup f0 = some ⟨oc0, od0, .func (PySem.W.fnOf "law" "law" (defArgs sLaw) (defBody sLaw) (defScope sLaw) .none kV0 dc0 pm0 an0 cd0 ct0), sl0⟩) (c0 : PySem.W.codeIn K cd0 "law" = true) (k0 : PySem.W.keepIn K (.ref f0) = true) :
    ∃ fd : FuncData, (∀ (s : Shared) (v : Value), BindsTo s fd ⟨[v], []⟩ [("_law_script", v)]) ∧ ∀ base : Heap, K.In base → base.Ns mainGlobals mg → FnOk l.prog w K mg base CX0 19 fa fd ["_law_script"] (spLaw K) := by
  have e := hfa.symm.trans (PySem.W.mg_of X G a0)
  cases e
  obtain ⟨fdl, dl⟩ := dl
  have cl : Cls K C := ⟨pg, hd, po, sa⟩
  have T : Tx K mg C := ⟨PySem.W.mg_none_of X G z1, PySem.W.mg_none_of X G z2, PySem.W.mg_none_of X G z3, PySem.W.mg_none_of X G z4, PySem.W.mg_none_of X G z5, PySem.W.mg_none_of X G z6, PySem.W.mg_none_of X G z7, PySem.W.mg_none_of X G z8, PySem.W.mg_none_of X G z9, PySem.W.mg_none_of X G z10, PySem.W.mg_none_of X G z11,
    ⟨t1, PySem.W.mg_of X G cb⟩, ⟨t2, PySem.W.mg_of X G ca⟩, ⟨J, PySem.W.mg_of X G cj, fun H => .inr ⟨_, _, nJ, lJ, rfl, rfl, (by show 2 ≤ sizeLine; decide), .cons ⟨t3, rfl⟩ (.cons ⟨t4, rfl⟩ .nil)⟩⟩, cl, nT, PySem.W.mg_of X G aC⟩
  have F0 := fun_mk (st := sLaw) l0 c0 k0
  refine ⟨PySem.W.fnOf "law" "law" (defArgs sLaw) (defBody sLaw) (defScope sLaw) .none kV0 dc0 pm0 an0 cd0 ct0, fun s v => .of_eq rfl, fun base _ _ => ?_⟩
  have M0 : Mk K C f1 := ⟨mk, am1, im1, kc⟩
  have r1 : Rdy l.prog w K mg base "is_integer" ["thing"] 1 spIsInt := ok_isInt d1 T
  have r2 := ok_isNum d2 r1
  have r3 := ok_shape d3 T r2 6
  have r4 : Rdy l.prog w K mg base "atoms_of" ["tree"] 7 (spAtoms 6) := ok_atoms d4 6
  have r5 := ok_isTree d5 T r3 r4
  have r6 : Rdy l.prog w K mg base "given_of" ["tree", "amount"] 7 (spGiven 6) := ok_given d6 T 6
  have r7 : Rdy l.prog w K mg base "threshold_of" ["tree"] 7 (spThr 6) := ok_thr d7 T 6
  have i1 := ok_init m1 T r5
  have i2 := ok_call m2 T r6
  have i3 := ok_rest m3 T r6
  have i4 := ok_threshold m4 T r7
  have r8 := ok_few d8 T r4
  have i5 := ok_or m5 T M0 i1 r8
  have i6 := ok_and m6 T M0 i1 r8
  have il := ok_atLeast dl T M0 i1 r2
  have r9 : Rdy l.prog w K mg base "_law_bag" ["_law_script"] 1 (spBag K) := ok_bag d9 T
  have r10 : Rdy l.prog w K mg base "_law_take" ["_law_bag_here", "_law_many"] 1 spTake := ok_take d10 T
  have r11 : Rdy l.prog w K mg base "_law_alike" ["_law_found", "_law_due"] 1 spAlike := ok_alike d11 T
  have r12 := ok_size d12 r10
  have r13 : Rdy l.prog w K mg base "_law_threshold" ["_law_tree"] 7 (spLThr 6) := ok_lthr d13 T 6
  have r14 := ok_draw d14 T r10 r12
  have r15 := ok_made d15 T r10 M0 i1 il ⟨sf, am5, im5⟩ i5 ⟨sf, am6, im6⟩ i6 6
  have r16 : Rdy l.prog w K mg base "_law_bounds" ["_law_tree"] 7 (spInts K13.T.bnds 6) := ok_bounds d16 T 6
  have r17 := ok_amounts d17 T r10 r16
  have r18 : Rdy l.prog w K mg base "_law_parts_of" ["_law_tree"] 7 (spInts K13.T.parts 6) := ok_parts d18 6
  exact ok_law F0 T r9 r10 r14 r15 r13 r11 r17 r18 ⟨am2, im2, nm2⟩ i2 ⟨am3, im3, km3⟩ i3 ⟨am4, gm4, tm4, rest, rm4⟩ i4
theorem walk {l : PySem.W.OpenLaw} {q : Program} {loose : List Str} {XP : (Str → Option Value) → Heap → Prop} {YP : World → Heap → Prop} {d : DefRec} {K : Params → PySem.W.Frag} (hn : l.most = some 63) (hdf : d.params.defaults = [])
    (hY : ∀ (w : World) (h : Heap), YP w h → (K w.params).In h)
    (F : ∀ (w : World) (mg : Str → Option Value) (fa : Addr) (h : Heap), (K w.params).In h → h.Ns mainGlobals mg → mg d.name = some (.ref fa) →
      ∃ fd : FuncData, (∀ (s : Shared) (u : Value), BindsTo s fd ⟨[u], []⟩ [("_law_script", u)]) ∧ ∀ base : Heap, (K w.params).In base → base.Ns mainGlobals mg → FnOk l.prog w (K w.params) mg base CX0 19 fa fd ["_law_script"] (spLaw (K w.params))) :
    PySem.W.WalkO q loose XP YP l.row.toRowW d [] (fun f vs => PySem.call f vs) :=
  L2.walk_of (n := 63) (k := 19) (x := "_law_script") (CX := fun _ => CX0) (sp := fun w => spLaw (K w.params)) hn (by decide) hdf ⟨rfl, by decide, by decide⟩ hY F (fun _ _ a ns hl _ hS => ⟨a, ns, rfl, hS, hl, fun _ => rfl⟩) fun _ _ _ _ _ z => z
end K13

open PySem PySem.W PyProof.Rows
set_option maxRecDepth 100000 in
set_option maxHeartbeats 0 in
theorem PySem.Challenge.cw_sharedpipe_k13_whole_thresholds_and_rest_holds : PySem.Challenge.rw_sharedpipe_k13_whole_thresholds_and_rest.Holds := by
  w_on; o_law; k_head; (case hw => w_witness2)
  k_fill
  refine K13.walk (l := PySem.Challenge.rw_sharedpipe_k13_whole_thresholds_and_rest) rfl rfl (fun w h Y => PySem.W.kIn_of Y) ?F
  case F =>
    intro w mg fa h KX G hmg
    refine' K13.all_mk KX G hmg ?d1 ?d2 ?d3 ?d4 ?d5 ?d6 ?d7 ?d8 ?d9 ?d10 ?d11 ?d12 ?d13 ?d14 ?d15 ?d16 ?d17 ?d18 ?aC ?am1 ?im1 ?m1 ?am2 ?im2 ?m2 ?am3 ?im3 ?m3 ?am4 ?gm4 ?tm4 ?rm4 ?m4 ?am5 ?im5 ?m5 ?am6 ?im6 ?m6 ?km3 ?nm2 ?dl ?sf ?pg ?hd ?po ?sa ?mk ?kc ?nT ?cb ?ca ?cj ?lJ ?z1 ?z2 ?z3 ?z4 ?z5 ?z6 ?z7 ?z8 ?z9 ?z10 ?z11 ?a0 ?l0 ?c0 ?k0
    (case d1 => refine' K13.def_mk KX G ?a ?l ?c ?k (fun _ _ _ _ _ _ us hl => match us, hl with | [_], _ => rfl); (case a => k_is); (case l => k_is); (case c => k_is); (case k => k_is))
    (case d2 => refine' K13.def_mk KX G ?a ?l ?c ?k (fun _ _ _ _ _ _ us hl => match us, hl with | [_, _], _ => rfl); (case a => k_is); (case l => k_is); (case c => k_is); (case k => k_is))
    (case d3 => refine' K13.def_mk KX G ?a ?l ?c ?k (fun _ _ _ _ _ _ us hl => match us, hl with | [_], _ => rfl); (case a => k_is); (case l => k_is); (case c => k_is); (case k => k_is))
    (case d4 => refine' K13.def_mk KX G ?a ?l ?c ?k (fun _ _ _ _ _ _ us hl => match us, hl with | [_], _ => rfl); (case a => k_is); (case l => k_is); (case c => k_is); (case k => k_is))
    (case d5 => refine' K13.def_mk KX G ?a ?l ?c ?k (fun _ _ _ _ _ _ us hl => match us, hl with | [_], _ => rfl); (case a => k_is); (case l => k_is); (case c => k_is); (case k => k_is))
    (case d6 => refine' K13.def_mk KX G ?a ?l ?c ?k (fun _ _ _ _ _ _ us hl => match us, hl with | [_, _], _ => rfl); (case a => k_is); (case l => k_is); (case c => k_is); (case k => k_is))
    (case d7 => refine' K13.def_mk KX G ?a ?l ?c ?k (fun _ _ _ _ _ _ us hl => match us, hl with | [_], _ => rfl); (case a => k_is); (case l => k_is); (case c => k_is); (case k => k_is))
    (case d8 => refine' K13.def_mk KX G ?a ?l ?c ?k (fun _ _ _ _ _ _ us hl => match us, hl with | [_, _], _ => rfl); (case a => k_is); (case l => k_is); (case c => k_is); (case k => k_is))
    (case d9 => refine' K13.def_mk KX G ?a ?l ?c ?k (fun _ _ _ _ _ _ us hl => match us, hl with | [_], _ => rfl); (case a => k_is); (case l => k_is); (case c => k_is); (case k => k_is))
    (case d10 => refine' K13.def_mk KX G ?a ?l ?c ?k (fun _ _ _ _ _ _ us hl => match us, hl with | [_, _], _ => rfl); (case a => k_is); (case l => k_is); (case c => k_is); (case k => k_is))
    (case d11 => refine' K13.def_mk KX G ?a ?l ?c ?k (fun _ _ _ _ _ _ us hl => match us, hl with | [_, _], _ => rfl); (case a => k_is); (case l => k_is); (case c => k_is); (case k => k_is))
    (case d12 => refine' K13.def_mk KX G ?a ?l ?c ?k (fun _ _ _ _ _ _ us hl => match us, hl with | [_, _, _], _ => rfl); (case a => k_is); (case l => k_is); (case c => k_is); (case k => k_is))
    (case d13 => refine' K13.def_mk KX G ?a ?l ?c ?k (fun _ _ _ _ _ _ us hl => match us, hl with | [_], _ => rfl); (case a => k_is); (case l => k_is); (case c => k_is); (case k => k_is))
    (case d14 => refine' K13.def_mk KX G ?a ?l ?c ?k (fun _ _ _ _ _ _ us hl => match us, hl with | [_, _, _, _], _ => rfl); (case a => k_is); (case l => k_is); (case c => k_is); (case k => k_is))
    (case d15 => refine' K13.def_mk KX G ?a ?l ?c ?k (fun _ _ _ _ _ _ us hl => match us, hl with | [_, _], _ => rfl); (case a => k_is); (case l => k_is); (case c => k_is); (case k => k_is))
    (case d16 => refine' K13.def_mk KX G ?a ?l ?c ?k (fun _ _ _ _ _ _ us hl => match us, hl with | [_], _ => rfl); (case a => k_is); (case l => k_is); (case c => k_is); (case k => k_is))
    (case d17 => refine' K13.def_mk KX G ?a ?l ?c ?k (fun _ _ _ _ _ _ us hl => match us, hl with | [_, _, _], _ => rfl); (case a => k_is); (case l => k_is); (case c => k_is); (case k => k_is))
    (case d18 => refine' K13.def_mk KX G ?a ?l ?c ?k (fun _ _ _ _ _ _ us hl => match us, hl with | [_], _ => rfl); (case a => k_is); (case l => k_is); (case c => k_is); (case k => k_is))
    (case aC => k_is)
    (case am1 => k_is)
    (case im1 => k_is)
    (case m1 => refine' K13.met_mk ?l ?c ?k (fun _ _ _ _ _ _ us hl => match us, hl with | [_, _], _ => rfl); (case l => k_is); (case c => k_is); (case k => k_is))
    (case am2 => k_is)
    (case im2 => k_is)
    (case m2 => refine' K13.met_mk ?l ?c ?k (fun _ _ _ _ _ _ us hl => match us, hl with | [_, _], _ => rfl); (case l => k_is); (case c => k_is); (case k => k_is))
    (case am3 => k_is)
    (case im3 => k_is)
    (case m3 => refine' K13.met_mk ?l ?c ?k (fun _ _ _ _ _ _ us hl => match us, hl with | [_, _], _ => rfl); (case l => k_is); (case c => k_is); (case k => k_is))
    (case am4 => k_is)
    (case gm4 => k_is)
    (case tm4 => k_is)
    (case rm4 => k_is)
    (case m4 => refine' K13.met_mk ?l ?c ?k (fun _ _ _ _ _ _ us hl => match us, hl with | [_], _ => rfl); (case l => k_is); (case c => k_is); (case k => k_is))
    (case am5 => k_is)
    (case im5 => k_is)
    (case m5 => refine' K13.met_mk ?l ?c ?k (fun _ _ _ _ _ _ us hl => match us, hl with | [_, _], _ => rfl); (case l => k_is); (case c => k_is); (case k => k_is))
    (case am6 => k_is)
    (case im6 => k_is)
    (case m6 => refine' K13.met_mk ?l ?c ?k (fun _ _ _ _ _ _ us hl => match us, hl with | [_, _], _ => rfl); (case l => k_is); (case c => k_is); (case k => k_is))
    (case km3 => k_is)
    (case nm2 => k_is)
    (case dl => refine' K13.least_mk KX G ?a ?l ?c ?k ?lT; (case a => k_is); (case l => k_is); (case c => k_is); (case k => k_is); (case lT => k_is))
    (case sf => k_is)
    (case pg => k_is)
    (case hd => k_is)
    (case po => k_is)
    (case sa => k_is)
    (case mk => k_is)
    (case kc => k_is)
    (case nT => k_is)
    (case cb => k_is)
    (case ca => k_is)
    (case cj => k_is)
    (case lJ => k_is)
    (case z1 => k_is)
    (case z2 => k_is)
    (case z3 => k_is)
    (case z4 => k_is)
    (case z5 => k_is)
    (case z6 => k_is)
    (case z7 => k_is)
    (case z8 => k_is)
    (case z9 => k_is)
    (case z10 => k_is)
    (case z11 => k_is)
    (case a0 => k_is)
    (case l0 => k_is)
    (case c0 => k_is)
    (case k0 => k_is)
#print axioms PySem.Challenge.cw_sharedpipe_k13_whole_thresholds_and_rest_holds
