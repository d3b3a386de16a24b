import PyProof.Rows.All
import Wide.All
import OpenK.AllK
import Wide.FinOn
import HandS.ForMost
import HandS.Zip
import HandS.IsInst
import HandS.SortRule
import HandS.SortInts
import HandS.Conv
import HandS.More
import HandS.TupMul
import HandS.Steps
import HandS.Evl
import PySem.Challenge.RW_fewcolours_k68_what_a_change_costs
set_option Elab.async false
set_option linter.all false
set_option maxRecDepth 100000
set_option maxHeartbeats 4000000
namespace Fc
open PySem L2

/-! ### what stays -/
abbrev no : Addr → Prop := fun _ => False
abbrev at1 (l : Addr) : Addr → Prop := fun a => a = l
/-- a tuple, or a thing that is locked: it never changes -/
def fixO : HO → Bool
  | .tup _ => true
  | .frz _ _ => true
  | _ => false
/-- from H to H': what stood stands as it was, but at places in M, where another thing may stand -/
def Kp (M : Addr → Prop) (H H' : Hp) : Prop := ∀ a o, H a = some o → H' a = some o ∨ (M a ∧ fixO o = false ∧ ∃ o', H' a = some o' ∧ fixO o' = false)
theorem Kp.refl {M : Addr → Prop} {H : Hp} : Kp M H H := fun _ _ h => .inl h
theorem Kp.tr {M N : Addr → Prop} {H H1 H2 : Hp} (k : Kp M H H1) (j : Kp N H1 H2) (s : ∀ a, N a → M a ∨ H a = none) : Kp M H H2 := fun a o h => by
  rcases k a o h with h1 | ⟨m, f, o', h1, f'⟩
  · rcases j a o h1 with h2 | ⟨n, f, o2, h2, f2⟩
    · exact .inl h2
    · rcases s a n with m | e
      · exact .inr ⟨m, f, o2, h2, f2⟩
      · rw [e] at h; cases h
  · rcases j a o' h1 with h2 | ⟨n, f2, o2, h2, f3⟩
    · exact .inr ⟨m, f, o', h2, f'⟩
    · exact .inr ⟨m, f, o2, h2, f3⟩
theorem Kp.tr0 {M : Addr → Prop} {H H1 H2 : Hp} (k : Kp M H H1) (j : Kp no H1 H2) : Kp M H H2 := k.tr j fun _ z => z.elim
theorem Kp.tr' {M : Addr → Prop} {H H1 H2 : Hp} (k : Kp M H H1) (j : Kp M H1 H2) : Kp M H H2 := k.tr j fun _ z => .inl z
theorem Kp.mono {M N : Addr → Prop} {H H' : Hp} (k : Kp M H H') (s : ∀ a, M a → N a ∨ H a = none) : Kp N H H' := Kp.tr (M := N) Kp.refl k s
theorem Kp.of0 {N : Addr → Prop} {H H' : Hp} (k : Kp no H H') : Kp N H H' := k.mono fun _ z => z.elim
theorem Kp.new {M : Addr → Prop} {H : Hp} {p : Addr} {o : HO} (h : H p = none) : Kp M H (upd H p o) := fun a u e => .inl (by rw [upd_ne (ne_of_none e h)]; exact e)
theorem Kp.set {H : Hp} {l : Addr} {u o : HO} (h : H l = some u) (f : fixO u = false) (g : fixO o = false) : Kp (at1 l) H (upd H l o) := fun a v e => by
  by_cases q : a = l
  · subst q
    rw [h] at e; cases e
    exact .inr ⟨rfl, f, o, upd_same, g⟩
  · exact .inl (by rw [upd_ne q]; exact e)
theorem Kp.free {M : Addr → Prop} {H H' : Hp} (k : Kp M H H') {p : Addr} (h : H' p = none) : H p = none := by
  cases e : H p with
  | none => rfl
  | some o =>
    rcases k p o e with q | ⟨_, _, o', q, _⟩
    · rw [h] at q; cases q
    · rw [h] at q; cases q
theorem Kp.at {M : Addr → Prop} {H H' : Hp} (k : Kp M H H') {a : Addr} {o : HO} (m : ¬ M a) (h : H a = some o) : H' a = some o := by
  rcases k a o h with q | ⟨z, _⟩
  · exact q
  · exact absurd z m
theorem Kp.fix {M : Addr → Prop} {H H' : Hp} (k : Kp M H H') {a : Addr} {o : HO} (f : fixO o = true) (h : H a = some o) : H' a = some o := by
  rcases k a o h with q | ⟨_, z, _⟩
  · exact q
  · rw [f] at z; cases z
/-- a step that changes f, which H does not know -/
theorem Kp.own {M : Addr → Prop} {H H1 H2 : Hp} {f : Addr} (k : Kp M H H1) (h : H f = none) (j : Kp (at1 f) H1 H2) : Kp M H H2 := k.tr j fun a e => by
  cases e
  exact .inr h
theorem ne_none {H : Hp} {a b : Addr} {o : HO} (h : H a = some o) (h' : H b = none) : b ≠ a := (ne_of_none h h').symm

/-! ### data -/
mutual
/-- v is the data d; each list in it stands at a place in G -/
inductive Dg (G : Addr → Prop) (K : PySem.W.Frag) (H : Hp) : V → PyData → Prop
  | non : Dg G K H .non .none
  | bl (b : Bool) : Dg G K H (.bl b) (.bool b)
  | int (i : Int) : Dg G K H (.int i) (.int i)
  | str (x : Str) : Dg G K H (.str x) (.str x)
  | lst {a : Addr} {xs : List V} {ds : List PyData} : G a → SqL K H a xs → DA G K H xs ds → Dg G K H (.ref a) (.list ds)
  | tup {a : Addr} {xs : List V} {ds : List PyData} : SqT K H a xs → DA G K H xs ds → Dg G K H (.ref a) (.tuple ds)
inductive DA (G : Addr → Prop) (K : PySem.W.Frag) (H : Hp) : List V → List PyData → Prop
  | nil : DA G K H [] []
  | cons {v : V} {vs : List V} {d : PyData} {ds : List PyData} : Dg G K H v d → DA G K H vs ds → DA G K H (v :: vs) (d :: ds)
end
/-- data without lists -/
abbrev Dz (K : PySem.W.Frag) (H : Hp) (v : V) (d : PyData) : Prop := Dg no K H v d
section
variable {G G' M : Addr → Prop} {K : PySem.W.Frag} {H H' : Hp}
theorem SqT.kp {a : Addr} {xs : List V} (k : Kp M H H') (h : SqT K H a xs) : SqT K H' a xs := by
  rcases h with (h | ⟨o, h⟩) | h
  · exact .inl (.inl (k.fix rfl h))
  · exact .inl (.inr ⟨o, k.fix rfl h⟩)
  · exact .inr h
theorem SqL.kp {a : Addr} {xs : List V} (k : Kp M H H') (m : ¬ M a) (h : SqL K H a xs) : SqL K H' a xs := by
  rcases h with (h | ⟨o, h⟩) | h
  · exact .inl (.inl (k.at m h))
  · exact .inl (.inr ⟨o, k.fix rfl h⟩)
  · exact .inr h
mutual
theorem Dg.kp (k : Kp M H H') (s : ∀ a, G a → ¬ M a) : ∀ {d : PyData} {v : V}, Dg G K H v d → Dg G K H' v d
  | _, _, .non => .non
  | _, _, .bl b => .bl b
  | _, _, .int i => .int i
  | _, _, .str x => .str x
  | _, _, .lst g h t => .lst g (SqL.kp k (s _ g) h) (DA.kp k s t)
  | _, _, .tup h t => .tup (SqT.kp k h) (DA.kp k s t)
theorem DA.kp (k : Kp M H H') (s : ∀ a, G a → ¬ M a) : ∀ {ds : List PyData} {vs : List V}, DA G K H vs ds → DA G K H' vs ds
  | _, _, .nil => .nil
  | _, _, .cons h t => .cons (Dg.kp k s h) (DA.kp k s t)
end
mutual
theorem Dg.mono (s : ∀ a, G a → G' a) : ∀ {d : PyData} {v : V}, Dg G K H v d → Dg G' K H v d
  | _, _, .non => .non
  | _, _, .bl b => .bl b
  | _, _, .int i => .int i
  | _, _, .str x => .str x
  | _, _, .lst g h t => .lst (s _ g) h (DA.mono s t)
  | _, _, .tup h t => .tup h (DA.mono s t)
theorem DA.mono (s : ∀ a, G a → G' a) : ∀ {ds : List PyData} {vs : List V}, DA G K H vs ds → DA G' K H vs ds
  | _, _, .nil => .nil
  | _, _, .cons h t => .cons (Dg.mono s h) (DA.mono s t)
end
mutual
theorem Dg.dp : ∀ {d : PyData} {v : V}, Dg G K H v d → Dp K H v d
  | _, _, .non => .non
  | _, _, .bl b => .bl b
  | _, _, .int i => .int i
  | _, _, .str x => .str x
  | _, _, .lst g h t => .lst h (DA.dp t)
  | _, _, .tup h t => .tup h (DA.dp t)
theorem DA.dp : ∀ {ds : List PyData} {vs : List V}, DA G K H vs ds → DpAll K H vs ds
  | _, _, .nil => .nil
  | _, _, .cons h t => .cons (Dg.dp h) (DA.dp t)
end
theorem Dg.z (h : Dz K H v d) : Dg G K H v d := h.mono fun _ z => z.elim
theorem DA.z (h : DA no K H vs ds) : DA G K H vs ds := h.mono fun _ z => z.elim
theorem Dz.kp {v : V} {d : PyData} (k : Kp M H H') (h : Dz K H v d) : Dz K H' v d := Dg.kp k (fun _ z => z.elim) h
theorem DAz.kp {vs : List V} {ds : List PyData} (k : Kp M H H') (h : DA no K H vs ds) : DA no K H' vs ds := DA.kp k (fun _ z => z.elim) h

theorem DA.len : ∀ {vs : List V} {ds : List PyData}, DA G K H vs ds → vs.length = ds.length
  | _, _, .nil => rfl
  | _, _, .cons _ t => by rw [List.length_cons, List.length_cons, t.len]
theorem DA.get : ∀ {vs : List V} {ds : List PyData} {i : Nat} {d : PyData}, DA G K H vs ds → ds[i]? = some d → ∃ v, vs[i]? = some v ∧ Dg G K H v d
  | _, _, i, d, .nil, e => by simp at e
  | _, _, 0, d, .cons h _, e => by simp at e; subst e; exact ⟨_, rfl, h⟩
  | _, _, i + 1, d, .cons _ t, e => by
    obtain ⟨v, h1, h2⟩ := DA.get (i := i) (d := d) t (by simpa using e)
    exact ⟨v, by simpa using h1, h2⟩
theorem DA.getV : ∀ {vs : List V} {ds : List PyData} {i : Nat} {v : V}, DA G K H vs ds → vs[i]? = some v → ∃ d, ds[i]? = some d ∧ Dg G K H v d
  | _, _, i, d, .nil, e => by simp at e
  | _, _, 0, d, .cons h _, e => by simp at e; subst e; exact ⟨_, rfl, h⟩
  | _, _, i + 1, d, .cons _ t, e => by
    obtain ⟨v, h1, h2⟩ := DA.getV (i := i) (v := d) t (by simpa using e)
    exact ⟨v, by simpa using h1, h2⟩
theorem DA.app : ∀ {vs ws : List V} {ds es : List PyData}, DA G K H vs ds → DA G K H ws es → DA G K H (vs ++ ws) (ds ++ es)
  | _, _, _, _, .nil, s => s
  | _, _, _, _, .cons h t, s => .cons h (DA.app t s)
theorem DA.one {v : V} {d : PyData} (h : Dg G K H v d) : DA G K H [v] [d] := .cons h .nil
theorem DA.snoc {vs : List V} {ds : List PyData} {v : V} {d : PyData} (h : DA G K H vs ds) (g : Dg G K H v d) : DA G K H (vs ++ [v]) (ds ++ [d]) := h.app (.one g)
theorem DA.set : ∀ {vs : List V} {ds : List PyData} {v : V} {d : PyData} (i : Nat), DA G K H vs ds → Dg G K H v d → DA G K H (vs.set i v) (ds.set i d)
  | _, _, _, _, _, .nil, _ => .nil
  | _, _, _, _, 0, .cons _ t, g => .cons g t
  | _, _, _, _, i + 1, .cons h t, g => .cons h (DA.set i t g)
theorem DA.take : ∀ {vs : List V} {ds : List PyData} (n : Nat), DA G K H vs ds → DA G K H (vs.take n) (ds.take n)
  | _, _, 0, _ => .nil
  | _, _, _ + 1, .nil => .nil
  | _, _, n + 1, .cons r t => .cons r (DA.take n t)
theorem DA.drop : ∀ {vs : List V} {ds : List PyData} (n : Nat), DA G K H vs ds → DA G K H (vs.drop n) (ds.drop n)
  | _, _, 0, r => r
  | _, _, _ + 1, .nil => .nil
  | _, _, n + 1, .cons _ t => DA.drop n t
theorem DA.erase : ∀ {vs : List V} {ds : List PyData} (n : Nat), DA G K H vs ds → DA G K H (vs.eraseIdx n) (ds.eraseIdx n)
  | _, _, _, .nil => .nil
  | _, _, 0, .cons _ t => t
  | _, _, n + 1, .cons r t => .cons r (DA.erase n t)
theorem DA.rev {vs : List V} {ds : List PyData} (h : DA G K H vs ds) : DA G K H vs.reverse ds.reverse := by
  induction h using DA.rec (motive_1 := fun _ _ _ => True) with
  | nil => exact .nil
  | cons g t _ ih => rw [List.reverse_cons, List.reverse_cons]; exact ih.app (.one g)
  | non => trivial
  | bl => trivial
  | int => trivial
  | str => trivial
  | lst => trivial
  | tup => trivial
theorem DA.ints : ∀ (ns : List Int), DA G K H (ns.map V.int) (ns.map PyData.int)
  | [] => .nil
  | n :: ns => .cons (.int n) (DA.ints ns)
theorem DA.ints_of : ∀ {ns : List Int} {vs : List V}, DA G K H vs (ns.map PyData.int) → vs = ns.map V.int
  | [], _, h => by cases h; rfl
  | n :: ns, _, h => by
    cases h with
    | cons g t =>
      cases g
      rw [DA.ints_of t]
      rfl
theorem DA.bls_of : ∀ {ns : List Bool} {vs : List V}, DA G K H vs (ns.map PyData.bool) → vs = ns.map V.bl
  | [], _, h => by cases h; rfl
  | n :: ns, _, h => by
    cases h with
    | cons g t =>
      cases g
      rw [DA.bls_of t]
      rfl
theorem Dg.int_of {v : V} {i : Int} (h : Dg G K H v (.int i)) : v = .int i := by cases h; rfl
theorem Dg.bl_of {v : V} {i : Bool} (h : Dg G K H v (.bool i)) : v = .bl i := by cases h; rfl
theorem Dg.str_of {v : V} {i : Str} (h : Dg G K H v (.str i)) : v = .str i := by cases h; rfl
theorem Dg.non_of {v : V} (h : Dg G K H v .none) : v = .non := by cases h; rfl
theorem Dg.tup_of {v : V} {ds : List PyData} (h : Dg G K H v (.tuple ds)) : ∃ a xs, v = .ref a ∧ SqT K H a xs ∧ DA G K H xs ds := by
  cases h with
  | tup h t => exact ⟨_, _, rfl, h, t⟩
theorem Dg.lst_of {v : V} {ds : List PyData} (h : Dg G K H v (.list ds)) : ∃ a xs, v = .ref a ∧ G a ∧ SqL K H a xs ∧ DA G K H xs ds := by
  cases h with
  | lst g h t => exact ⟨_, _, rfl, g, h, t⟩
theorem Dg.tupI_of {v : V} {ns : List Int} (h : Dg G K H v (.tuple (ns.map PyData.int))) : ∃ a, v = .ref a ∧ SqT K H a (ns.map V.int) := by
  obtain ⟨a, xs, e, h1, h2⟩ := h.tup_of
  rw [h2.ints_of] at h1
  exact ⟨a, e, h1⟩
theorem Dg.tupI {a : Addr} {ns : List Int} (h : SqT K H a (ns.map V.int)) : Dg G K H (.ref a) (.tuple (ns.map PyData.int)) := .tup h (.ints ns)
end
end Fc

set_option Elab.async false
set_option linter.all false
set_option maxRecDepth 100000
set_option maxHeartbeats 4000000
namespace Fc
open PySem L2 RZ

/-! ### readings by names -/
def rAddI : R2 := rI0 fun i j => .int (i + j)
def rSubI : R2 := rI0 fun i j => .int (i - j)
def rMulI : R2 := rI CMul fun i j => .int (i * j)
def rDivI : R2 := rI CDiv fun i j => .int (i / j)
def rModI : R2 := rI (fun _ j => 0 < j) fun i j => .int (i % j)
def rPowI : R2 := rI CPow fun i j => .int (i ^ j.toNat)
def rShlI : R2 := rI CPow fun i j => .int (i * 2 ^ j.toNat)
def rShrI : R2 := rI (fun _ j => 0 ≤ j) fun i j => .int (i / 2 ^ j.toNat)
def rAndI : R2 := rI0 fun i j => .int (Builtin.bitAnd i j)
def rOrI : R2 := rI0 fun i j => .int (Builtin.bitOr i j)
def rXorI : R2 := rI0 fun i j => .int (Builtin.bitXor i j)
def rLtI : R2 := rI0 fun i j => .bl (decide (i < j))
def rLeI : R2 := rI0 fun i j => .bl (decide (i ≤ j))
def rGtI : R2 := rI0 fun i j => .bl (decide (j < i))
def rGeI : R2 := rI0 fun i j => .bl (decide (j ≤ i))
def rNegI : V → Hp → VK → Prop := rU fun i => .int (-i)
def rIpAdd : TIp := ipI fun i j => i + j
def rAbs : List V → Hp → VK → Prop := fun xs H Q => ∃ i, xs = [.int i] ∧ Q (.int (if i < 0 then -i else i)) H
def rMin2 : List V → Hp → VK → Prop := fun xs H Q => ∃ i j, xs = [.int i, .int j] ∧ Q (.int (if j < i then j else i)) H
def rMax2 : List V → Hp → VK → Prop := fun xs H Q => ∃ i j, xs = [.int i, .int j] ∧ Q (.int (if j > i then j else i)) H
def rInt1 : List V → Hp → VK → Prop := fun xs H Q => (∃ i, xs = [.int i] ∧ Q (.int i) H) ∨ ∃ k, xs = [.bl k] ∧ Q (.int (if k then 1 else 0)) H
def rLenQ (K : PySem.W.Frag) : List V → Hp → VK → Prop := fun xs H Q => ∃ p ys, xs = [.ref p] ∧ (SqL K H p ys ∨ SqT K H p ys) ∧ Q (.int ys.length) H
def rLenStr : List V → Hp → VK → Prop := fun xs H Q => ∃ z, xs = [.str z] ∧ z.length ≤ sizeLine ∧ Q (.int z.length) H
def rLenD : List V → Hp → VK → Prop := fun xs H Q => ∃ a kvs, xs = [V.ref a] ∧ H a = some (.dK kvs) ∧ Q (.int kvs.length) H
def rListOf (K : PySem.W.Frag) : List V → Hp → VK → Prop := fun xs H Q => ∃ p ys, xs = [.ref p] ∧ (SqL K H p ys ∨ SqT K H p ys) ∧ ∀ l, H l = none → Q (.ref l) (upd H l (.lst ys))
def rTupOf (K : PySem.W.Frag) : List V → Hp → VK → Prop := fun xs H Q => ∃ p ys, xs = [.ref p] ∧ ((SqL K H p ys ∧ ∀ l, H l = none → Q (.ref l) (upd H l (.tup ys))) ∨ (SqT K H p ys ∧ Q (.ref p) H))
def rInsert : V → List V → Hp → VK → Prop := fun x vs H Q => ∃ (l : Addr) (xs : List V) (i : Int) (y : V), x = .ref l ∧ vs = [.int i, y] ∧ H l = some (.lst xs) ∧ xs.length < sizeLine ∧ 0 ≤ i ∧ i < 2 ^ 63 ∧ Q .non (upd H l (.lst (xs.take i.toNat ++ y :: xs.drop i.toNat)))

/-! ### what follows, by names (the goal's first word chooses the step) -/
def kTest (Q : Bool → Hp → Prop) : VK := fun x H' => ∃ k, x = .bl k ∧ Q k H'
def kPar (a : L2.St → Hp → Prop) (i j : Nat) (σ : L2.St) : List V → Hp → Prop := fun vs H1 => ∃ v w, vs = [v, w] ∧ a ((σ.set i (some v)).set j (some w)) H1
def kTup (Q : VK) : List V → Hp → Prop := fun xs H1 => xs.length ≤ sizeLine ∧ ∀ p, H1 p = none → Q (.ref p) (upd H1 p (.tup xs))
def kLst (Q : VK) : List V → Hp → Prop := fun xs H1 => xs.length ≤ sizeLine ∧ ∀ p, H1 p = none → Q (.ref p) (upd H1 p (.lst xs))
def kRng1 (R : It → Hp → Prop) : List V → Hp → Prop := fun vs H1 => ∃ j : Int, vs = [.int j] ∧ -(2 ^ 62) ≤ j ∧ j < 2 ^ 62 ∧ R (Itr 0 j.toNat) H1
def kRng2 (R : It → Hp → Prop) : List V → Hp → Prop := fun vs H1 => ∃ i j : Int, vs = [.int i, .int j] ∧ (-(2 ^ 62) ≤ i ∧ i < 2 ^ 62 ∧ -(2 ^ 62) ≤ j ∧ j < 2 ^ 62) ∧ R (Itr i (j - i).toNat) H1
def kList (K : PySem.W.Frag) (R : It → Hp → Prop) : VK := fun x H1 => ∃ a, x = .ref a ∧ (∃ xs, SqL K H1 a xs) ∧ R (Itl K a) H1
def kTupI (K : PySem.W.Frag) (R : It → Hp → Prop) : VK := fun x H1 => ∃ a, x = .ref a ∧ (∃ xs, SqT K H1 a xs) ∧ R (Itt K a) H1
def kZip (K : PySem.W.Frag) (R : It → Hp → Prop) : List V → Hp → Prop := fun vs H1 => ∃ a b xs ys, vs = [.ref a, .ref b] ∧ ((SqL K H1 a xs ∧ SqL K H1 b ys ∧ R (Itz K a b) H1) ∨ (SqT K H1 a xs ∧ SqT K H1 b ys ∧ R (ItzT K a b) H1))
def kEnum (K : PySem.W.Frag) (R : It → Hp → Prop) : List V → Hp → Prop := fun vs H1 => ∃ a xs, vs = [.ref a] ∧ SqL K H1 a xs ∧ R (Ite K a) H1
def kFor (J : It) (g : TG) (tb : TS) (D : Ends) (σ : L2.St) (H1 : Hp) : Prop := ∃ W : Nat → Nat → L2.St → Hp → Prop, (∃ m, W 0 m σ H1) ∧ ∀ i m σ H, W i m σ H →
  (J.stop i H ∧ D.nx σ H) ∨ (J.go i H ∧ ∃ N : L2.St → Hp → Prop, (∀ σ' H', N σ' H' → ∃ m', m' < m ∧ W (i + 1) m' σ' H') ∧ ∀ x H', J.yld i H x H' → g x σ H' fun σ2 H2 => tb { D with nx := N, ct := N, bk := D.nx } σ2 H2)
def kLc (J : It) (g : TG) (tt : TT) (te : TE) (vs : List Nat) (σ : L2.St) (Q : VK) (H1 : Hp) : Prop := ∀ D, H1 D = none → ∃ W : Nat → Nat → Hp → Prop, (∃ m, W 0 m (upd H1 D (.lst []))) ∧ ∀ i m H, W i m H →
  (J.stop i H ∧ Q (.ref D) H) ∨ (J.go i H ∧ ∃ Nx : Hp → Prop, (∀ H', Nx H' → ∃ m', m' < m ∧ W (i + 1) m' H') ∧ ∀ x H', J.yld i H x H' → g x (wipe σ vs) H' fun σ2 H2 => wipe σ2 vs = wipe σ vs ∧ tt σ2 H2 fun b H3 =>
    if b = true then te σ2 H3 fun y H4 => ∃ acc, H4 D = some (.lst acc) ∧ acc.length < sizeLine ∧ Nx (upd H4 D (.lst (acc ++ [y]))) else Nx H3)
def kChain (r' : R2) (tc : TE) (y : V) (σ : L2.St) (Q : VK) : VK := fun z H3 => ∃ k, z = .bl k ∧ (if k = true then tc σ H3 fun w' H4 => r' y w' H4 Q else Q (.bl false) H3)
def kRg (Q : VK) : Int → Int → Hp → Prop := fun a b H1 => RgOk a b ∧ ∀ q, H1 q = none → Q (.ref q) (upd H1 q (.lst (rgV a b)))
def kRg1 (Q : Int → Int → Hp → Prop) : VK := fun x H1 => ∃ n, x = .int n ∧ Q 0 n H1
def kRg2 (Q : Int → Int → Hp → Prop) (x : V) : VK := fun y H2 => ∃ i j, x = .int i ∧ y = .int j ∧ Q i j H2
def kBM (K : PySem.W.Frag) (T : String) (r : V → List V → Hp → VK → Prop) (t : TA) (σ : L2.St) (Q : VK) : VK := fun x H1 => tyV K T x H1 ∧ t σ H1 fun xs H2 => r x xs H2 Q
def kBM0 (K : PySem.W.Frag) (T : String) (r : V → List V → Hp → VK → Prop) (Q : VK) : VK := fun x H1 => tyV K T x H1 ∧ r x [] H1 Q

/-! ### steps: from the reading to what follows. The words of the goal choose the lemma -/
section
variable {K : PySem.W.Frag} {σ : L2.St} {H : Hp} {Q : VK} {D : Ends} {ta tb tc te : TE} {t u : TS} {tt tu : TT} {a c d : L2.St → Hp → Prop} {b : VK}
theorem w_var {i : Nat} {v : V} (e : σ[i]? = some (some v)) (q : Q v H) : tVar i σ H Q := ⟨v, e, q⟩
theorem w_c {v : V} (q : Q v H) : tC v σ H Q := q
theorem w_op {r : R2} (q : ta σ H fun x H1 => tb σ H1 fun y H2 => r x y H2 Q) : tOp r ta tb σ H Q := q
theorem w_un {r : V → Hp → VK → Prop} (q : ta σ H fun x H1 => r x H1 Q) : tUn r ta σ H Q := q
theorem w_nil {Q : List V → Hp → Prop} (q : Q [] H) : tNil σ H Q := q
theorem w_cons {tr : TA} {Q : List V → Hp → Prop} (q : ta σ H fun x H1 => tr σ H1 fun xs H2 => Q (x :: xs) H2) : tCons ta tr σ H Q := q
theorem w_cb {r : List V → Hp → VK → Prop} {ts : TA} (q : ts σ H fun vs H1 => r vs H1 Q) : tCB r ts σ H Q := q
theorem w_call {sp : Sp} {dvs : List V} {E : XK} {ts : TA} (q : ts σ H fun vs H1 => sp (vs ++ dvs) H1 Q E) : tCall sp dvs E ts σ H Q := q
theorem w_seq (q : t ⟨u ⟨a, b, c, d⟩, b, c, d⟩ σ H) : tSeq t u ⟨a, b, c, d⟩ σ H := q
theorem w_next (q : a σ H) : tNext ⟨a, b, c, d⟩ σ H := q
theorem w_brk (q : c σ H) : tBreak ⟨a, b, c, d⟩ σ H := q
theorem w_cnt (q : d σ H) : tCont ⟨a, b, c, d⟩ σ H := q
theorem w_asg {g : TG} (q : te σ H fun x H1 => g x σ H1 a) : tAsg te g ⟨a, b, c, d⟩ σ H := q
theorem w_gname {i : Nat} {v : V} {Q : L2.St → Hp → Prop} (q : Q (σ.set i (some v)) H) : gName i v σ H Q := q
theorem w_gsub {to ti : TE} {s : TSet} {v : V} {Q : L2.St → Hp → Prop} (q : to σ H fun o H1 => ti σ H1 fun i H2 => s o i v H2 fun H3 => Q σ H3) : gSub to ti s v σ H Q := q
theorem w_drop (q : te σ H fun _ H1 => a σ H1) : tDrop te ⟨a, b, c, d⟩ σ H := q
theorem w_ret (q : te σ H b) : tRet te ⟨a, b, c, d⟩ σ H := q
theorem w_retN (q : b .non H) : tRetN ⟨a, b, c, d⟩ σ H := q
theorem w_ifs (q : tt σ H fun x H1 => if x = true then t D σ H1 else u D σ H1) : tIfS tt t u D σ H := q
theorem w_aug {i : Nat} {ti : TIp} {x : V} (e : σ[i]? = some (some x)) (q : te σ H fun y H1 => ti x y H1 fun z H2 => a (σ.set i (some z)) H2) : tAug i te ti ⟨a, b, c, d⟩ σ H := ⟨x, e, q⟩
theorem w_test {Q : Bool → Hp → Prop} (q : te σ H (kTest Q)) : tTest te σ H Q := q
theorem w_tb {Q : Bool → Hp → Prop} (q : te σ H (kTest Q)) : tB te σ H Q := q
theorem w_bl {b : Bool} {Q : Bool → Hp → Prop} (q : Q b H) : kTest Q (.bl b) H := ⟨b, rfl, q⟩
theorem w_and {Q : Bool → Hp → Prop} (q : tt σ H fun c H1 => if c = true then tu σ H1 Q else Q false H1) : tAnd tt tu σ H Q := q
theorem w_or {Q : Bool → Hp → Prop} (q : tt σ H fun c H1 => if c = true then Q true H1 else tu σ H1 Q) : tOr tt tu σ H Q := q
theorem w_not {Q : Bool → Hp → Prop} (q : tt σ H fun c H1 => Q (!c) H1) : tNot tt σ H Q := q
theorem w_andV (q : ta σ H (kTest fun c H1 => if c = true then tb σ H1 Q else Q (.bl false) H1)) : tAndV ta tb σ H Q := q
theorem w_orV (q : ta σ H (kTest fun c H1 => if c = true then Q (.bl true) H1 else tb σ H1 Q)) : tOrV ta tb σ H Q := q
theorem w_notV (q : ta σ H (kTest fun c H1 => Q (.bl (!c)) H1)) : tNotV ta σ H Q := q
theorem w_ifx (q : tt σ H fun c H1 => if c = true then ta σ H1 Q else tb σ H1 Q) : tIf tt ta tb σ H Q := q
theorem w_chain {r r' : R2} (q : ta σ H fun x H1 => tb σ H1 fun y H2 => r x y H2 (kChain r' tc y σ Q)) : tChain r r' ta tb tc σ H Q := q
theorem w_kchainF {r' : R2} {y : V} {k : Bool} (e : k = false) (h2 : Q (.bl false) H) : kChain r' tc y σ Q (.bl k) H := by subst e; exact ⟨false, rfl, h2⟩
theorem w_kchainT {r' : R2} {y : V} {k : Bool} (e : k = true) (h1 : tc σ H fun w' H4 => r' y w' H4 Q) : kChain r' tc y σ Q (.bl k) H := by subst e; exact ⟨true, rfl, h1⟩
theorem w_kchain {r' : R2} {y : V} {k : Bool} (h1 : k = true → tc σ H fun w' H4 => r' y w' H4 Q) (h2 : k = false → Q (.bl false) H) : kChain r' tc y σ Q (.bl k) H := ⟨k, rfl, by
  cases k with
  | true => exact h1 rfl
  | false => exact h2 rfl⟩
theorem w_par {i j : Nat} {ts : TA} (q : ts σ H (kPar a i j σ)) : tPar i j ts ⟨a, b, c, d⟩ σ H := q
theorem w_kpar {i j : Nat} {v w : V} (q : a ((σ.set i (some v)).set j (some w)) H) : kPar a i j σ [v, w] H := ⟨v, w, rfl, q⟩
theorem w_cut (M : L2.St → Hp → Prop) (h : t ⟨M, b, c, d⟩ σ H) (k : ∀ σ' H', M σ' H' → u ⟨a, b, c, d⟩ σ' H') : Evl.tCut t u ⟨a, b, c, d⟩ σ H := ⟨M, h, k⟩
theorem w_if {b : Bool} {A B : Prop} (h1 : b = true → A) (h2 : b = false → B) : if b = true then A else B := by
  cases b with
  | true => exact h1 rfl
  | false => exact h2 rfl
theorem w_ift {A B : Prop} (h : A) : if true = true then A else B := h
theorem w_ifT {b : Bool} {A B : Prop} (e : b = true) (h : A) : if b = true then A else B := by rw [if_pos e]; exact h
theorem w_ifF {b : Bool} {A B : Prop} (e : b = false) (h : B) : if b = true then A else B := by rw [e]; exact h
theorem w_iff {A B : Prop} (h : B) : if false = true then A else B := h

/-! ints -/
theorem w_add {i j : Int} (q : Q (.int (i + j)) H) : rAddI (.int i) (.int j) H Q := ⟨i, j, rfl, rfl, q⟩
theorem w_sub {i j : Int} (q : Q (.int (i - j)) H) : rSubI (.int i) (.int j) H Q := ⟨i, j, rfl, rfl, q⟩
theorem w_mul {i j : Int} (c : CMul i j) (q : Q (.int (i * j)) H) : rMulI (.int i) (.int j) H Q := ⟨i, j, rfl, rfl, c, q⟩
theorem w_div {i j : Int} (c : 0 < j ∧ j < 1073741824) (q : Q (.int (i / j)) H) : rDivI (.int i) (.int j) H Q := ⟨i, j, rfl, rfl, c, q⟩
theorem w_mod {i j : Int} (c : 0 < j) (q : Q (.int (i % j)) H) : rModI (.int i) (.int j) H Q := ⟨i, j, rfl, rfl, c, q⟩
theorem w_pow {i j : Int} (c : CPow i j) (q : Q (.int (i ^ j.toNat)) H) : rPowI (.int i) (.int j) H Q := ⟨i, j, rfl, rfl, c, q⟩
theorem w_shl {i j : Int} (c : CPow i j) (q : Q (.int (i * 2 ^ j.toNat)) H) : rShlI (.int i) (.int j) H Q := ⟨i, j, rfl, rfl, c, q⟩
theorem w_shr {i j : Int} (c : 0 ≤ j) (q : Q (.int (i / 2 ^ j.toNat)) H) : rShrI (.int i) (.int j) H Q := ⟨i, j, rfl, rfl, c, q⟩
theorem w_andI {i j : Int} (q : Q (.int (Builtin.bitAnd i j)) H) : rAndI (.int i) (.int j) H Q := ⟨i, j, rfl, rfl, q⟩
theorem w_orI {i j : Int} (q : Q (.int (Builtin.bitOr i j)) H) : rOrI (.int i) (.int j) H Q := ⟨i, j, rfl, rfl, q⟩
theorem w_xorI {i j : Int} (q : Q (.int (Builtin.bitXor i j)) H) : rXorI (.int i) (.int j) H Q := ⟨i, j, rfl, rfl, q⟩
theorem w_lt {i j : Int} (q : Q (.bl (decide (i < j))) H) : rLtI (.int i) (.int j) H Q := ⟨i, j, rfl, rfl, q⟩
theorem w_le {i j : Int} (q : Q (.bl (decide (i ≤ j))) H) : rLeI (.int i) (.int j) H Q := ⟨i, j, rfl, rfl, q⟩
theorem w_gt {i j : Int} (q : Q (.bl (decide (j < i))) H) : rGtI (.int i) (.int j) H Q := ⟨i, j, rfl, rfl, q⟩
theorem w_ge {i j : Int} (q : Q (.bl (decide (j ≤ i))) H) : rGeI (.int i) (.int j) H Q := ⟨i, j, rfl, rfl, q⟩
theorem w_neg {i : Int} (q : Q (.int (-i)) H) : rNegI (.int i) H Q := ⟨i, rfl, q⟩
theorem w_ipadd {i j : Int} (q : Q (.int (i + j)) H) : rIpAdd (.int i) (.int j) H Q := ⟨i, j, rfl, rfl, q⟩
theorem w_abs {i : Int} (q : Q (.int (if i < 0 then -i else i)) H) : rAbs [.int i] H Q := ⟨i, rfl, q⟩
theorem w_min2 {i j : Int} (q : Q (.int (if j < i then j else i)) H) : rMin2 [.int i, .int j] H Q := ⟨i, j, rfl, q⟩
theorem w_max2 {i j : Int} (q : Q (.int (if j > i then j else i)) H) : rMax2 [.int i, .int j] H Q := ⟨i, j, rfl, q⟩
theorem w_int1 {k : Bool} (q : Q (.int (if k then 1 else 0)) H) : rInt1 [.bl k] H Q := .inr ⟨k, rfl, q⟩
theorem w_int1i {i : Int} (q : Q (.int i) H) : rInt1 [.int i] H Q := .inl ⟨i, rfl, q⟩
theorem w_eqI {i j : Int} (q : Q (.bl (decide (i = j))) H) : rEq (.int i) (.int j) H Q := ⟨rfl, by
  have e : decide (V.int i = V.int j) = decide (i = j) := decide_eq_decide.mpr ⟨fun h => V.int.inj h, fun h => by rw [h]⟩
  rw [e]; exact q⟩
theorem w_neI {i j : Int} (q : Q (.bl (!decide (i = j))) H) : rNe (.int i) (.int j) H Q := ⟨rfl, by
  have e : decide (V.int i = V.int j) = decide (i = j) := decide_eq_decide.mpr ⟨fun h => V.int.inj h, fun h => by rw [h]⟩
  rw [e]; exact q⟩
theorem w_eqB {i j : Bool} (q : Q (.bl (decide (i = j))) H) : rEq (.bl i) (.bl j) H Q := ⟨rfl, by
  have e : decide (V.bl i = V.bl j) = decide (i = j) := decide_eq_decide.mpr ⟨fun h => V.bl.inj h, fun h => by rw [h]⟩
  rw [e]; exact q⟩
theorem w_neB {i j : Bool} (q : Q (.bl (!decide (i = j))) H) : rNe (.bl i) (.bl j) H Q := ⟨rfl, by
  have e : decide (V.bl i = V.bl j) = decide (i = j) := decide_eq_decide.mpr ⟨fun h => V.bl.inj h, fun h => by rw [h]⟩
  rw [e]; exact q⟩
theorem w_isN {x : V} (q : Q (.bl (decide (x = .non))) H) : rIsN x .non H Q := ⟨rfl, q⟩
theorem w_notN {x : V} (q : Q (.bl (!decide (x = .non))) H) : rNotN x .non H Q := ⟨rfl, q⟩

/-! things that are made: a new place, what stood stays -/
theorem w_tup {ts : TA} (q : ts σ H (kTup Q)) : tTup ts σ H Q := q
theorem w_lst {ts : TA} (q : ts σ H (kLst Q)) : tLst ts σ H Q := q
theorem w_ktup {xs : List V} (l : xs.length ≤ sizeLine) (q : ∀ p H', H p = none → Kp no H H' → H' p = some (.tup xs) → Q (.ref p) H') : kTup Q xs H :=
  ⟨l, fun p hp => q p _ hp (Kp.new hp) upd_same⟩
theorem w_klst {xs : List V} (l : xs.length ≤ sizeLine) (q : ∀ p H', H p = none → Kp no H H' → H' p = some (.lst xs) → Q (.ref p) H') : kLst Q xs H :=
  ⟨l, fun p hp => q p _ hp (Kp.new hp) upd_same⟩
theorem w_listOf {p : Addr} {ys : List V} (h : SqL K H p ys ∨ SqT K H p ys) (q : ∀ l H', H l = none → Kp no H H' → H' l = some (.lst ys) → Q (.ref l) H') : rListOf K [.ref p] H Q :=
  ⟨p, ys, rfl, h, fun l hl => q l _ hl (Kp.new hl) upd_same⟩
theorem w_tupOfL {p : Addr} {ys : List V} (h : SqL K H p ys) (q : ∀ l H', H l = none → Kp no H H' → H' l = some (.tup ys) → Q (.ref l) H') : rTupOf K [.ref p] H Q :=
  ⟨p, ys, rfl, .inl ⟨h, fun l hl => q l _ hl (Kp.new hl) upd_same⟩⟩
theorem w_tupOfT {p : Addr} {ys : List V} (h : SqT K H p ys) (q : Q (.ref p) H) : rTupOf K [.ref p] H Q := ⟨p, ys, rfl, .inr ⟨h, q⟩⟩
theorem w_cat {a b : Addr} {xs ys : List V} (h1 : H a = some (.lst xs)) (h2 : H b = some (.lst ys)) (l : xs.length + ys.length ≤ sizeLine) (q : ∀ p H', H p = none → Kp no H H' → H' p = some (.lst (xs ++ ys)) → Q (.ref p) H') : rCat (.ref a) (.ref b) H Q :=
  ⟨a, b, xs, ys, rfl, rfl, h1, h2, l, fun p hp => q p _ hp (Kp.new hp) upd_same⟩
theorem w_slL {a : Addr} {xs : List V} {lo hi : Option Int} (h : SqL K H a xs) (q : ∀ p H', H p = none → Kp no H H' → H' p = some (.lst (cutV xs lo hi)) → Q (.ref p) H') : rSlL K (.ref a) lo hi H Q :=
  ⟨a, xs, rfl, h, fun p hp => q p _ hp (Kp.new hp) upd_same⟩
theorem w_sl {r : V → Option Int → Option Int → Hp → VK → Prop} {tl th : TO} (q : te σ H fun x H1 => tl σ H1 fun l H2 => th σ H2 fun u H3 => r x l u H3 Q) : tSl r te tl th σ H Q := q
theorem w_nopart {Q : Option Int → Hp → Prop} (q : Q none H) : tNoPart σ H Q := q
def kPart (Q : Option Int → Hp → Prop) : VK := fun x H1 => ∃ i, x = .int i ∧ Q (some i) H1
theorem w_part {Q : Option Int → Hp → Prop} (q : te σ H (kPart Q)) : tPart te σ H Q := q
theorem w_kpart {Q : Option Int → Hp → Prop} {i : Int} (q : Q (some i) H) : kPart Q (.int i) H := ⟨i, rfl, q⟩
theorem w_lstRg {t : L2.St → Hp → (Int → Int → Hp → Prop) → Prop} (q : t σ H (kRg Q)) : tLstRg t σ H Q := q
theorem w_rg1 {Q : Int → Int → Hp → Prop} (q : ta σ H (kRg1 Q)) : tRg1 ta σ H Q := q
theorem w_rg2 {Q : Int → Int → Hp → Prop} (q : ta σ H fun x H1 => tb σ H1 (kRg2 Q x)) : tRg2 ta tb σ H Q := q
theorem w_krg1 {Q : Int → Int → Hp → Prop} {n : Int} (q : Q 0 n H) : kRg1 Q (.int n) H := ⟨n, rfl, q⟩
theorem w_krg2 {Q : Int → Int → Hp → Prop} {i n : Int} (q : Q i n H) : kRg2 Q (.int i) (.int n) H := ⟨i, n, rfl, rfl, q⟩
theorem w_krg {a b : Int} (ok : RgOk a b) (q : ∀ p H', H p = none → Kp no H H' → H' p = some (.lst (rgV a b)) → Q (.ref p) H') : kRg Q a b H :=
  ⟨ok, fun p hp => q p _ hp (Kp.new hp) upd_same⟩

/-! reading from lists and tuples -/
theorem w_ixL {p : Addr} {xs : List V} {i : Int} {v : V} (h : SqL K H p xs) (e : atI xs i = some v) (q : Q v H) : rIxL K (.ref p) (.int i) H Q := ⟨p, xs, i, v, rfl, rfl, h, e, q⟩
theorem w_ixT {p : Addr} {xs : List V} {i : Int} {v : V} (h : SqT K H p xs) (e : atI xs i = some v) (q : Q v H) : rIxT K (.ref p) (.int i) H Q := ⟨p, xs, i, v, rfl, rfl, h, e, q⟩
theorem w_ixLD {G : Addr → Prop} {p : Addr} {ds : List PyData} {i : Int} {j : Nat} {d : PyData} (h : Dg G K H (.ref p) (.list ds)) (e : i = (j : Int)) (g : ds[j]? = some d) (q : ∀ v, Dg G K H v d → Q v H) : rIxL K (.ref p) (.int i) H Q := by
  obtain ⟨a, xs, e1, _, hs, ha⟩ := h.lst_of
  cases e1
  obtain ⟨v, hv, dv⟩ := ha.get g
  subst e
  exact w_ixL hs (atI_nat hv) (q v dv)
theorem w_ixTD {G : Addr → Prop} {p : Addr} {ds : List PyData} {i : Int} {j : Nat} {d : PyData} (h : Dg G K H (.ref p) (.tuple ds)) (e : i = (j : Int)) (g : ds[j]? = some d) (q : ∀ v, Dg G K H v d → Q v H) : rIxT K (.ref p) (.int i) H Q := by
  obtain ⟨a, xs, e1, hs, ha⟩ := h.tup_of
  cases e1
  obtain ⟨v, hv, dv⟩ := ha.get g
  subst e
  exact w_ixT hs (atI_nat hv) (q v dv)
theorem w_len {p : Addr} {ys : List V} (h : SqL K H p ys ∨ SqT K H p ys) (q : Q (.int ys.length) H) : rLenQ K [.ref p] H Q := ⟨p, ys, rfl, h, q⟩
theorem w_lenL {p : Addr} {ys : List V} (h : SqL K H p ys) (q : Q (.int ys.length) H) : rLenQ K [.ref p] H Q := ⟨p, ys, rfl, .inl h, q⟩
theorem w_lenT {p : Addr} {ys : List V} (h : SqT K H p ys) (q : Q (.int ys.length) H) : rLenQ K [.ref p] H Q := ⟨p, ys, rfl, .inr h, q⟩
theorem w_lenD {G : Addr → Prop} {v : V} {ds : List PyData} (h : Dg G K H v (.list ds)) (q : Q (.int ds.length) H) : rLenQ K [v] H Q := by
  obtain ⟨a, xs, e1, _, hs, ha⟩ := h.lst_of
  cases e1
  exact ⟨a, xs, rfl, .inl hs, by rw [ha.len]; exact q⟩
theorem w_lenTD {G : Addr → Prop} {v : V} {ds : List PyData} (h : Dg G K H v (.tuple ds)) (q : Q (.int ds.length) H) : rLenQ K [v] H Q := by
  obtain ⟨a, xs, e1, hs, ha⟩ := h.tup_of
  cases e1
  exact ⟨a, xs, rfl, .inr hs, by rw [ha.len]; exact q⟩
theorem w_sum {p : Addr} {ns : List Int} (h : SqL K H p (ns.map V.int)) (q : Q (.int ns.sum) H) : rSum K [.ref p] H Q := ⟨p, ns, rfl, h, q⟩
theorem w_all {p : Addr} {bs : List Bool} (h : SqL K H p (bs.map V.bl)) (q : Q (.bl (bs.all id)) H) : rAll K [.ref p] H Q := ⟨p, bs, rfl, h, q⟩
theorem w_any {p : Addr} {bs : List Bool} (h : SqL K H p (bs.map V.bl)) (q : Q (.bl (bs.any id)) H) : rAny K [.ref p] H Q := ⟨p, bs, rfl, h, q⟩
/-! writing -/
theorem w_setL {Q : Hp → Prop} {p : Addr} {xs : List V} {i : Int} {j : Nat} {v : V} (h : H p = some (.lst xs)) (e : ixN xs.length i = some j) (q : ∀ H', Kp (at1 p) H H' → H' p = some (.lst (xs.set j v)) → Q H') : rSetL (.ref p) (.int i) v H Q :=
  ⟨p, xs, i, j, rfl, rfl, h, e, q _ (Kp.set h rfl rfl) upd_same⟩
theorem w_append {l : Addr} {xs : List V} {y : V} (h : H l = some (.lst xs)) (z : xs.length < sizeLine) (q : ∀ H', Kp (at1 l) H H' → H' l = some (.lst (xs ++ [y])) → Q .non H') : rAppend (.ref l) [y] H Q :=
  ⟨l, xs, y, rfl, rfl, h, z, q _ (Kp.set h rfl rfl) upd_same⟩
theorem w_extend {l b : Addr} {xs zs : List V} (h : H l = some (.lst xs)) (h2 : H b = some (.lst zs)) (z : xs.length + zs.length ≤ sizeLine) (q : ∀ H', Kp (at1 l) H H' → H' l = some (.lst (xs ++ zs)) → Q .non H') : rExtend (.ref l) [.ref b] H Q :=
  ⟨l, b, xs, zs, rfl, rfl, h, h2, z, q _ (Kp.set h rfl rfl) upd_same⟩
theorem w_popAt {l : Addr} {xs : List V} {i : Int} {k : Nat} {y : V} (h : H l = some (.lst xs)) (b : -(2 ^ 63) ≤ i ∧ i < 2 ^ 63) (e : seqIndex? i xs.length = some k) (g : xs[k]? = some y) (q : ∀ H', Kp (at1 l) H H' → H' l = some (.lst (xs.eraseIdx k)) → Q y H') : rPopAt (.ref l) [.int i] H Q :=
  ⟨l, xs, i, k, y, rfl, rfl, h, b.1, b.2, e, g, q _ (Kp.set h rfl rfl) upd_same⟩
theorem w_pop {l : Addr} {xs : List V} {y : V} (h : H l = some (.lst xs)) (g : xs[xs.length - 1]? = some y) (q : ∀ H', Kp (at1 l) H H' → H' l = some (.lst xs.dropLast) → Q y H') : rPop (.ref l) [] H Q :=
  ⟨l, xs, y, rfl, rfl, h, g, q _ (Kp.set h rfl rfl) upd_same⟩
theorem w_reverse {l : Addr} {xs : List V} (h : H l = some (.lst xs)) (q : ∀ H', Kp (at1 l) H H' → H' l = some (.lst xs.reverse) → Q .non H') : rReverse (.ref l) [] H Q :=
  ⟨l, xs, rfl, rfl, h, q _ (Kp.set h rfl rfl) upd_same⟩
theorem w_bm {r : V → List V → Hp → VK → Prop} {T : String} {ts : TA} (q : te σ H (kBM K T r ts σ Q)) : tBM K T r te ts σ H Q := q
theorem w_bm0 {r : V → List V → Hp → VK → Prop} {T : String} (q : te σ H (kBM0 K T r Q)) : tBM0 K T r te σ H Q := q
theorem w_kbmL {r : V → List V → Hp → VK → Prop} {ts : TA} {a : Addr} {xs : List V} (h : SqL K H a xs) (q : ts σ H fun ys H2 => r (.ref a) ys H2 Q) : kBM K "list" r ts σ Q (.ref a) H := ⟨.inl ⟨rfl, _, h⟩, q⟩
theorem w_kbmL0 {r : V → List V → Hp → VK → Prop} {a : Addr} {xs : List V} (h : SqL K H a xs) (q : r (.ref a) [] H Q) : kBM0 K "list" r Q (.ref a) H := ⟨.inl ⟨rfl, _, h⟩, q⟩
/-! kinds -/
def tyN : PyData → String
  | .none => "NoneType"
  | .bool _ => "bool"
  | .int _ => "int"
  | .str _ => "str"
  | .list _ => "list"
  | .tuple _ => "tuple"
  | .dict _ => "dict"
theorem tyX_of {G : Addr → Prop} {v : V} {d : PyData} (h : Dg G K H v d) : TyX K H v (.type (tyN d)) := by
  cases h with
  | non => exact .base .non
  | bl b => exact .base (.bl b)
  | int i => exact .base (.int i)
  | str x => exact .base (.str x)
  | lst g h _ =>
    rcases h with (h | ⟨o, h⟩) | ⟨o, its, n, h, c, _⟩
    · exact .base (.lst h)
    · exact .base (.frz h)
    · exact .kList h c
  | tup h _ =>
    rcases h with (h | ⟨o, h⟩) | ⟨o, its, n, h, c, _⟩
    · exact .base (.tup h)
    · exact .fTuple h
    · exact .kTuple h c
/-- isinstance(.., b), b one of the five -/
def isTy (b : String) : PyData → Bool
  | .int _ => b == "int"
  | .bool _ => b == "int" || b == "bool"
  | .str _ => b == "str"
  | .list _ => b == "list"
  | .tuple _ => b == "tuple"
  | _ => false
theorem kitB_is (b : String) (hb : b = "int" ∨ b = "bool" ∨ b = "str" ∨ b = "list" ∨ b = "tuple") (d : PyData) : kitB (tyN d) b = some (isTy b d) := by
  rcases hb with rfl | rfl | rfl | rfl | rfl <;> cases d <;> (simp only [tyN, isTy]; decide +kernel)
theorem w_isi {G : Addr → Prop} {v : V} {d : PyData} {b : String} (h : Dg G K H v d) (hb : b = "int" ∨ b = "bool" ∨ b = "str" ∨ b = "list" ∨ b = "tuple") (q : Q (.bl (isTy b d)) H) : rIsi K [v, .ty b] H Q :=
  ⟨v, .ty b, _, _, _, rfl, .ty b, tyX_of h, kit_ty (kitB_is b hb d), q⟩
theorem w_isi2 {G : Addr → Prop} {v : V} {d : PyData} {tp : Addr} {b c : String} (h : Dg G K H v d) (ht : H tp = some (.tup [.ty b, .ty c])) (hb : b = "int" ∨ b = "bool" ∨ b = "str" ∨ b = "list" ∨ b = "tuple") (hc : c = "int" ∨ c = "bool" ∨ c = "str" ∨ c = "list" ∨ c = "tuple")
    (q : Q (.bl (isTy b d || isTy c d)) H) : rIsiT K [v, .ref tp] H Q := by
  refine ⟨v, tp, _, _, [.type b, .type c], _, rfl, ht, .cons (.ty b) (.cons (.ty c) .nil), tyX_of h, ?_, q⟩
  refine kitAny_cons (kit_ty (kitB_is b hb d)) (fun e => ?_) (fun e => by rw [e]; rfl)
  refine kitAny_cons (kit_ty (kitB_is c hc d)) (fun e' => ?_) (fun e' => by rw [e']; cases isTy b d <;> rfl)
  rw [e, e']; exact kitAny_nil

/-! unpacking -/
theorem w_gtup {n : Nat} {t : TGs} {Q : L2.St → Hp → Prop} {p : Addr} {xs : List V} (h : SqT K H p xs) (l : xs.length = n) (q : t xs σ H Q) : gTup K n t (.ref p) σ H Q := ⟨p, xs, rfl, h, l, q⟩
theorem w_gnil {Q : L2.St → Hp → Prop} (q : Q σ H) : gNil [] σ H Q := ⟨rfl, q⟩
theorem w_gcons {g : TG} {u : TGs} {v : V} {r : List V} {Q : L2.St → Hp → Prop} (q : g v σ H fun σ' H' => u r σ' H' Q) : gCons g u (v :: r) σ H Q := ⟨v, r, rfl, q⟩
/-! == -/
theorem shaped_of {d : PyData} (h1 : d.canLay0 = true) (h2 : d.depth ≤ 64) : SeqAt.shaped d = true := by
  unfold SeqAt.shaped
  rw [h1, decide_eq_true h2]; rfl
theorem w_eqD {G G' : Addr → Prop} {x y : V} {d e : PyData} (h1 : Dg G K H x d) (h2 : Dg G' K H y e) (s1 : SeqAt.shaped d = true) (s2 : SeqAt.shaped e = true) (q : Q (.bl (PyData.eqv d e)) H) : rEqD K x y H Q := ⟨d, e, h1.dp, h2.dp, s1, s2, q⟩
theorem w_neD {G G' : Addr → Prop} {x y : V} {d e : PyData} (h1 : Dg G K H x d) (h2 : Dg G' K H y e) (s1 : SeqAt.shaped d = true) (s2 : SeqAt.shaped e = true) (q : Q (.bl (!PyData.eqv d e)) H) : rNeD K x y H Q := ⟨d, e, h1.dp, h2.dp, s1, s2, q⟩

/-! loops -/
theorem w_rng1 {R : It → Hp → Prop} {ts : TA} (q : ts σ H (kRng1 R)) : iRng1 ts σ H R := q
theorem w_rng2 {R : It → Hp → Prop} {ts : TA} (q : ts σ H (kRng2 R)) : iRng2 ts σ H R := q
theorem w_ilist {R : It → Hp → Prop} (q : te σ H (kList K R)) : iList K te σ H R := q
theorem w_itup {R : It → Hp → Prop} (q : te σ H (kTupI K R)) : iTup K te σ H R := q
theorem w_izip {R : It → Hp → Prop} {ts : TA} (q : ts σ H (kZip K R)) : iZipA K ts σ H R := q
theorem w_ienum {R : It → Hp → Prop} {ts : TA} (q : ts σ H (kEnum K R)) : iEnum K ts σ H R := q
theorem w_krng1 {R : It → Hp → Prop} {j : Int} (b : -(2 ^ 62) ≤ j ∧ j < 2 ^ 62) (q : R (Itr 0 j.toNat) H) : kRng1 R [.int j] H := ⟨j, rfl, b.1, b.2, q⟩
theorem w_krng2 {R : It → Hp → Prop} {i j : Int} (b : -(2 ^ 62) ≤ i ∧ i < 2 ^ 62 ∧ -(2 ^ 62) ≤ j ∧ j < 2 ^ 62) (q : R (Itr i (j - i).toNat) H) : kRng2 R [.int i, .int j] H := ⟨i, j, rfl, b, q⟩
theorem w_klist {R : It → Hp → Prop} {a : Addr} {xs : List V} (h : SqL K H a xs) (q : R (Itl K a) H) : kList K R (.ref a) H := ⟨a, rfl, ⟨xs, h⟩, q⟩
theorem w_ktupI {R : It → Hp → Prop} {a : Addr} {xs : List V} (h : SqT K H a xs) (q : R (Itt K a) H) : kTupI K R (.ref a) H := ⟨a, rfl, ⟨xs, h⟩, q⟩
theorem w_kzipL {R : It → Hp → Prop} {a b : Addr} {xs ys : List V} (h : SqL K H a xs) (h2 : SqL K H b ys) (q : R (Itz K a b) H) : kZip K R [.ref a, .ref b] H := ⟨a, b, xs, ys, rfl, .inl ⟨h, h2, q⟩⟩
theorem w_kzipT {R : It → Hp → Prop} {a b : Addr} {xs ys : List V} (h : SqT K H a xs) (h2 : SqT K H b ys) (q : R (ItzT K a b) H) : kZip K R [.ref a, .ref b] H := ⟨a, b, xs, ys, rfl, .inr ⟨h, h2, q⟩⟩
theorem w_kenum {R : It → Hp → Prop} {a : Addr} {xs : List V} (h : SqL K H a xs) (q : R (Ite K a) H) : kEnum K R [.ref a] H := ⟨a, xs, rfl, h, q⟩
theorem w_for {wi : TI} {g : TG} (q : wi σ H fun J H1 => kFor J g t ⟨a, b, c, d⟩ σ H1) : tFor wi g t ⟨a, b, c, d⟩ σ H := q
theorem w_lc {wi : TI} {g : TG} {vs : List Nat} (q : wi σ H fun J H1 => kLc J g tt te vs σ Q H1) : tLc wi g tt te vs σ H Q := q
theorem w_yes {Q : Bool → Hp → Prop} (q : Q true H) : tYes σ H Q := q
/-- what a walk does while its source stands: n turns, Y tells what the i-th brings -/
structure Wk (J : It) (n : Nat) (S : Hp → Prop) (Y : Nat → V → Hp → Prop) : Prop where
  go : ∀ i H, S H → i < n → J.go i H
  stop : ∀ H, S H → J.stop n H
  yld : ∀ i x H H', S H → i < n → J.yld i H x H' → Kp no H H' ∧ Y i x H'
theorem wk_rng {lo : Int} {n : Nat} : Wk (Itr lo n) n (fun _ => True) (fun i x _ => x = .int (lo + i)) :=
  ⟨fun _ _ _ h => h, fun _ _ => Nat.le_refl _, fun i x H H' _ _ y => ⟨by rw [y.1]; exact Kp.refl, y.2⟩⟩
theorem wk_list {a : Addr} {xs : List V} : Wk (Itl K a) xs.length (fun H => SqL K H a xs) (fun i x _ => xs[i]? = some x) :=
  ⟨fun i H s h => ⟨xs, xs[i], s, by simp [h]⟩, fun H s => ⟨xs, s, Nat.le_refl _⟩, fun i x H H' s _ y => ⟨by rw [y.1]; exact Kp.refl, y.2 xs s⟩⟩
theorem wk_tup {a : Addr} {xs : List V} : Wk (Itt K a) xs.length (fun H => SqT K H a xs) (fun i x _ => xs[i]? = some x) :=
  ⟨fun i H s h => ⟨xs, xs[i], s, by simp [h]⟩, fun H s => ⟨xs, s, Nat.le_refl _⟩, fun i x H H' s _ y => ⟨by rw [y.1]; exact Kp.refl, y.2 xs s⟩⟩
/-- a new pair -/
def PairY (K : PySem.W.Frag) (f g : Nat → Option V) : Nat → V → Hp → Prop := fun i x H' => ∃ T u v, x = .ref T ∧ SqT K H' T [u, v] ∧ f i = some u ∧ g i = some v
theorem wk_zipL {a b : Addr} {xs ys : List V} : Wk (Itz K a b) (min xs.length ys.length) (fun H => SqL K H a xs ∧ SqL K H b ys) (PairY K (xs[·]?) (ys[·]?)) := by
  refine ⟨fun i H s h => ?_, fun H s => ⟨xs, ys, s.1, s.2, by omega⟩, fun i x H H' s _ y => ?_⟩
  · have h1 : i < xs.length := by omega
    have h2 : i < ys.length := by omega
    exact ⟨xs, ys, xs[i], ys[i], s.1, s.2, by simp [h1], by simp [h2]⟩
  · obtain ⟨T, x', y', rfl, hT, rfl, f1, f2⟩ := y
    exact ⟨Kp.new hT, T, x', y', rfl, SqT.of upd_same, f1 xs s.1, f2 ys s.2⟩
theorem wk_zipT {a b : Addr} {xs ys : List V} : Wk (ItzT K a b) (min xs.length ys.length) (fun H => SqT K H a xs ∧ SqT K H b ys) (PairY K (xs[·]?) (ys[·]?)) := by
  refine ⟨fun i H s h => ?_, fun H s => ⟨xs, ys, s.1, s.2, by omega⟩, fun i x H H' s _ y => ?_⟩
  · have h1 : i < xs.length := by omega
    have h2 : i < ys.length := by omega
    exact ⟨xs, ys, xs[i], ys[i], s.1, s.2, by simp [h1], by simp [h2]⟩
  · obtain ⟨T, x', y', rfl, hT, rfl, f1, f2⟩ := y
    exact ⟨Kp.new hT, T, x', y', rfl, SqT.of upd_same, f1 xs s.1, f2 ys s.2⟩
theorem wk_enum {a : Addr} {xs : List V} : Wk (Ite K a) xs.length (fun H => SqL K H a xs) (PairY K (fun i => some (.int (i : Nat))) (xs[·]?)) := by
  refine ⟨fun i H s h => ⟨xs, xs[i], s, by simp [h]⟩, fun H s => ⟨xs, s, Nat.le_refl _⟩, fun i x H H' s _ y => ?_⟩
  obtain ⟨T, x', rfl, hT, rfl, f1⟩ := y
  exact ⟨Kp.new hT, T, _, x', rfl, SqT.of upd_same, rfl, f1 xs s⟩
theorem wk_rev {a : Addr} {xs : List V} : Wk (Itv K a xs.length) xs.length (fun H => SqL K H a xs) (fun i x _ => xs[xs.length - 1 - i]? = some x) := by
  refine ⟨fun i H s h => ⟨h, xs, xs[xs.length - 1 - i], s, List.getElem?_eq_getElem (by omega)⟩, fun H s => Nat.le_refl _, fun i x H H' s h y => ?_⟩
  exact ⟨by rw [y.1]; exact Kp.refl, y.2 xs s⟩
theorem w_forG {J : It} {n : Nat} {S : Hp → Prop} {Y : Nat → V → Hp → Prop} {g : TG} (wk : Wk J n S Y) (Pv : Nat → L2.St → Hp → Prop) (h0 : Pv 0 σ H) (hst : ∀ i σ H, i ≤ n → Pv i σ H → S H)
    (hs : ∀ i x σ H H', i < n → Pv i σ H → Kp no H H' → Y i x H' → g x σ H' fun σ2 H2 => t ⟨Pv (i + 1), b, a, Pv (i + 1)⟩ σ2 H2) (hd : ∀ σ H, Pv n σ H → a σ H) : kFor J g t ⟨a, b, c, d⟩ σ H := by
  refine ⟨fun i m σ H => m = n - i ∧ i ≤ n ∧ Pv i σ H, ⟨n, by simp, Nat.zero_le _, h0⟩, ?_⟩
  rintro i m σ H ⟨rfl, hi, p⟩
  have s := hst i σ H hi p
  by_cases hlt : i < n
  · refine .inr ⟨wk.go i H s hlt, Pv (i + 1), fun σ' H' p' => ⟨n - (i + 1), by omega, rfl, hlt, p'⟩, fun x H' y => ?_⟩
    obtain ⟨k, y⟩ := wk.yld i x H H' s hlt y
    exact hs i x σ H H' hlt p k y
  · have e : i = n := by omega
    subst e
    exact .inl ⟨wk.stop H s, hd σ H p⟩
/-- what a comprehension's turn is to reach: the item y is put behind the list at D -/
def kElt (D : Addr) (Nx : Hp → Prop) : VK := fun y H4 => ∃ acc, H4 D = some (.lst acc) ∧ acc.length < sizeLine ∧ Nx (upd H4 D (.lst (acc ++ [y])))
def PvD (D : Addr) (Pv : List V → Hp → Prop) : Hp → Prop := fun H => ∃ acc, H D = some (.lst acc) ∧ Pv acc H
theorem w_kelt {D : Addr} {Pv : List V → Hp → Prop} {y : V} {acc : List V} (hD : H D = some (.lst acc)) (hl : acc.length < sizeLine) (p : Pv (acc ++ [y]) H) (stab : ∀ acc H', Kp (at1 D) H H' → Pv acc H → Pv acc H') : kElt D (PvD D Pv) y H :=
  ⟨acc, hD, hl, acc ++ [y], upd_same, stab _ _ (Kp.set hD rfl rfl) p⟩
theorem w_lcG {J : It} {n : Nat} {S : Hp → Prop} {Y : Nat → V → Hp → Prop} {g : TG} {vs : List Nat} (wk : Wk J n S Y) (Pv : Nat → List V → Hp → Prop) (h0 : ∀ D H', H D = none → Kp no H H' → Pv 0 [] H') (hst : ∀ i acc H, i ≤ n → Pv i acc H → S H)
    (hs : ∀ i x acc D H2 H', i < n → H D = none → H' D = some (.lst acc) → Pv i acc H2 → Kp no H2 H' → Y i x H' → g x (wipe σ vs) H' fun σ2 H2 => wipe σ2 vs = wipe σ vs ∧ tt σ2 H2 fun b H3 =>
      if b = true then te σ2 H3 (kElt D (PvD D (Pv (i + 1)))) else PvD D (Pv (i + 1)) H3) (hd : ∀ acc D H', H D = none → H' D = some (.lst acc) → Pv n acc H' → Q (.ref D) H') : kLc J g tt te vs σ Q H := by
  intro D hD
  refine ⟨fun i m H' => m = n - i ∧ i ≤ n ∧ PvD D (Pv i) H', ⟨n, by simp, Nat.zero_le _, [], upd_same, h0 D _ hD (Kp.new hD)⟩, ?_⟩
  rintro i m H2 ⟨rfl, hi, acc, ha, p⟩
  have s := hst i acc H2 hi p
  by_cases hlt : i < n
  · refine .inr ⟨wk.go i H2 s hlt, PvD D (Pv (i + 1)), fun H' p' => ⟨n - (i + 1), by omega, rfl, hlt, p'⟩, fun x H' y => ?_⟩
    obtain ⟨k, y⟩ := wk.yld i x H2 H' s hlt y
    exact hs i x acc D H2 H' hlt hD (k.at (fun z => z) ha) p k y
  · have e : i = n := by omega
    subst e
    exact .inl ⟨wk.stop H2 s, hd acc D H2 hD ha p⟩
theorem filterMap_snoc {α : Type} (f : Nat → Option α) (n : Nat) : (List.range (n + 1)).filterMap f = (List.range n).filterMap f ++ (f n).toList := by
  rw [List.range_succ, List.filterMap_append]
  cases h : f n with
  | none => simp [h]
  | some a => simp [h]
theorem filterMap_len {α : Type} (f : Nat → Option α) (n : Nat) : ((List.range n).filterMap f).length ≤ n := by
  have := List.length_filterMap_le f (List.range n)
  rw [List.length_range] at this
  exact this
/-- a comprehension whose turns change nothing: f tells the i-th item, or that there is none -/
theorem w_lcP {J : It} {n : Nat} {S : Hp → Prop} {Y : Nat → V → Hp → Prop} {g : TG} {vs : List Nat} (wk : Wk J n S Y) (f : Nat → Option PyData) (hn : n ≤ 100000) (hst : ∀ H', Kp no H H' → S H')
    (hs : ∀ i x H', i < n → Kp no H H' → Y i x H' → ∀ (R : VK) (R0 : Hp → Prop), (∀ y d H2, Kp no H' H2 → f i = some d → Dz K H2 y d → R y H2) → (∀ H2, Kp no H' H2 → f i = none → R0 H2) →
      g x (wipe σ vs) H' fun σ2 H2 => wipe σ2 vs = wipe σ vs ∧ tt σ2 H2 fun b H3 => if b = true then te σ2 H3 R else R0 H3)
    (hd : ∀ p ws H', H p = none → Kp no H H' → H' p = some (.lst ws) → DA no K H' ws ((List.range n).filterMap f) → Q (.ref p) H') : kLc J g tt te vs σ Q H := by
  have own : ∀ {D H2 H'}, H D = none → Kp no H H2 → Kp (at1 D) H2 H' → Kp no H H' := fun hD k j => k.own hD j
  refine w_lcG wk (fun i acc H' => Kp no H H' ∧ DA no K H' acc ((List.range i).filterMap f)) (fun D H' _ k => ⟨k, .nil⟩) (fun i acc H' _ p => hst H' p.1) ?_ (fun acc D H' hD ha p => hd D acc H' hD p.1 ha p.2)
  intro i x acc D H2 H' hi hD ha p k y
  refine hs i x H' hi (p.1.tr0 k) y _ _ (fun y d H3 k3 e dy => ?_) (fun H3 k3 e => ?_)
  · refine w_kelt (k3.at (fun z => z) ha) ?_ ⟨(p.1.tr0 k).tr0 k3, ?_⟩ (fun acc H4 k4 q => ⟨own hD q.1 k4, q.2.kp k4 fun _ z => z.elim⟩)
    · rw [p.2.len]
      have h1 := filterMap_len f i
      have h2 : (100000 : Nat) < sizeLine := by decide
      omega
    · rw [filterMap_snoc, e]
      exact ((p.2.kp k fun _ z => z.elim).kp k3 fun _ z => z.elim).snoc dy
  · refine ⟨acc, k3.at (fun z => z) ha, (p.1.tr0 k).tr0 k3, ?_⟩
    rw [filterMap_snoc, e]
    have := (p.2.kp k fun _ z => z.elim).kp k3 fun _ z => z.elim
    simpa using this
theorem map_erase {α β : Type} (f : α → β) : ∀ (xs : List α) (j : Nat), (xs.eraseIdx j).map f = (xs.map f).eraseIdx j
  | [], _ => rfl
  | _ :: _, 0 => rfl
  | x :: xs, j + 1 => by rw [List.eraseIdx_cons_succ, List.map_cons, List.map_cons, List.eraseIdx_cons_succ, map_erase f xs j]
/-! a list of data without lists -/
def LstD (K : PySem.W.Frag) (H : Hp) (p : Addr) (ds : List PyData) : Prop := ∃ vs, H p = some (.lst vs) ∧ DA no K H vs ds
theorem LstD.kp {M : Addr → Prop} {H' : Hp} {p : Addr} {ds : List PyData} (k : Kp M H H') (m : ¬ M p) (h : LstD K H p ds) : LstD K H' p ds := by
  obtain ⟨vs, e, g⟩ := h
  exact ⟨vs, k.at m e, DAz.kp k g⟩
theorem LstD.dg {p : Addr} {ds : List PyData} (h : LstD K H p ds) : Dg (at1 p) K H (.ref p) (.list ds) := by
  obtain ⟨vs, e, g⟩ := h
  exact .lst rfl (SqL.of e) g.z
theorem LstD.ne {p q : Addr} {ds : List PyData} (h : LstD K H p ds) (e : H q = none) : q ≠ p := by
  obtain ⟨vs, e', g⟩ := h
  exact ne_none e' e
theorem w_lenLd {p : Addr} {ds : List PyData} (h : LstD K H p ds) (q : Q (.int ds.length) H) : rLenQ K [.ref p] H Q := w_lenD h.dg q
theorem w_ixR {α : Type} {f : α → PyData} {xs : List α} {p : Addr} {i : Int} (h : LstD K H p (xs.map f)) (b : 0 ≤ i ∧ i < xs.length) (q : ∀ v x, xs[i.toNat]? = some x → x ∈ xs → Dz K H v (f x) → Q v H) : rIxL K (.ref p) (.int i) H Q := by
  obtain ⟨vs, e, g⟩ := h
  obtain ⟨j, rfl⟩ : ∃ j : Nat, i = j := ⟨i.toNat, by omega⟩
  have hj : j < xs.length := by omega
  obtain ⟨v, hv, dv⟩ := g.get (i := j) (d := f xs[j]) (by rw [List.getElem?_map, List.getElem?_eq_getElem hj]; rfl)
  exact w_ixL (SqL.of e) (atI_nat hv) (q v _ (by rw [Int.toNat_natCast, List.getElem?_eq_getElem hj]) (List.getElem_mem hj) dv)
theorem w_appendLd {l : Addr} {ds : List PyData} {y : V} {d : PyData} (h : LstD K H l ds) (g : Dz K H y d) (z : ds.length < sizeLine) (q : ∀ H', Kp (at1 l) H H' → LstD K H' l (ds ++ [d]) → Q .non H') : rAppend (.ref l) [y] H Q := by
  obtain ⟨vs, e, ha⟩ := h
  exact w_append e (by rw [ha.len]; exact z) fun H' k e' => q H' k ⟨_, e', (DAz.kp k ha).snoc (Dz.kp k g)⟩
theorem w_setLd {Q : Hp → Prop} {p : Addr} {ds : List PyData} {i : Int} {v : V} {d : PyData} (h : LstD K H p ds) (b : 0 ≤ i ∧ i < ds.length) (g : Dz K H v d) (q : ∀ H', Kp (at1 p) H H' → LstD K H' p (ds.set i.toNat d) → Q H') : rSetL (.ref p) (.int i) v H Q := by
  obtain ⟨vs, e, ha⟩ := h
  have hl := ha.len
  refine w_setL e (j := i.toNat) ?_ fun H' k e' => q H' k ⟨_, e', DA.set _ (DAz.kp k ha) (Dz.kp k g)⟩
  unfold ixN
  rw [if_pos b.1, if_pos (by omega)]
theorem w_kbmLd {r : V → List V → Hp → VK → Prop} {ts : TA} {a : Addr} {ds : List PyData} (h : LstD K H a ds) (q : ts σ H fun ys H2 => r (.ref a) ys H2 Q) : kBM K "list" r ts σ Q (.ref a) H := by
  obtain ⟨vs, e, ha⟩ := h
  exact w_kbmL (SqL.of e) q
theorem w_kbmLd0 {r : V → List V → Hp → VK → Prop} {a : Addr} {ds : List PyData} (h : LstD K H a ds) (q : r (.ref a) [] H Q) : kBM0 K "list" r Q (.ref a) H := by
  obtain ⟨vs, e, ha⟩ := h
  exact w_kbmL0 (SqL.of e) q
theorem w_popAtLd {α : Type} {f : α → PyData} {xs : List α} {l : Addr} {i : Int} (h : LstD K H l (xs.map f)) (b : 0 ≤ i ∧ i < xs.length) (z : xs.length ≤ 100000) (q : ∀ H' v x, xs[i.toNat]? = some x → Kp (at1 l) H H' → LstD K H' l ((xs.eraseIdx i.toNat).map f) → Dz K H' v (f x) → Q v H') : rPopAt (.ref l) [.int i] H Q := by
  obtain ⟨vs, e, g⟩ := h
  obtain ⟨j, rfl⟩ : ∃ j : Nat, i = j := ⟨i.toNat, by omega⟩
  have hj : j < xs.length := by omega
  obtain ⟨v, hv, dv⟩ := g.get (i := j) (d := f xs[j]) (by rw [List.getElem?_map, List.getElem?_eq_getElem hj]; rfl)
  have hl := g.len
  rw [List.length_map] at hl
  have hs : (100000 : Int) < 2 ^ 63 := by decide
  refine w_popAt e ⟨by omega, by omega⟩ (k := j) ?_ hv fun H' k e' => q H' v _ (by rw [Int.toNat_natCast, List.getElem?_eq_getElem hj]) k ⟨_, e', ?_⟩ (Dz.kp k dv)
  · exact (ixN_seq (by unfold ixN; rw [if_pos (by omega), if_pos (by omega), Int.toNat_natCast])).1
  · rw [Int.toNat_natCast, map_erase]
    exact (DAz.kp k g).erase j
theorem w_listOfLd {p : Addr} {ds : List PyData} (h : LstD K H p ds) (q : ∀ l H', H l = none → Kp no H H' → LstD K H' l ds → Q (.ref l) H') : rListOf K [.ref p] H Q := by
  obtain ⟨vs, e, g⟩ := h
  exact w_listOf (.inl (SqL.of e)) fun l H' f k e' => q l H' f k ⟨vs, e', DAz.kp k g⟩
theorem w_neE {x y : Addr} {ds : List PyData} (h : LstD K H x ds) (ok : SeqAt.shaped (.list ds) = true) (h2 : H y = some (.lst [])) (q : Q (.bl (!ds.isEmpty)) H) : rNeD K (.ref x) (.ref y) H Q := by
  refine w_neD h.dg (G' := at1 y) (.lst rfl (SqL.of h2) .nil) ok (by decide +kernel) ?_
  cases ds with
  | nil => simpa [PyData.eqv, PyData.eqvAll] using q
  | cons d ds => simpa [PyData.eqv, PyData.eqvAll] using q
end
/-! ### the law's draws -/
/-- the list of three numbers at l from which is drawn; at most n draws so far -/
def Rand (H : Hp) (l : Addr) (n : Nat) : Prop := ∃ a b c : Int, H l = some (.lst [.int a, .int b, .int c]) ∧ 0 ≤ a ∧ 0 ≤ c ∧ c ≤ n
theorem Rand.kp {M : Addr → Prop} {H H' : Hp} {l : Addr} {n : Nat} (k : Kp M H H') (m : ¬ M l) (r : Rand H l n) : Rand H' l n := by
  obtain ⟨a, b, c, h, z⟩ := r
  exact ⟨a, b, c, k.at m h, z⟩
theorem Rand.mono {H : Hp} {l : Addr} {n m : Nat} (r : Rand H l n) (h : n ≤ m) : Rand H l m := by
  obtain ⟨a, b, c, e, z1, z2, z3⟩ := r
  exact ⟨a, b, c, e, z1, z2, by omega⟩
theorem Rand.ne {H : Hp} {l f : Addr} {n : Nat} (r : Rand H l n) (h : H f = none) : f ≠ l := by
  obtain ⟨a, b, c, e, _⟩ := r
  exact ne_none e h
def intsTo (n : Nat) : List Int := (List.range n).map fun (i : Nat) => (i : Int)
theorem rgV_0 (n : Nat) : rgV 0 (n : Int) = (intsTo n).map V.int := by
  unfold rgV intsTo
  rw [List.map_map]
  have e : ((n : Int) - 0).toNat = n := by omega
  rw [e]
  refine List.map_congr_left fun i _ => ?_
  show V.int (0 + (i : Int)) = V.int (i : Int)
  rw [Int.zero_add]
theorem mem_intsTo {n : Nat} {x : Int} (h : x ∈ intsTo n) : 0 ≤ x ∧ x < n := by
  obtain ⟨i, hi, rfl⟩ := List.mem_map.mp h
  have := List.mem_range.mp hi
  omega
theorem len_intsTo (n : Nat) : (intsTo n).length = n := by unfold intsTo; rw [List.length_map, List.length_range]
/-- a row of steps together, kept out of the looks' way -/
structure KZ (M : Addr → Prop) (H H' : Hp) : Prop where
  k : Kp M H H'
end Fc

set_option Elab.async false
set_option linter.all false
set_option maxRecDepth 100000
set_option maxHeartbeats 4000000
namespace Fc
open PySem L2 RZ

local macro_rules | `(tactic| walk_at "sz") => `(tactic| first | (with_reducible assumption) | (show _ ≤ sizeLine; decide) | (show _ < sizeLine; decide) | (rw [sizeLine_eq]; omega) | (simp only [List.length_append, List.length_cons, List.length_nil, List.length_map]; rw [sizeLine_eq]; omega))
local macro_rules | `(tactic| walk_at "ne") => `(tactic| first | assumption | exact Ne.symm (by assumption) | (intro z; exact z))
local macro_rules | `(tactic| walk_at "at") => `(tactic| first | assumption | ((refine' Kp.at (by assumption) ?m ?h); (case m => walk_at "ne"); (case h => walk_at "at")))
local macro_rules | `(tactic| walk_at "reg") => `(tactic| first | exact fun _ z => z.elim | exact fun _ _ z => z | (intro a e z; cases e; revert z; walk_at "ne") | (intro a e; cases e; walk_at "ne"))
local macro_rules | `(tactic| walk_at "dz") => `(tactic| first | assumption | exact .int _ | exact .bl _ | exact .str _ | exact .non | ((refine' Dz.kp (by assumption) ?h); (case h => walk_at "dz")))
local macro_rules | `(tactic| walk_at "dg") => `(tactic| first | assumption | exact Dg.int (G := no) _ | exact Dg.bl (G := no) _ | exact Dg.str (G := no) _ | exact Dg.non (G := no) | exact .int _ | exact .bl _ | exact .str _ | exact .non | ((refine' Dg.kp (by assumption) ?m ?h); (case h => walk_at "dg"); (case m => walk_at "reg")) | ((refine' Dg.z ?h); (case h => walk_at "dz")))
local macro_rules | `(tactic| walk_at "dgt") => `(tactic| first | walk_at "dg" | ((refine' Dg.tup ?h ?g); (case h => walk_at "sqt"); (case g => walk_at "da")))
local macro_rules | `(tactic| walk_at "da") => `(tactic| first | assumption | exact .nil | ((refine' DA.cons ?h ?g); (case h => walk_at "dgt"); (case g => walk_at "da")) | ((refine' DAz.kp (by assumption) ?h); (case h => walk_at "da")))
local macro_rules | `(tactic| walk_at "tup") => `(tactic| first | assumption | ((refine' Kp.fix (by assumption) rfl ?h); (case h => walk_at "tup")))
local macro_rules | `(tactic| walk_at "sqt") => `(tactic| first | assumption | ((refine' SqT.of ?h); (case h => walk_at "tup")) | ((refine' SqT.kp (by assumption) ?h); (case h => walk_at "sqt")))
local macro_rules | `(tactic| walk_at "sql") => `(tactic| first | assumption | ((refine' SqL.of ?h); (case h => walk_at "at")) | ((refine' SqL.kp (by assumption) ?m ?h); (case m => walk_at "ne"); (case h => walk_at "sql")))
local macro_rules | `(tactic| walk_at "ld") => `(tactic| first | assumption | ((refine' LstD.kp (by assumption) ?m ?h); (case h => walk_at "ld"); (case m => walk_at "ne")))
local macro_rules | `(tactic| walk_at "kp") => `(tactic| first | assumption | exact Kp.refl | ((refine' Kp.tr0 ?h (by assumption)); (case h => walk_at "kp")) | ((refine' Kp.tr' ?h (by assumption)); (case h => walk_at "kp")) | ((refine' Kp.own ?h ?f (by assumption)); (case f => walk_at "free"); (case h => walk_at "kp")) | ((refine' Kp.of0 ?h); (case h => walk_at "kp")))
local macro_rules | `(tactic| walk_at "free") => `(tactic| first | assumption | ((refine' Kp.free (by assumption) ?h); (case h => assumption)) | ((refine' Kp.free ?k ?h); (case h => assumption); (case k => walk_at "kp")))
local macro_rules | `(tactic| walk_at "rand") => `(tactic| first | assumption | ((refine' Rand.kp (by assumption) ?m ?h); (case m => walk_at "ne"); (case h => walk_at "rand")))
local macro_rules | `(tactic| walk_at "s1") => `(tactic| first
  | ((with_reducible refine' w_var ?k1 ?_); (case k1 => rfl))
  | with_reducible refine' w_c ?_
  | with_reducible refine' w_op ?_
  | with_reducible refine' w_cons ?_
  | with_reducible refine' w_nil ?_
  | with_reducible refine' w_cb ?_
  | with_reducible refine' w_seq ?_
  | with_reducible refine' w_asg ?_
  | with_reducible refine' w_gname ?_
  | with_reducible refine' w_ret ?_
  | with_reducible refine' w_drop ?_
  | with_reducible refine' w_retN ?_
  | with_reducible refine' w_add ?_
  | with_reducible refine' w_sub ?_
  | ((with_reducible refine' w_mod ?k1 ?_); (case k1 => first | decide | omega))
  | ((with_reducible refine' w_div ?k1 ?_); (case k1 => first | decide | omega))
  | ((with_reducible refine' w_mul ?k1 ?_); (case k1 => first | exact .inl (by omega) | exact .inr (by omega)))
  | ((with_reducible refine' w_pow ?k1 ?_); (case k1 => exact ⟨by decide, by decide, by decide⟩))
  | with_reducible refine' w_lt ?_
  | with_reducible refine' w_le ?_
  | with_reducible refine' w_gt ?_
  | with_reducible refine' w_ge ?_
  | with_reducible refine' w_neg ?_
  | with_reducible refine' w_eqI ?_
  | with_reducible refine' w_neI ?_
  | with_reducible refine' w_eqB ?_
  | with_reducible refine' w_neB ?_
  | with_reducible refine' w_isN ?_
  | with_reducible refine' w_notN ?_
  | with_reducible refine' w_abs ?_
  | with_reducible refine' w_min2 ?_
  | with_reducible refine' w_max2 ?_
  | with_reducible refine' w_int1 ?_
  | with_reducible refine' w_int1i ?_
  | with_reducible refine' w_un ?_
  | with_reducible refine' w_ifs ?_
  | with_reducible refine' w_ifx ?_
  | with_reducible refine' w_ift ?_
  | with_reducible refine' w_iff ?_
  | ((with_reducible refine' w_ifT ?k1 ?_); (case k1 => first | rfl | exact decide_eq_true rfl))
  | ((with_reducible refine' w_ifF ?k1 ?_); (case k1 => rfl))
  | with_reducible refine' w_test ?_
  | with_reducible refine' w_tb ?_
  | with_reducible refine' w_bl ?_
  | with_reducible refine' w_and ?_
  | with_reducible refine' w_or ?_
  | with_reducible refine' w_not ?_
  | with_reducible refine' w_andV ?_
  | with_reducible refine' w_orV ?_
  | with_reducible refine' w_notV ?_
  | with_reducible refine' w_chain ?_
  | with_reducible refine' w_call ?_
  | with_reducible refine' w_next ?_
  | with_reducible refine' w_brk ?_
  | with_reducible refine' w_cnt ?_
  | with_reducible refine' w_par ?_
  | with_reducible refine' w_kpar ?_
  | with_reducible refine' w_tup ?_
  | with_reducible refine' w_lst ?_
  | ((with_reducible refine' w_ktup ?k1 ?_); (case k1 => walk_at "sz"))
  | ((with_reducible refine' w_klst ?k1 ?_); (case k1 => walk_at "sz"))
  | with_reducible refine' w_sl ?_
  | with_reducible refine' w_nopart ?_
  | with_reducible refine' w_part ?_
  | with_reducible refine' w_kpart ?_
  | with_reducible refine' w_lstRg ?_
  | with_reducible refine' w_rg1 ?_
  | with_reducible refine' w_rg2 ?_
  | with_reducible refine' w_krg1 ?_
  | with_reducible refine' w_krg2 ?_
  | with_reducible refine' w_bm ?_
  | with_reducible refine' w_bm0 ?_
  | with_reducible refine' w_gsub ?_
  | with_reducible refine' w_gcons ?_
  | with_reducible refine' w_gnil ?_
  | with_reducible refine' w_for ?_
  | with_reducible refine' w_lc ?_
  | with_reducible refine' w_yes ?_
  | with_reducible refine' w_rng1 ?_
  | with_reducible refine' w_rng2 ?_
  | with_reducible refine' w_ilist ?_
  | with_reducible refine' w_itup ?_
  | with_reducible refine' w_izip ?_
  | with_reducible refine' w_ienum ?_
  | ((with_reducible refine' w_isi ?k1 ?k2 ?_); (case k1 => walk_at "dg"); (case k2 => decide))
  | ((with_reducible refine' w_isi2 ?k1 ?k2 ?k3 ?k4 ?_); (case k1 => walk_at "dg"); (case k2 => walk_at "tup"); (case k3 => decide); (case k4 => decide))
  | ((with_reducible refine' w_krng1 ?k1 ?_); (case k1 => first | (constructor <;> omega) | (simp only [List.length_map]; constructor <;> omega)))
  | ((with_reducible refine' w_krng2 ?k1 ?_); (case k1 => exact ⟨by omega, by omega, by omega, by omega⟩))
  | ((with_reducible refine' w_ixL ?k1 ?k2 ?_); (case k1 => walk_at "sql"); (case k2 => rfl))
  | ((with_reducible refine' w_ixT ?k1 ?k2 ?_); (case k1 => walk_at "sqt"); (case k2 => rfl))
  | ((with_reducible refine' w_gtup ?k1 ?k2 ?_); (case k1 => walk_at "sqt"); (case k2 => rfl))
  | ((with_reducible refine' w_setL ?k1 ?k2 ?_); (case k1 => walk_at "at"); (case k2 => rfl))
  | ((with_reducible refine' w_append ?k1 ?k2 ?_); (case k1 => walk_at "at"); (case k2 => walk_at "sz"))
  | ((with_reducible refine' w_kbmL ?k1 ?_); (case k1 => walk_at "sql"))
  | ((with_reducible refine' w_kbmL0 ?k1 ?_); (case k1 => walk_at "sql"))
  | ((with_reducible refine' w_lenLd ?k1 ?_); (case k1 => walk_at "ld"))
  | ((with_reducible refine' w_lenL ?k1 ?_); (case k1 => walk_at "sql"))
  | ((with_reducible refine' w_lenT ?k1 ?_); (case k1 => walk_at "sqt"))
  | ((with_reducible refine' w_kbmLd ?k1 ?_); (case k1 => walk_at "ld"))
  | ((with_reducible refine' w_kbmLd0 ?k1 ?_); (case k1 => walk_at "ld"))
  | ((with_reducible refine' w_lenD ?k1 ?_); (case k1 => walk_at "dg"))
  | ((with_reducible refine' w_lenTD ?k1 ?_); (case k1 => walk_at "dg")))
local macro_rules | `(tactic| walk_at "s") => `(tactic| repeat (walk_at "s1"))


def rd_law_mix (K : PySem.W.Frag) : TS :=
 (tSeq (tAsg (tOp rModI (tOp rMulI (tOp rAddI (tOp rAddI (tOp rModI (tVar 0) (tC (.int 2147483629))) (tOp rMulI (tOp rMulI (tVar 1) (tVar 1)) (tC (.int 7919)))) (tC (.int 11))) (tC (.int 48271))) (tC (.int 2147483647))) (gName 2))
 (tRet (tOp rModI (tOp rMulI (tVar 2) (tVar 2)) (tC (.int 1999999973)))))
def sp_law_mix (K : PySem.W.Frag) : Sp := fun vs H Q _ => ∃ v0 v1, vs = [v0, v1] ∧ ∃ (c k : Int), v0 = .int c ∧ v1 = .int k ∧ 0 ≤ k ∧ k < 4294967296 ∧ ∀ r : Int, 0 ≤ r → r < 1999999973 → Q (.int r) H
theorem sm_law_mix {K : PySem.W.Frag} {vs : List V} {H : Hp} {Q : VK} {E : XK} (h : sp_law_mix K vs H Q E) : rd_law_mix K { nx := fun _ H' => Q .non H', rt := Q } (start ["cell", "k", "m"] vs) H := by
  obtain ⟨v0, v1, rfl, c, k, rfl, rfl, k0, k1, q⟩ := h
  show rd_law_mix K _ [some (.int c), some (.int k), none] H
  unfold rd_law_mix
  walk_at "s"
  exact q _ (Int.emod_nonneg _ (by decide)) (Int.emod_lt_of_pos _ (by decide))

def rd_law_pick (K : PySem.W.Frag) : TS :=
 (tSeq (tAsg (tOp rAddI (tOp (rIxL K) (tVar 0) (tC (.int 2))) (tC (.int 1))) (gSub (tVar 0) (tC (.int 2)) rSetL))
 (tSeq (tIfS (tTest (tOp rGtI (tOp (rIxL K) (tVar 0) (tC (.int 0))) (tC (.int 0)))) (tSeq (tAsg (tOp rModI (tOp (rIxL K) (tVar 0) (tC (.int 0))) (tVar 1)) (gName 2))
 (tSeq (tAsg (tOp rDivI (tOp (rIxL K) (tVar 0) (tC (.int 0))) (tVar 1)) (gSub (tVar 0) (tC (.int 0)) rSetL))
 (tRet (tVar 2)))) tNext)
 (tRet (tOp rModI (tOp rDivI (tCall (sp_law_mix K) [] E0 (tCons (tCall (sp_law_mix K) [] E0 (tCons (tOp (rIxL K) (tVar 0) (tC (.int 1))) (tCons (tOp (rIxL K) (tVar 0) (tC (.int 2))) tNil))) (tCons (tOp rAddI (tOp (rIxL K) (tVar 0) (tC (.int 2))) (tC (.int 64))) tNil))) (tC (.int 64))) (tVar 1)))))
def sp_law_pick (K : PySem.W.Frag) : Sp := fun vs H Q _ => ∃ v0 v1, vs = [v0, v1] ∧ ∃ (l : Addr) (n : Nat) (m : Int), v0 = .ref l ∧ v1 = .int m ∧ Rand H l n ∧ n < 2147483648 ∧ 0 < m ∧ m < 1073741824 ∧
  ∀ (r : Int) (H' : Hp), 0 ≤ r → r < m → Kp (at1 l) H H' → Rand H' l (n + 1) → Q (.int r) H'
theorem sm_law_pick {K : PySem.W.Frag} {vs : List V} {H : Hp} {Q : VK} {E : XK} (h : sp_law_pick K vs H Q E) : rd_law_pick K { nx := fun _ H' => Q .non H', rt := Q } (start ["left", "many", "digit"] vs) H := by
  obtain ⟨v0, v1, rfl, l, n, m, rfl, rfl, ⟨a, b, c, hl, a0, c0, cn⟩, hn, m0, m1, q⟩ := h
  show rd_law_pick K _ [some (.ref l), some (.int m), none] H
  unfold rd_law_pick
  walk_at "s"
  intro H1 k1 h1
  walk_at "s"
  refine w_if (fun _ => ?_) (fun _ => ?_)
  · walk_at "s"
    intro H2 k2 h2
    walk_at "s"
    refine q _ H2 (Int.emod_nonneg _ (by omega)) (Int.emod_lt_of_pos _ m0) (k1.tr' k2) ⟨_, _, _, h2, Int.ediv_nonneg a0 (by omega), by omega, by omega⟩
  · walk_at "s"
    refine ⟨_, _, rfl, _, _, rfl, rfl, by omega, by omega, fun r r0 r1 => ?_⟩
    walk_at "s"
    refine ⟨_, _, rfl, _, _, rfl, rfl, by omega, by omega, fun r' r0' r1' => ?_⟩
    walk_at "s"
    refine q _ H1 (Int.emod_nonneg _ (by omega)) (Int.emod_lt_of_pos _ m0) k1 ⟨_, _, _, h1, a0, by omega, by omega⟩

def rd_law_left (K : PySem.W.Frag) : TS :=
 (tSeq (tAsg (tIf (tTest (tOp rLtI (tVar 1) (tCB (rLenQ K) (tCons (tVar 0) tNil)))) (tOp (rIxL K) (tVar 0) (tVar 1)) (tC (.int 0))) (gName 2))
 (tRet (tLst (tCons (tOp rMulI (tCB rAbs (tCons (tVar 2) tNil)) (tCB rInt1 (tCons (tOp rGeI (tCB rAbs (tCons (tVar 2) tNil)) (tOp rPowI (tC (.int 10)) (tC (.int 18)))) tNil))) (tCons (tOp rAddI (tVar 2) (tOp rMulI (tC (.int 1000003)) (tVar 1))) (tCons (tC (.int 0)) tNil))))))
def sp_law_left (K : PySem.W.Frag) : Sp := fun vs H Q _ => ∃ v0 v1, vs = [v0, v1] ∧ ∃ (a : Addr) (ns : List Int) (k : Nat), v0 = .ref a ∧ v1 = .int k ∧ SqL K H a (ns.map V.int) ∧
  ∀ (l : Addr) (H' : Hp), H l = none → Kp no H H' → Rand H' l 0 → Q (.ref l) H'
theorem sm_law_left {K : PySem.W.Frag} {vs : List V} {H : Hp} {Q : VK} {E : XK} (h : sp_law_left K vs H Q E) : rd_law_left K { nx := fun _ H' => Q .non H', rt := Q } (start ["script", "k", "cell"] vs) H := by
  obtain ⟨v0, v1, rfl, a, ns, k, rfl, rfl, hs, q⟩ := h
  show rd_law_left K _ [some (.ref a), some (.int k), none] H
  unfold rd_law_left
  walk_at "s"
  have fin : ∀ (c d e : Int) (p : Addr) (H' : Hp), H p = none → Kp no H H' → H' p = some (.lst [.int ((if c < 0 then -c else c) * (if decide (d ≤ if c < 0 then -c else c) = true then 1 else 0)), .int e, .int 0]) → Q (.ref p) H' := by
    intro c d e p H' hp kp hh
    refine q p H' hp kp ⟨_, _, _, hh, ?_, Int.le_refl _, Int.le_refl _⟩
    refine Int.mul_nonneg ?_ ?_
    · split <;> omega
    · split <;> omega
  refine w_if (fun h => ?_) (fun _ => ?_)
  · have hk : k < ns.length := by
      have := of_decide_eq_true h
      rw [List.length_map] at this
      omega
    walk_at "s"
    refine w_ixL hs (atI_nat (v := .int ns[k]) (by simp [hk])) ?_
    walk_at "s"
    exact fin _ _ _
  · walk_at "s"
    exact fin _ _ _

def rd_law_kind (K : PySem.W.Frag) : TS :=
 (tRet (tTup (tCons (tOp (rIxL K) (tLst (tCons (tC (.int 1)) (tCons (tC (.int 2)) (tCons (tC (.int 3)) (tCons (tC (.int 3)) (tCons (tC (.int 3)) (tCons (tC (.int 4)) (tCons (tC (.int 5)) (tCons (tC (.int 2)) tNil))))))))) (tCall (sp_law_pick K) [] E0 (tCons (tVar 0) (tCons (tC (.int 8)) tNil)))) (tCons (tOp (rIxL K) (tLst (tCons (tC (.int 3)) (tCons (tC (.int 6)) (tCons (tC (.int 20)) (tCons (tC (.int 256)) (tCons (tC (.int 1000)) (tCons (tC (.int 10)) tNil))))))) (tCall (sp_law_pick K) [] E0 (tCons (tVar 0) (tCons (tC (.int 6)) tNil)))) tNil))))
/-- a width and how many unlike numbers there are -/
def KindD (K : PySem.W.Frag) (H : Hp) (v : V) (wide span : Int) : Prop := Dz K H v (.tuple [.int wide, .int span])
theorem KindD.of {K : PySem.W.Frag} {H : Hp} {v : V} {w s : Int} (h : KindD K H v w s) : ∃ a, v = .ref a ∧ SqT K H a [.int w, .int s] := Dg.tupI_of (ns := [w, s]) h
def sp_law_kind (K : PySem.W.Frag) : Sp := fun vs H Q _ => ∃ v0, vs = [v0] ∧ ∃ (l : Addr) (n : Nat), v0 = .ref l ∧ Rand H l n ∧ n < 2147483000 ∧
  ∀ (v : V) (wide span : Int) (H' : Hp), 1 ≤ wide → wide ≤ 5 → 3 ≤ span → span ≤ 1000 → KindD K H' v wide span → Kp (at1 l) H H' → Rand H' l (n + 2) → Q v H'
theorem ixI {xs : List V} {P : Int → Prop} {r : Int} (r0 : 0 ≤ r) (r1 : r < xs.length) (h : ∀ x ∈ xs, ∃ z, x = V.int z ∧ P z) : ∃ z, atI xs r = some (V.int z) ∧ P z := by
  obtain ⟨j, rfl⟩ : ∃ j : Nat, r = j := ⟨r.toNat, by omega⟩
  have hj : j < xs.length := by omega
  obtain ⟨z, e, p⟩ := h xs[j] (List.getElem_mem hj)
  refine ⟨z, atI_nat ?_, p⟩
  rw [List.getElem?_eq_getElem hj, e]
theorem sm_law_kind {K : PySem.W.Frag} {vs : List V} {H : Hp} {Q : VK} {E : XK} (h : sp_law_kind K vs H Q E) : rd_law_kind K { nx := fun _ H' => Q .non H', rt := Q } (start ["left"] vs) H := by
  obtain ⟨v0, rfl, l, n, rfl, R, hn, q⟩ := h
  show rd_law_kind K _ [some (.ref l)] H
  unfold rd_law_kind
  walk_at "s"
  intro p H1 f1 k1 h1
  have n1 : p ≠ l := R.ne f1
  walk_at "s"
  refine ⟨_, _, rfl, l, n, 8, rfl, rfl, by walk_at "rand", by omega, by decide, by decide, fun r H2 r0 r1 k2 R2 => ?_⟩
  obtain ⟨z, e, z0, z1⟩ := ixI (P := fun z => 1 ≤ z ∧ z ≤ 5) (xs := [V.int 1, .int 2, .int 3, .int 3, .int 3, .int 4, .int 5, .int 2]) r0 r1 (by
    intro x hx
    simp only [List.mem_cons, List.not_mem_nil, or_false] at hx
    rcases hx with rfl | rfl | rfl | rfl | rfl | rfl | rfl | rfl <;> exact ⟨_, rfl, by decide, by decide⟩)
  refine w_ixL (by walk_at "sql") e ?_
  walk_at "s"
  intro p' H3 f3 k3 h3
  have n3 : p' ≠ l := R2.ne f3
  walk_at "s"
  refine ⟨_, _, rfl, l, n + 1, 6, rfl, rfl, by walk_at "rand", by omega, by decide, by decide, fun r H4 r0 r1 k4 R4 => ?_⟩
  obtain ⟨z', e', z0', z1'⟩ := ixI (P := fun z => 3 ≤ z ∧ z ≤ 1000) (xs := [V.int 3, .int 6, .int 20, .int 256, .int 1000, .int 10]) r0 r1 (by
    intro x hx
    simp only [List.mem_cons, List.not_mem_nil, or_false] at hx
    rcases hx with rfl | rfl | rfl | rfl | rfl | rfl <;> exact ⟨_, rfl, by decide, by decide⟩)
  refine w_ixL (by walk_at "sql") e' ?_
  walk_at "s"
  intro p5 H5 f5 k5 h5
  refine q _ z z' H5 z0 z1 z0' z1' (.tup (SqT.of h5) (by walk_at "da")) (by walk_at "kp") (by walk_at "rand")

/-! ### colours -/
abbrev colD (c : List Int) : PyData := .tuple (c.map .int)
def ColOk (w : Int) (c : List Int) : Prop := (c.length : Int) = w ∧ ∀ x ∈ c, 0 ≤ x ∧ x ≤ 999
def rd_law_colour (K : PySem.W.Frag) : TS :=
 (tSeq (tAsg (tVar 1) (gTup K 2 (gCons (gName 2) (gCons (gName 3) gNil))))
 (tRet (tCB (rTupOf K) (tCons (tLc (iRng1 (tCons (tVar 2) tNil)) (gName 4) tYes (tOp (rIxL K) (tLst (tCons (tCall (sp_law_pick K) [] E0 (tCons (tVar 0) (tCons (tVar 3) tNil))) (tCons (tC (.int 999)) tNil))) (tCB rInt1 (tCons (tOp rEq (tCall (sp_law_pick K) [] E0 (tCons (tVar 0) (tCons (tC (.int 8)) tNil))) (tC (.int 0))) tNil))) [4]) tNil))))
def sp_law_colour (K : PySem.W.Frag) : Sp := fun vs H Q _ => ∃ v0 v1, vs = [v0, v1] ∧ ∃ (l : Addr) (n : Nat) (wide span : Int), v0 = .ref l ∧ Rand H l n ∧ n < 2147480000 ∧ KindD K H v1 wide span ∧ 1 ≤ wide ∧ wide ≤ 5 ∧ 3 ≤ span ∧ span ≤ 1000 ∧
  ∀ (v : V) (c : List Int) (H' : Hp), ColOk wide c → Dz K H' v (colD c) → Kp (at1 l) H H' → Rand H' l (n + 10) → Q v H'
theorem sm_law_colour {K : PySem.W.Frag} {vs : List V} {H : Hp} {Q : VK} {E : XK} (h : sp_law_colour K vs H Q E) : rd_law_colour K { nx := fun _ H' => Q .non H', rt := Q } (start ["left", "kind", "wide", "span", "place"] vs) H := by
  obtain ⟨v0, v1, rfl, l, n, wide, span, rfl, R, hn, hk, w1, w5, s3, s1000, q⟩ := h
  show rd_law_colour K _ [some (.ref l), some v1, none, none, none] H
  unfold rd_law_colour
  obtain ⟨a, rfl, ht⟩ := hk.of
  walk_at "s"
  refine w_lcG wk_rng (fun i acc H' => ∃ c : List Int, Kp (at1 l) H H' ∧ Rand H' l (n + 2 * i) ∧ c.length = i ∧ (∀ x ∈ c, 0 ≤ x ∧ x ≤ 999) ∧ acc = c.map V.int) ?_ (fun _ _ _ _ _ => trivial) ?_ ?_
  · intro D H' hD k
    exact ⟨[], k.of0, by walk_at "rand", rfl, by simp, rfl⟩
  · rintro i x acc D H2 H3 hi hD ha ⟨c, k2, R2, cl, cx, rfl⟩ k3 rfl
    have R3 : Rand H3 l (n + 2 * i) := by walk_at "rand"
    have nD : D ≠ l := R.ne hD
    walk_at "s"
    refine ⟨rfl, ?_⟩
    walk_at "s"
    refine ⟨_, _, rfl, l, n + 2 * i, span, rfl, rfl, R3, by omega, by omega, by omega, fun r H4 r0 r1 k4 R4 => ?_⟩
    walk_at "s"
    intro p H5 f5 k5 h5
    have n5 : p ≠ l := R4.ne f5
    walk_at "s"
    refine ⟨_, _, rfl, l, n + 2 * i + 1, 8, rfl, rfl, by walk_at "rand", by omega, by omega, by omega, fun r' H6 r0' r1' k6 R6 => ?_⟩
    walk_at "s"
    have fin : ∀ z : Int, 0 ≤ z ∧ z ≤ 999 → kElt D (PvD D fun acc H' => ∃ c : List Int, Kp (at1 l) H H' ∧ Rand H' l (n + 2 * (i + 1)) ∧ c.length = i + 1 ∧ (∀ x ∈ c, 0 ≤ x ∧ x ≤ 999) ∧ acc = c.map V.int) (.int z) H6 := by
      intro z hz
      refine w_kelt (acc := c.map V.int) (by walk_at "at") (by rw [List.length_map, sizeLine_eq]; omega) ⟨c ++ [z], (((k2.tr0 k3).tr' k4).tr0 k5).tr' k6, R6, by simp [cl], ?_, by simp⟩ ?_
      · intro x hx
        rcases List.mem_append.mp hx with hx | hx
        · exact cx x hx
        · rw [List.mem_singleton.mp hx]; exact hz
      · rintro acc H7 k7 ⟨c, b1, b2, b3⟩
        exact ⟨c, b1.own hD k7, b2.kp k7 (fun z => nD z.symm), b3⟩
    by_cases hr : r' = 0
    · rw [decide_eq_true hr, if_pos rfl]
      refine w_ixL (by walk_at "sql") (by rfl) ?_
      exact fin _ ⟨by omega, by omega⟩
    · rw [decide_eq_false hr, if_neg (by decide)]
      refine w_ixL (by walk_at "sql") (by rfl) ?_
      exact fin _ ⟨by omega, by omega⟩
  · rintro acc D H' hD ha ⟨c, k2, R2, cl, cx, rfl⟩
    refine w_tupOfL (SqL.of ha) ?_
    intro p H3 f3 k3 h3
    refine q _ c H3 ⟨by omega, cx⟩ (.tupI (SqT.of h3)) (k2.tr0 k3) ((R2.kp k3 fun z => z).mono (by omega))

/-! ### how far apart -/
theorem filterMap_get {α β : Type} (g : α → Option β) : ∀ xs : List α, (List.range xs.length).filterMap (fun i => (xs[i]?).bind g) = xs.filterMap g := by
  intro xs
  induction xs with
  | nil => rfl
  | cons x xs ih =>
    rw [List.length_cons, List.range_succ_eq_map, List.filterMap_cons, List.filterMap_map]
    have e : (((fun i => ((x :: xs)[i]?).bind g) ∘ Nat.succ)) = (fun i => (xs[i]?).bind g) := by
      funext i
      simp
    rw [e, ih]
    rw [List.filterMap_cons]
    simp
theorem filterMap_map {α β : Type} (g : α → β) (xs : List α) : (List.range xs.length).filterMap (fun i => (xs[i]?).map g) = xs.map g := by
  have h := filterMap_get (fun a => some (g a)) xs
  rw [List.filterMap_eq_map'] at h
  rw [← h]
  congr 1
  funext i
  cases xs[i]? <;> rfl
def Sm (c : List Int) : Prop := ∀ x ∈ c, -2000000 ≤ x ∧ x ≤ 2000000
theorem ColOk.sm {w : Int} {c : List Int} (h : ColOk w c) : Sm c := fun x hx => by
  have := h.2 x hx
  omega
def apartI (c d : List Int) : Int := ((c.zip d).map fun p => (p.1 - p.2) * (p.1 - p.2)).sum
def ps_apart (K : PySem.W.Frag) (vs : List V) (H : Hp) (Q : VK) : Prop := ∃ v0 v1, vs = [v0, v1] ∧ ∃ (c d : List Int), Dz K H v0 (colD c) ∧ Dz K H v1 (colD d) ∧ Sm c ∧ Sm d ∧ c.length ≤ 100 ∧ ∀ H', Kp no H H' → Q (.int (apartI c d)) H'
def sp_law_apart (K : PySem.W.Frag) : Sp := fun vs H Q _ => ps_apart K vs H Q
def sp_apart (K : PySem.W.Frag) : Sp := fun vs H Q _ => ps_apart K vs H Q
def rd_law_apart (K : PySem.W.Frag) : TS :=
 (tRet (tCB (rSum K) (tCons (tLc (iZipA K (tCons (tVar 0) (tCons (tVar 1) tNil))) (gTup K 2 (gCons (gName 2) (gCons (gName 3) gNil))) tYes (tOp rMulI (tOp rSubI (tVar 2) (tVar 3)) (tOp rSubI (tVar 2) (tVar 3))) [2, 3]) tNil)))
def rd_apart (K : PySem.W.Frag) : TS :=
 (tRet (tCB (rSum K) (tCons (tLc (iZipA K (tCons (tVar 0) (tCons (tVar 1) tNil))) (gTup K 2 (gCons (gName 2) (gCons (gName 3) gNil))) tYes (tOp rMulI (tOp rSubI (tVar 2) (tVar 3)) (tOp rSubI (tVar 2) (tVar 3))) [2, 3]) tNil)))
theorem sm_law_apart {K : PySem.W.Frag} {vs : List V} {H : Hp} {Q : VK} {E : XK} (h : sp_law_apart K vs H Q E) : rd_law_apart K { nx := fun _ H' => Q .non H', rt := Q } (start ["one", "other", "a", "b"] vs) H := by
  obtain ⟨v0, v1, rfl, c, d, hc, hd, sc, sd, lc, q⟩ := h
  obtain ⟨a, rfl, ha⟩ := hc.tupI_of
  obtain ⟨b, rfl, hb⟩ := hd.tupI_of
  show rd_law_apart K _ [some (.ref a), some (.ref b), none, none] H
  unfold rd_law_apart
  walk_at "s"
  refine w_kzipT ha hb ?_
  refine w_lcP (K := K) wk_zipT (fun i => ((c.zip d)[i]?).map fun p => .int ((p.1 - p.2) * (p.1 - p.2))) ?_ (fun H' k => ⟨SqT.kp k ha, SqT.kp k hb⟩) ?_ ?_
  · simp only [List.length_map]; omega
  · rintro i x H' hi k ⟨T, u, v, rfl, hT, hu, hv⟩ R R0 r _
    simp only [List.getElem?_map, Option.map_eq_some_iff] at hu hv
    obtain ⟨u', hu, rfl⟩ := hu
    obtain ⟨v', hv, rfl⟩ := hv
    have bu := sc u' (List.mem_of_getElem? hu)
    have bv := sd v' (List.mem_of_getElem? hv)
    walk_at "s"
    refine ⟨rfl, ?_⟩
    walk_at "s"
    refine r _ _ _ Kp.refl ?_ (.int _)
    rw [List.getElem?_zip_eq_some (z := (u', v')).mpr ⟨hu, hv⟩]
    rfl
  · intro p ws H' hp k h1 h2
    have e : min (c.map V.int).length (d.map V.int).length = (c.zip d).length := by rw [List.length_zip, List.length_map, List.length_map]
    rw [e, filterMap_map] at h2
    have h3 : ws = ((c.zip d).map fun p => (p.1 - p.2) * (p.1 - p.2)).map V.int := DA.ints_of (by rw [List.map_map]; exact h2)
    subst h3
    walk_at "s"
    refine w_sum (SqL.of h1) ?_
    exact q H' k
theorem sm_apart {K : PySem.W.Frag} {vs : List V} {H : Hp} {Q : VK} {E : XK} (h : sp_apart K vs H Q E) : rd_apart K { nx := fun _ H' => Q .non H', rt := Q } (start ["one", "other", "a", "b"] vs) H := by
  exact sm_law_apart (E := E) h

/-! ### data that may be compared -/
/-- less than n deep, of no great length -/
inductive Ok : Nat → PyData → Prop
  | non {n : Nat} : Ok (n + 1) .none
  | bl {n : Nat} (b : Bool) : Ok (n + 1) (.bool b)
  | int {n : Nat} (i : Int) : Ok (n + 1) (.int i)
  | str {n : Nat} {x : Str} (h : PySem.PyData.strOk x = true) : Ok (n + 1) (.str x)
  | lst {n : Nat} {ds : List PyData} (l : ds.length ≤ 100000) (h : ∀ d ∈ ds, Ok n d) : Ok (n + 1) (.list ds)
  | tup {n : Nat} {ds : List PyData} (l : ds.length ≤ 100000) (h : ∀ d ∈ ds, Ok n d) : Ok (n + 1) (.tuple ds)
theorem canAll : ∀ {ds : List PyData}, (∀ d ∈ ds, d.canLay0 = true) → PyData.canLayAll0 ds = true
  | [], _ => by simp [PyData.canLayAll0]
  | d :: ds, h => by
    rw [PyData.canLayAll0, h d (List.mem_cons_self ..), canAll fun e he => h e (List.mem_cons_of_mem _ he)]
    rfl
theorem depAll {n : Nat} : ∀ {ds : List PyData}, (∀ d ∈ ds, d.depth ≤ n) → PyData.depthAll ds ≤ n
  | [], _ => by simp [PyData.depthAll]
  | d :: ds, h => by
    rw [PyData.depthAll]
    exact Nat.max_le.mpr ⟨h d (List.mem_cons_self ..), depAll fun e he => h e (List.mem_cons_of_mem _ he)⟩
theorem Ok.both : ∀ {n : Nat} {d : PyData}, Ok n d → d.canLay0 = true ∧ d.depth ≤ n
  | _, _, .non => ⟨by simp [PyData.canLay0], by simp [PyData.depth]⟩
  | _, _, .bl b => ⟨by simp [PyData.canLay0], by simp [PyData.depth]⟩
  | _, _, .int b => ⟨by simp [PyData.canLay0], by simp [PyData.depth]⟩
  | _, _, .str h => ⟨by simpa [PyData.canLay0] using h, by simp [PyData.depth]⟩
  | n + 1, _, .lst l h => ⟨by rw [PyData.canLay0]; exact canAll fun d hd => (h d hd).both.1, by
    rw [PyData.depth]
    exact Nat.succ_le_succ (depAll fun d hd => (h d hd).both.2)⟩
  | n + 1, _, .tup l h => ⟨by rw [PyData.canLay0]; exact canAll fun d hd => (h d hd).both.1, by
    rw [PyData.depth]
    exact Nat.succ_le_succ (depAll fun d hd => (h d hd).both.2)⟩
theorem Ok.shaped {n : Nat} {d : PyData} (h : Ok n d) (hn : n ≤ 64) : SeqAt.shaped d = true := shaped_of h.both.1 (by have := h.both.2; omega)
theorem Ok.refl {n : Nat} {d : PyData} (h : Ok n d) : PyData.eqv d d = true := SeqAt.eqv_refl d h.both.1
theorem Ok.mono : ∀ {n m : Nat} {d : PyData}, Ok n d → n ≤ m → Ok m d
  | _ + 1, _ + 1, _, .non, _ => .non
  | _ + 1, _ + 1, _, .bl b, _ => .bl b
  | _ + 1, _ + 1, _, .int b, _ => .int b
  | _ + 1, _ + 1, _, .str h, _ => .str h
  | n + 1, m + 1, _, .lst l h, le => .lst l fun d hd => (h d hd).mono (by omega)
  | n + 1, m + 1, _, .tup l h, le => .tup l fun d hd => (h d hd).mono (by omega)
theorem Ok.ints {n : Nat} (ns : List Int) : ∀ d ∈ ns.map PyData.int, Ok (n + 1) d := fun d hd => by
  obtain ⟨i, _, rfl⟩ := List.mem_map.mp hd
  exact .int i
theorem Ok.col {n : Nat} {c : List Int} (l : c.length ≤ 100000) : Ok (n + 2) (colD c) := .tup (by rw [List.length_map]; exact l) (Ok.ints c)
/-- == of the same data -/
theorem w_eqS {K : PySem.W.Frag} {G G' : Addr → Prop} {H : Hp} {Q : VK} {x y : V} {d : PyData} {n : Nat} (h1 : Dg G K H x d) (h2 : Dg G' K H y d) (ok : Ok n d) (hn : n ≤ 64) (q : Q (.bl true) H) : rEqD K x y H Q :=
  w_eqD h1 h2 (ok.shaped hn) (ok.shaped hn) (by rw [ok.refl]; exact q)
theorem w_neS {K : PySem.W.Frag} {G G' : Addr → Prop} {H : Hp} {Q : VK} {x y : V} {d : PyData} {n : Nat} (h1 : Dg G K H x d) (h2 : Dg G' K H y d) (ok : Ok n d) (hn : n ≤ 64) (q : Q (.bl false) H) : rNeD K x y H Q :=
  w_neD h1 h2 (ok.shaped hn) (ok.shaped hn) (by rw [ok.refl]; exact q)

def rd_law_same (K : PySem.W.Frag) (sp_rec : Sp) : TS :=
 (tSeq (tIfS (tB (tCB (rIsiT K) (tCons (tVar 1) (tCons (tTup (tCons (tC (.ty "list")) (tCons (tC (.ty "tuple")) tNil))) tNil)))) (tSeq (tIfS (tOr (tTest (tOp rNe (tCB (rIsi K) (tCons (tVar 0) (tCons (tC (.ty "list")) tNil))) (tCB (rIsi K) (tCons (tVar 1) (tCons (tC (.ty "list")) tNil))))) (tTest (tOp rNe (tCB (rIsi K) (tCons (tVar 0) (tCons (tC (.ty "tuple")) tNil))) (tCB (rIsi K) (tCons (tVar 1) (tCons (tC (.ty "tuple")) tNil)))))) (tRet (tC (.bl false))) tNext)
 (tRet (tAndV (tOp rEq (tCB (rLenQ K) (tCons (tVar 0) tNil)) (tCB (rLenQ K) (tCons (tVar 1) tNil))) (tCB (rAll K) (tCons (tLc (iZipA K (tCons (tVar 0) (tCons (tVar 1) tNil))) (gTup K 2 (gCons (gName 2) (gCons (gName 3) gNil))) tYes (tCall sp_rec [] E0 (tCons (tVar 2) (tCons (tVar 3) tNil))) [2, 3]) tNil))))) tNext)
 (tSeq (tIfS (tOr (tTest (tOp rIsN (tVar 1) (tC .non))) (tB (tCB (rIsi K) (tCons (tVar 1) (tCons (tC (.ty "str")) tNil))))) (tRet (tAndV (tOp (rEqD K) (tVar 0) (tVar 1)) (tOp rEq (tCB (rIsi K) (tCons (tVar 0) (tCons (tC (.ty "str")) tNil))) (tCB (rIsi K) (tCons (tVar 1) (tCons (tC (.ty "str")) tNil)))))) tNext)
 (tSeq (tIfS (tB (tCB (rIsi K) (tCons (tVar 1) (tCons (tC (.ty "bool")) tNil)))) (tRet (tAndV (tCB (rIsi K) (tCons (tVar 0) (tCons (tC (.ty "bool")) tNil))) (tOp (rEqD K) (tVar 0) (tVar 1)))) tNext)
 (tRet (tAndV (tCB (rIsi K) (tCons (tVar 0) (tCons (tC (.ty "int")) tNil))) (tAndV (tNotV (tCB (rIsi K) (tCons (tVar 0) (tCons (tC (.ty "bool")) tNil)))) (tOp (rEqD K) (tVar 0) (tVar 1))))))))
def spn_law_same (K : PySem.W.Frag) (n : Nat) : Sp := fun vs H Q _ => ∃ v0 v1, vs = [v0, v1] ∧ ∃ (G G' : Addr → Prop) (d : PyData), Dg G K H v0 d ∧ Dg G' K H v1 d ∧ Ok n d ∧ n ≤ 50 ∧ ∀ H', Kp no H H' → Q (.bl true) H'
def sp_law_same (K : PySem.W.Frag) : Sp := spn_law_same K 8
theorem sm_law_same {K : PySem.W.Frag} (n : Nat) {vs : List V} {H : Hp} {Q : VK} {E : XK} (h : spn_law_same K (n + 1) vs H Q E) : rd_law_same K (spn_law_same K n) { nx := fun _ H' => Q .non H', rt := Q } (start ["found", "due", "one", "other"] vs) H := by
  obtain ⟨v0, v1, rfl, G, G', d, h0, h1, ok, hn, q⟩ := h
  show rd_law_same K _ _ [some v0, some v1, none, none] H
  unfold rd_law_same
  walk_at "s"
  intro p H1 f1 k1 hp
  walk_at "s"
  cases ok with
  | non =>
    cases h0; cases h1
    walk_at "s"
    refine w_eqS (G := no) (G' := no) .non .non (Ok.non (n := 0)) (by decide) ?_
    walk_at "s"
    exact q _ k1
  | bl b =>
    cases h0; cases h1
    walk_at "s"
    refine w_eqS (G := no) (G' := no) (.bl b) (.bl b) (Ok.bl (n := 0) b) (by decide) ?_
    exact q _ k1
  | int b =>
    cases h0; cases h1
    walk_at "s"
    refine w_eqS (G := no) (G' := no) (.int b) (.int b) (Ok.int (n := 0) b) (by decide) ?_
    exact q _ k1
  | str hs =>
    cases h0; cases h1
    walk_at "s"
    refine w_eqS (G := no) (G' := no) (.str _) (.str _) (Ok.str (n := 0) hs) (by decide) ?_
    walk_at "s"
    exact q _ k1
  | lst l hs =>
    rename_i ds
    obtain ⟨a, xs, rfl, _, s0, da⟩ := id h0.lst_of
    obtain ⟨b, ys, rfl, _, s1, db⟩ := id h1.lst_of
    have lx := da.len
    have ly := db.len
    have t0 := SqL.kp k1 (fun z => z) s0
    have t1 := SqL.kp k1 (fun z => z) s1
    walk_at "s"
    refine w_ifT (decide_eq_true (by omega)) ?_
    walk_at "s"
    refine w_kzipL t0 t1 ?_
    refine w_lcP (K := K) wk_zipL (fun i => (ds[i]?).map fun _ => .bool true) (by omega) (fun H' k => ⟨SqL.kp k (fun z => z) t0, SqL.kp k (fun z => z) t1⟩) ?_ ?_
    · rintro i x H' hi k ⟨T, u, v, rfl, hT, hu, hv⟩ R R0 r _
      obtain ⟨d, hd, du⟩ := da.getV hu
      obtain ⟨d', hd', dv⟩ := db.getV hv
      rw [hd] at hd'
      cases hd'
      walk_at "s"
      refine ⟨rfl, ?_⟩
      walk_at "s"
      refine ⟨u, v, rfl, G, G', d, Dg.kp (k1.tr0 k) (fun _ _ z => z) du, Dg.kp (k1.tr0 k) (fun _ _ z => z) dv, hs d (List.mem_of_getElem? hd), by omega, fun H2 k2 => ?_⟩
      refine r _ _ _ k2 ?_ (.bl true)
      rw [hd]; rfl
    · intro p ws H' hp k h1 h2
      have e : min xs.length ys.length = ds.length := by omega
      rw [e, filterMap_map] at h2
      have h3 : ws = (ds.map fun _ => true).map V.bl := DA.bls_of (by rw [List.map_map]; exact h2)
      subst h3
      walk_at "s"
      refine w_all (SqL.of h1) ?_
      have e2 : (ds.map fun _ => true).all id = true := by rw [List.all_map]; simp
      rw [e2]
      exact q _ (k1.tr0 k)
  | tup l hs =>
    rename_i ds
    obtain ⟨a, xs, rfl, s0, da⟩ := id h0.tup_of
    obtain ⟨b, ys, rfl, s1, db⟩ := id h1.tup_of
    have lx := da.len
    have ly := db.len
    have t0 := SqT.kp k1 s0
    have t1 := SqT.kp k1 s1
    walk_at "s"
    refine w_ifT (decide_eq_true (by omega)) ?_
    walk_at "s"
    refine w_kzipT t0 t1 ?_
    refine w_lcP (K := K) wk_zipT (fun i => (ds[i]?).map fun _ => .bool true) (by omega) (fun H' k => ⟨SqT.kp k t0, SqT.kp k t1⟩) ?_ ?_
    · rintro i x H' hi k ⟨T, u, v, rfl, hT, hu, hv⟩ R R0 r _
      obtain ⟨d, hd, du⟩ := da.getV hu
      obtain ⟨d', hd', dv⟩ := db.getV hv
      rw [hd] at hd'
      cases hd'
      walk_at "s"
      refine ⟨rfl, ?_⟩
      walk_at "s"
      refine ⟨u, v, rfl, G, G', d, Dg.kp (k1.tr0 k) (fun _ _ z => z) du, Dg.kp (k1.tr0 k) (fun _ _ z => z) dv, hs d (List.mem_of_getElem? hd), by omega, fun H2 k2 => ?_⟩
      refine r _ _ _ k2 ?_ (.bl true)
      rw [hd]; rfl
    · intro p ws H' hp k h1 h2
      have e : min xs.length ys.length = ds.length := by omega
      rw [e, filterMap_map] at h2
      have h3 : ws = (ds.map fun _ => true).map V.bl := DA.bls_of (by rw [List.map_map]; exact h2)
      subst h3
      walk_at "s"
      refine w_all (SqL.of h1) ?_
      have e2 : (ds.map fun _ => true).all id = true := by rw [List.all_map]; simp
      rw [e2]
      exact q _ (k1.tr0 k)
theorem no_law_same {K : PySem.W.Frag} {vs : List V} {H : Hp} {Q : VK} {E : XK} (h : spn_law_same K 0 vs H Q E) : False := by
  obtain ⟨_, _, _, _, _, d, _, _, ok, _⟩ := h
  cases ok

/-! ### palettes that are drawn -/
abbrev palD (cs : List (List Int)) : PyData := .list (cs.map colD)
theorem ok_pal {n : Nat} {w : Int} {cs : List (List Int)} (h : ∀ c ∈ cs, ColOk w c) (hw : w ≤ 100) (l : cs.length ≤ 100000) : Ok (n + 3) (palD cs) := by
  refine .lst (by rw [List.length_map]; exact l) fun d hd => ?_
  obtain ⟨c, hc, rfl⟩ := List.mem_map.mp hd
  exact .col (by have := (h c hc).1; omega)
def rd_law_few (K : PySem.W.Frag) : TS :=
 (tSeq (tAsg (tLst tNil) (gName 3))
 (tSeq (tFor (iRng1 (tCons (tOp rAddI (tC (.int 1)) (tCall (sp_law_pick K) [] E0 (tCons (tVar 0) (tCons (tVar 2) tNil)))) tNil)) (gName 4) (tSeq (tAsg (tCall (sp_law_colour K) [] E0 (tCons (tVar 0) (tCons (tVar 1) tNil))) (gName 5))
 (Evl.tCut (tIfS (tAnd (tTest (tOp (rNeD K) (tVar 3) (tLst tNil))) (tTest (tOp rEq (tCall (sp_law_pick K) [] E0 (tCons (tVar 0) (tCons (tC (.int 5)) tNil))) (tC (.int 0))))) (tAsg (tOp (rIxL K) (tVar 3) (tCall (sp_law_pick K) [] E0 (tCons (tVar 0) (tCons (tCB (rLenQ K) (tCons (tVar 3) tNil)) tNil)))) (gName 5)) tNext)
 (tDrop (tBM K "list" rAppend (tVar 3) (tCons (tVar 5) tNil))))))
 (tRet (tVar 3))))
/-- the palette's draws: at most 12 a colour and one more -/
def sp_law_few (K : PySem.W.Frag) : Sp := fun vs H Q _ => ∃ v0 v1 v2, vs = [v0, v1, v2] ∧ ∃ (l : Addr) (n : Nat) (wide span most : Int), v0 = .ref l ∧ v2 = .int most ∧ Rand H l n ∧ n < 2147400000 ∧ KindD K H v1 wide span ∧ 1 ≤ wide ∧ wide ≤ 5 ∧ 3 ≤ span ∧ span ≤ 1000 ∧ 1 ≤ most ∧ most ≤ 100 ∧
  ∀ (p : Addr) (cs : List (List Int)) (H' : Hp), H p = none → 1 ≤ cs.length → (cs.length : Int) ≤ most → (∀ c ∈ cs, ColOk wide c) → LstD K H' p (cs.map colD) → Kp (at1 l) H H' → Rand H' l (n + 1301) → Q (.ref p) H'
theorem sm_law_few {K : PySem.W.Frag} {vs : List V} {H : Hp} {Q : VK} {E : XK} (h : sp_law_few K vs H Q E) : rd_law_few K { nx := fun _ H' => Q .non H', rt := Q } (start ["left", "kind", "most", "found", "k", "colour"] vs) H := by
  obtain ⟨v0, v1, v2, rfl, l, n, wide, span, most, rfl, rfl, R, hn, hk, w1, w5, s3, s1000, m1, m2, q⟩ := h
  show rd_law_few K _ [some (.ref l), some v1, some (.int most), none, none, none] H
  unfold rd_law_few
  walk_at "s"
  intro f H1 f1 k1 h1
  have nf : f ≠ l := R.ne f1
  walk_at "s"
  refine ⟨_, _, rfl, l, n, most, rfl, rfl, by walk_at "rand", by omega, by omega, by omega, fun r H2 r0 r1 k2 R2 => ?_⟩
  walk_at "s"
  have k02 : Kp (at1 l) H H2 := by walk_at "kp"
  refine w_forG wk_rng (fun i σ H' => ∃ (cs : List (List Int)) (a b : Option V), σ = [some (.ref l), some v1, some (.int most), some (.ref f), a, b] ∧ Kp (at1 l) H H' ∧ Rand H' l (n + 1 + 12 * i) ∧ cs.length = i ∧ (∀ c ∈ cs, ColOk wide c) ∧ LstD K H' f (cs.map colD))
    ⟨[], none, none, rfl, k02, R2, rfl, by simp, _, k2.at nf h1, .nil⟩ (fun _ _ _ _ _ => trivial) ?_ ?_
  · rintro i x σ H3 H4 hi ⟨cs, a, b, rfl, k3, R3, rfl, hcs, L3⟩ k4 rfl
    walk_at "s"
    refine ⟨_, _, rfl, l, n + 1 + 12 * cs.length, wide, span, rfl, by walk_at "rand", by omega, Dz.kp (k3.tr0 k4) hk, w1, w5, s3, s1000, fun v c H5 hc dc k5 R5 => ?_⟩
    walk_at "s"
    refine w_cut (fun σ' H' => ∃ (v : V) (c : List Int) (a : Option V), σ' = [some (.ref l), some v1, some (.int most), some (.ref f), a, some v] ∧ ColOk wide c ∧ Dz K H' v (colD c) ∧ Kp (at1 l) H H' ∧ Rand H' l (n + 1 + 12 * (cs.length + 1)) ∧ LstD K H' f (cs.map colD)) ?_ ?_
    · walk_at "s"
      intro e H6 f6 k6 h6
      have ne : e ≠ l := R5.ne f6
      have keep : ∃ (v' : V) (c : List Int) (a' : Option V), [some (.ref l), some v1, some (.int most), some (.ref f), some (.int (0 + (cs.length : Nat))), some v] = [some (.ref l), some v1, some (.int most), some (.ref f), a', some v'] ∧ ColOk wide c ∧ Dz K H6 v' (colD c) ∧ Kp (at1 l) H H6 ∧ Rand H6 l (n + 1 + 12 * (cs.length + 1)) ∧ LstD K H6 f (cs.map colD) :=
        ⟨v, c, _, rfl, hc, by walk_at "dz", by walk_at "kp", (show Rand H6 l _ by walk_at "rand").mono (by omega), by walk_at "ld"⟩
      refine w_neE (by walk_at "ld") ((ok_pal (n := 3) hcs (by omega) (by omega)).shaped (by decide)) h6 ?_
      walk_at "s"
      refine w_if (fun b1 => ?_) (fun _ => ?_)
      · walk_at "s"
        refine ⟨_, _, rfl, l, n + 1 + 12 * cs.length + 10, 5, rfl, rfl, by walk_at "rand", by omega, by omega, by omega, fun r' H7 r0' r1' k7 R7 => ?_⟩
        walk_at "s"
        refine w_if (fun _ => ?_) (fun _ => ?_)
        · walk_at "s"
          have pos : 0 < cs.length := by
            cases cs with
            | nil => cases b1
            | cons => simp
          refine ⟨_, _, rfl, l, n + 1 + 12 * cs.length + 11, _, rfl, rfl, by walk_at "rand", by omega, by rw [List.length_map]; omega, by rw [List.length_map]; omega, fun r' H8 r0' r1' k8 R8 => ?_⟩
          rw [List.length_map] at r1'
          refine w_ixR (by walk_at "ld") ⟨r0', r1'⟩ fun v' c' _ hm dv => ?_
          walk_at "s"
          exact ⟨v', c', _, rfl, hcs c' hm, dv, by walk_at "kp", (show Rand H8 l _ by walk_at "rand").mono (by omega), by walk_at "ld"⟩
        · walk_at "s"
          exact ⟨v, c, _, rfl, hc, by walk_at "dz", by walk_at "kp", (show Rand H7 l _ by walk_at "rand").mono (by omega), by walk_at "ld"⟩
      · walk_at "s"
        exact keep
    · rintro σ' H' ⟨v, c, a, rfl, hc, dc, k9, R9, L9⟩
      walk_at "s"
      refine w_appendLd L9 dc (by rw [List.length_map, sizeLine_eq]; omega) fun H10 k10 L10 => ?_
      walk_at "s"
      refine ⟨cs ++ [c], _, _, rfl, by walk_at "kp", by walk_at "rand", by simp, ?_, by simpa using L10⟩
      intro c' hc'
      rcases List.mem_append.mp hc' with h | h
      · exact hcs c' h
      · rw [List.mem_singleton.mp h]; exact hc
  · rintro σ H' ⟨cs, a, b, rfl, k3, R3, hl, hcs, L3⟩
    walk_at "s"
    exact q f cs H' f1 (by omega) (by omega) hcs L3 k3 (R3.mono (by omega))

def rd_law_two (K : PySem.W.Frag) : TS :=
 (tSeq (tAsg (tCall (sp_law_kind K) [] E0 (tCons (tVar 0) tNil)) (gName 2))
 (tSeq (tPar 3 4 (tCons (tCall (sp_law_few K) [] E0 (tCons (tVar 0) (tCons (tVar 2) (tCons (tVar 1) tNil)))) (tCons (tCall (sp_law_few K) [] E0 (tCons (tVar 0) (tCons (tVar 2) (tCons (tVar 1) tNil)))) tNil)))
 (tSeq (tFor (iRng1 (tCons (tCB (rLenQ K) (tCons (tVar 4) tNil)) tNil)) (gName 5) (tIfS (tTest (tOp rEq (tCall (sp_law_pick K) [] E0 (tCons (tVar 0) (tCons (tC (.int 4)) tNil))) (tC (.int 0)))) (tAsg (tOp (rIxL K) (tVar 3) (tCall (sp_law_pick K) [] E0 (tCons (tVar 0) (tCons (tCB (rLenQ K) (tCons (tVar 3) tNil)) tNil)))) (gSub (tVar 4) (tVar 5) rSetL)) tNext))
 (tRet (tTup (tCons (tVar 3) (tCons (tVar 4) tNil)))))))
/-- two palettes at p1, p2, apart from one another -/
def sp_law_two (K : PySem.W.Frag) : Sp := fun vs H Q _ => ∃ v0 v1, vs = [v0, v1] ∧ ∃ (l : Addr) (n : Nat) (most : Int), v0 = .ref l ∧ v1 = .int most ∧ Rand H l n ∧ n < 2147300000 ∧ 1 ≤ most ∧ most ≤ 100 ∧
  ∀ (t p1 p2 : Addr) (one other : List (List Int)) (wide : Int) (H' : Hp), H p1 = none → H p2 = none → p1 ≠ p2 → H' t = some (.tup [.ref p1, .ref p2]) → 1 ≤ wide → wide ≤ 5 → 1 ≤ one.length → (one.length : Int) ≤ most → 1 ≤ other.length → (other.length : Int) ≤ most → (∀ c ∈ one, ColOk wide c) → (∀ c ∈ other, ColOk wide c) →
    LstD K H' p1 (one.map colD) → LstD K H' p2 (other.map colD) → Kp (at1 l) H H' → Rand H' l (n + 3000) → Q (.ref t) H'
theorem sm_law_two {K : PySem.W.Frag} {vs : List V} {H : Hp} {Q : VK} {E : XK} (h : sp_law_two K vs H Q E) : rd_law_two K { nx := fun _ H' => Q .non H', rt := Q } (start ["left", "most", "kind", "one", "other", "k"] vs) H := by
  obtain ⟨v0, v1, rfl, l, n, most, rfl, rfl, R, hn, m1, m2, q⟩ := h
  show rd_law_two K _ [some (.ref l), some (.int most), none, none, none, none] H
  unfold rd_law_two
  walk_at "s"
  refine ⟨_, rfl, l, n, rfl, by walk_at "rand", by omega, fun kv wide span H1 w1 w5 s3 s1000 hk k1 R1 => ?_⟩
  walk_at "s"
  refine ⟨_, _, _, rfl, l, n + 2, wide, span, most, rfl, rfl, R1, by omega, hk, w1, w5, s3, s1000, m1, m2, fun p1 one H2 f1 o1 o2 oc L1 k2 R2 => ?_⟩
  walk_at "s"
  refine ⟨_, _, _, rfl, l, n + 1303, wide, span, most, rfl, rfl, R2, by omega, Dz.kp k2 hk, w1, w5, s3, s1000, m1, m2, fun p2 other H3 f2 t1 t2 tc L2 k3 R3 => ?_⟩
  have n1 : p1 ≠ l := R1.ne f1
  have n2 : p2 ≠ l := R2.ne f2
  have n12 : p1 ≠ p2 := (L1.ne f2).symm
  have L1' : LstD K H3 p1 (one.map colD) := by walk_at "ld"
  have e1 : H p1 = none := by walk_at "free"
  have e2 : H p2 = none := by walk_at "free"
  have k03 : Kp (at1 l) H H3 := by walk_at "kp"
  walk_at "s"
  refine w_forG wk_rng (fun i σ H' => ∃ (other' : List (List Int)) (a : Option V), σ = [some (.ref l), some (.int most), some kv, some (.ref p1), some (.ref p2), a] ∧ Kp (at1 l) H H' ∧ Rand H' l (n + 2604 + 2 * i) ∧ other'.length = other.length ∧ (∀ c ∈ other', ColOk wide c) ∧ LstD K H' p1 (one.map colD) ∧ LstD K H' p2 (other'.map colD))
    ⟨other, none, rfl, k03, R3, rfl, tc, L1', L2⟩ (fun _ _ _ _ _ => trivial) ?_ ?_
  · rintro i x σ H4 H5 hi ⟨other', a, rfl, k4, R4, hl, hc, A1, A2⟩ k5 rfl
    rw [List.length_map] at hi
    walk_at "s"
    refine ⟨_, _, rfl, l, n + 2604 + 2 * i, 4, rfl, rfl, by walk_at "rand", by omega, by omega, by omega, fun r H6 r0 r1 k6 R6 => ?_⟩
    walk_at "s"
    refine w_if (fun _ => ?_) (fun _ => ?_)
    · walk_at "s"
      refine ⟨_, _, rfl, l, n + 2604 + 2 * i + 1, _, rfl, rfl, by walk_at "rand", by omega, by rw [List.length_map]; omega, by rw [List.length_map]; omega, fun r' H7 r0' r1' k7 R7 => ?_⟩
      rw [List.length_map] at r1'
      refine w_ixR (f := colD) (by walk_at "ld") ⟨r0', r1'⟩ fun v' c' _ hm dv => ?_
      walk_at "s"
      refine w_setLd (by walk_at "ld") ⟨by omega, by rw [List.length_map]; omega⟩ dv fun H8 k8 L8 => ?_
      refine ⟨other'.set i c', _, rfl, by walk_at "kp", by walk_at "rand", by rw [List.length_set]; exact hl, ?_, by walk_at "ld", ?_⟩
      · intro c hcm
        rcases List.mem_or_eq_of_mem_set hcm with h | h
        · exact hc c h
        · rw [h]; exact oc c' hm
      · rw [List.map_set]
        have e : (0 + (i : Int)).toNat = i := by omega
        rw [e] at L8
        exact L8
    · walk_at "s"
      exact ⟨other', _, rfl, by walk_at "kp", (show Rand H6 l _ by walk_at "rand").mono (by omega), hl, hc, by walk_at "ld", by walk_at "ld"⟩
  · rintro σ H' ⟨other', a, rfl, k4, R4, hl, hc, A1, A2⟩
    walk_at "s"
    intro t H9 f9 k9 h9
    rw [List.length_map] at R4
    exact q t p1 p2 one other' wide H9 e1 e2 n12 h9 w1 w5 o1 o2 (by omega) (by omega) oc hc (by walk_at "ld") (by walk_at "ld") (by walk_at "kp") ((show Rand H9 l _ by walk_at "rand").mono (by omega))

theorem apart_nn (c d : List Int) : 0 ≤ apartI c d := by
  unfold apartI
  have : ∀ l : List (Int × Int), 0 ≤ (l.map fun p => (p.1 - p.2) * (p.1 - p.2)).sum := by
    intro l
    induction l with
    | nil => simp
    | cons p l ih =>
      rw [List.map_cons, List.sum_cons]
      have h : 0 ≤ (p.1 - p.2) * (p.1 - p.2) := by
        by_cases q : 0 ≤ p.1 - p.2
        · exact Int.mul_nonneg q q
        · have h2 : 0 ≤ -(p.1 - p.2) := by omega
          have := Int.mul_nonneg h2 h2
          rwa [Int.neg_mul_neg] at this
      omega
  exact this _
def rd_law_price (K : PySem.W.Frag) : TS :=
 (tSeq (tPar 3 4 (tCons (tCall (sp_law_pick K) [] E0 (tCons (tVar 0) (tCons (tCB (rLenQ K) (tCons (tVar 1) tNil)) tNil))) (tCons (tCall (sp_law_pick K) [] E0 (tCons (tVar 0) (tCons (tCB (rLenQ K) (tCons (tVar 2) tNil)) tNil))) tNil)))
 (tSeq (tAsg (tCall (sp_law_apart K) [] E0 (tCons (tOp (rIxL K) (tVar 1) (tVar 3)) (tCons (tOp (rIxL K) (tVar 2) (tVar 4)) tNil))) (gName 5))
 (tSeq (tAsg (tLst (tCons (tC (.int 0)) (tCons (tOp rAddI (tC (.int 1)) (tCall (sp_law_pick K) [] E0 (tCons (tVar 0) (tCons (tC (.int 20)) tNil)))) (tCons (tOp rAddI (tOp rDivI (tVar 5) (tC (.int 2))) (tCall (sp_law_pick K) [] E0 (tCons (tVar 0) (tCons (tC (.int 3)) tNil)))) tNil)))) (gName 6))
 (tSeq (tAsg (tOp rCat (tVar 6) (tLst (tCons (tVar 5) (tCons (tCall (sp_law_pick K) [] E0 (tCons (tVar 0) (tCons (tOp rPowI (tC (.int 10)) (tC (.int 5))) tNil))) (tCons (tOp rPowI (tC (.int 10)) (tC (.int 7))) tNil))))) (gName 6))
 (tRet (tCB rMin2 (tCons (tOp rPowI (tC (.int 10)) (tC (.int 7))) (tCons (tOp (rIxL K) (tVar 6) (tCall (sp_law_pick K) [] E0 (tCons (tVar 0) (tCons (tC (.int 6)) tNil)))) tNil))))))))
def sp_law_price (K : PySem.W.Frag) : Sp := fun vs H Q _ => ∃ v0 v1 v2, vs = [v0, v1, v2] ∧ ∃ (l p1 p2 : Addr) (n : Nat) (one other : List (List Int)) (wide : Int), v0 = .ref l ∧ v1 = .ref p1 ∧ v2 = .ref p2 ∧ Rand H l n ∧ n < 2147300000 ∧ p1 ≠ l ∧ p2 ≠ l ∧
  LstD K H p1 (one.map colD) ∧ LstD K H p2 (other.map colD) ∧ 1 ≤ one.length ∧ one.length ≤ 1000 ∧ 1 ≤ other.length ∧ other.length ≤ 1000 ∧ wide ≤ 5 ∧ (∀ c ∈ one, ColOk wide c) ∧ (∀ c ∈ other, ColOk wide c) ∧
  ∀ (r : Int) (H' : Hp), 0 ≤ r → r ≤ 10000000 → Kp (at1 l) H H' → Rand H' l (n + 6) → Q (.int r) H'
theorem sm_law_price {K : PySem.W.Frag} {vs : List V} {H : Hp} {Q : VK} {E : XK} (h : sp_law_price K vs H Q E) : rd_law_price K { nx := fun _ H' => Q .non H', rt := Q } (start ["left", "one", "other", "i", "j", "near", "some"] vs) H := by
  obtain ⟨v0, v1, v2, rfl, l, p1, p2, n, one, other, wide, rfl, rfl, rfl, R, hn, n1, n2, L1, L2, o1, o2, t1, t2, hw, oc, tc, q⟩ := h
  show rd_law_price K _ [some (.ref l), some (.ref p1), some (.ref p2), none, none, none, none] H
  unfold rd_law_price
  walk_at "s"
  refine ⟨_, _, rfl, l, n, _, rfl, rfl, by walk_at "rand", by omega, by rw [List.length_map]; omega, by rw [List.length_map]; omega, fun i H1 i0 i1 k1 R1 => ?_⟩
  rw [List.length_map] at i1
  walk_at "s"
  refine ⟨_, _, rfl, l, n + 1, _, rfl, rfl, by walk_at "rand", by omega, by rw [List.length_map]; omega, by rw [List.length_map]; omega, fun j H2 j0 j1 k2 R2 => ?_⟩
  rw [List.length_map] at j1
  walk_at "s"
  refine w_ixR (f := colD) (by walk_at "ld") ⟨i0, i1⟩ fun v c _ hm dv => ?_
  walk_at "s"
  refine w_ixR (f := colD) (by walk_at "ld") ⟨j0, j1⟩ fun v' c' _ hm' dv' => ?_
  walk_at "s"
  refine ⟨_, _, rfl, c, c', dv, dv', (oc c hm).sm, (tc c' hm').sm, by have := (oc c hm).1; omega, fun H3 k3 => ?_⟩
  have nn := apart_nn c c'
  generalize apartI c c' = near at nn ⊢
  walk_at "s"
  refine ⟨_, _, rfl, l, n + 2, 20, rfl, rfl, by walk_at "rand", by omega, by omega, by omega, fun r1 H4 a0 a1 k4 R4 => ?_⟩
  walk_at "s"
  refine ⟨_, _, rfl, l, n + 3, 3, rfl, rfl, by walk_at "rand", by omega, by omega, by omega, fun r2 H5 b0 b1 k5 R5 => ?_⟩
  walk_at "s"
  intro s H6 f6 k6 h6
  have n6 : s ≠ l := R5.ne f6
  walk_at "s"
  refine ⟨_, _, rfl, l, n + 4, _, rfl, rfl, by walk_at "rand", by omega, by decide, by decide, fun r3 H7 c0 c1 k7 R7 => ?_⟩
  walk_at "s"
  intro s' H8 f8 k8 h8
  have n8 : s' ≠ l := R7.ne f8
  walk_at "s"
  refine w_cat (by walk_at "at") h8 (by walk_at "sz") fun u H9 f9 k9 h9 => ?_
  have n9 : u ≠ l := (show Rand H8 l (n + 5) by walk_at "rand").ne f9
  walk_at "s"
  refine ⟨_, _, rfl, l, n + 5, 6, rfl, rfl, by walk_at "rand", by omega, by omega, by omega, fun r4 H10 d0 d1 k10 R10 => ?_⟩
  obtain ⟨z, e, z0⟩ := ixI (P := fun z => 0 ≤ z) (r := r4) (xs := [V.int 0, .int (1 + r1), .int (near / 2 + r2)] ++ [V.int near, .int r3, .int (10 ^ Int.toNat 7)]) d0 d1 (by
    intro x hx
    simp only [List.mem_append, List.mem_cons, List.not_mem_nil, or_false] at hx
    rcases hx with (rfl | rfl | rfl) | (rfl | rfl | rfl)
    · exact ⟨_, rfl, by omega⟩
    · exact ⟨_, rfl, by omega⟩
    · exact ⟨_, rfl, by omega⟩
    · exact ⟨_, rfl, by omega⟩
    · exact ⟨_, rfl, by omega⟩
    · exact ⟨_, rfl, by decide⟩)
  refine w_ixL (by walk_at "sql") e ?_
  walk_at "s"
  refine q _ H10 ?_ ?_ (by walk_at "kp") (by walk_at "rand")
  · split
    · exact z0
    · decide
  · have e10 : (10 : Int) ^ Int.toNat 7 = 10000000 := by decide
    rw [e10]
    split <;> omega

/-! ### pairs -/
abbrev pairD (p : Int × Int) : PyData := .tuple [.int p.1, .int p.2]
def PairsIn (ps : List (Int × Int)) (a b : Nat) : Prop := ∀ p ∈ ps, 0 ≤ p.1 ∧ p.1 < a ∧ 0 ≤ p.2 ∧ p.2 < b
def rd_law_pairs (K : PySem.W.Frag) : TS :=
 (tSeq (tAsg (tLstRg (tRg1 (tCB (rLenQ K) (tCons (tVar 2) tNil)))) (gName 3))
 (tSeq (tAsg (tLst tNil) (gName 4))
 (tSeq (tFor (iRng1 (tCons (tCB (rLenQ K) (tCons (tVar 1) tNil)) tNil)) (gName 5) (tIfS (tAnd (tTest (tOp (rNeD K) (tVar 3) (tLst tNil))) (tTest (tOp rGtI (tCall (sp_law_pick K) [] E0 (tCons (tVar 0) (tCons (tC (.int 3)) tNil))) (tC (.int 0))))) (tDrop (tBM K "list" rAppend (tVar 4) (tCons (tTup (tCons (tVar 5) (tCons (tBM K "list" rPopAt (tVar 3) (tCons (tCall (sp_law_pick K) [] E0 (tCons (tVar 0) (tCons (tCB (rLenQ K) (tCons (tVar 3) tNil)) tNil))) tNil)) tNil))) tNil))) tNext))
 (tRet (tVar 4)))))
def sp_law_pairs (K : PySem.W.Frag) : Sp := fun vs H Q _ => ∃ v0 v1 v2, vs = [v0, v1, v2] ∧ ∃ (l p1 p2 : Addr) (n : Nat) (one other : List (List Int)), v0 = .ref l ∧ v1 = .ref p1 ∧ v2 = .ref p2 ∧ Rand H l n ∧ n < 2147300000 ∧ p1 ≠ l ∧ p2 ≠ l ∧
  LstD K H p1 (one.map colD) ∧ LstD K H p2 (other.map colD) ∧ one.length ≤ 1000 ∧ other.length ≤ 1000 ∧
  ∀ (p : Addr) (ps : List (Int × Int)) (H' : Hp), H p = none → ps.length ≤ one.length → PairsIn ps one.length other.length → LstD K H' p (ps.map pairD) → Kp (at1 l) H H' → Rand H' l (n + 2000) → Q (.ref p) H'
theorem sm_law_pairs {K : PySem.W.Frag} {vs : List V} {H : Hp} {Q : VK} {E : XK} (h : sp_law_pairs K vs H Q E) : rd_law_pairs K { nx := fun _ H' => Q .non H', rt := Q } (start ["left", "one", "other", "free", "found", "i"] vs) H := by
  obtain ⟨v0, v1, v2, rfl, l, p1, p2, n, one, other, rfl, rfl, rfl, R, hn, n1, n2, L1, L2, o2, t2, q⟩ := h
  show rd_law_pairs K _ [some (.ref l), some (.ref p1), some (.ref p2), none, none, none] H
  unfold rd_law_pairs
  walk_at "s"
  refine w_krg (by rw [List.length_map]; exact RgOk.of_le (by decide) (by omega) (by decide) (by omega)) fun f H1 f1 k1 h1 => ?_
  rw [List.length_map] at h1
  have nf : f ≠ l := R.ne f1
  walk_at "s"
  intro g H2 f2 k2 h2
  have ng : g ≠ l := (show Rand H1 l n by walk_at "rand").ne f2
  have nfg : f ≠ g := (ne_none h1 f2).symm
  have e2 : H g = none := by walk_at "free"
  walk_at "s"
  rw [rgV_0] at h1
  have F0 : LstD K H2 f ((intsTo other.length).map PyData.int) := ⟨_, k2.at (fun z => z) h1, DA.ints _⟩
  refine w_forG wk_rng (fun i σ H' => ∃ (free : List Int) (ps : List (Int × Int)) (a : Option V), σ = [some (.ref l), some (.ref p1), some (.ref p2), some (.ref f), some (.ref g), a] ∧ Kp (at1 l) H H' ∧ Rand H' l (n + 2 * i) ∧ ps.length ≤ i ∧ PairsIn ps one.length other.length ∧ free.length ≤ 1000 ∧ (∀ x ∈ free, 0 ≤ x ∧ x < other.length) ∧ LstD K H' f (free.map PyData.int) ∧ LstD K H' g (ps.map pairD))
    ⟨_, [], none, rfl, by walk_at "kp", by walk_at "rand", by simp, (fun p hp => by simp at hp), by rw [len_intsTo]; exact t2, fun x hx => mem_intsTo hx, F0, ⟨_, h2, .nil⟩⟩ (fun _ _ _ _ _ => trivial) ?_ ?_
  · rintro i x σ H4 H5 hi ⟨free, ps, a, rfl, k4, R4, hl, hp, fl, fx, A1, A2⟩ k5 rfl
    rw [List.length_map] at hi
    walk_at "s"
    intro e H6 f6 k6 h6
    have ne : e ≠ l := (show Rand H5 l _ by walk_at "rand").ne f6
    refine w_neE (by walk_at "ld") ((Ok.lst (n := 1) (by rw [List.length_map]; omega) (Ok.ints free)).shaped (by decide)) h6 ?_
    walk_at "s"
    refine w_if (fun b1 => ?_) (fun _ => ?_)
    · have pos : 0 < free.length := by
        cases free with
        | nil => cases b1
        | cons => simp
      walk_at "s"
      refine ⟨_, _, rfl, l, n + 2 * i, 3, rfl, rfl, by walk_at "rand", by omega, by omega, by omega, fun r H7 r0 r1 k7 R7 => ?_⟩
      walk_at "s"
      refine w_if (fun _ => ?_) (fun _ => ?_)
      · walk_at "s"
        refine ⟨_, _, rfl, l, n + 2 * i + 1, _, rfl, rfl, by walk_at "rand", by omega, by rw [List.length_map]; omega, by rw [List.length_map]; omega, fun r' H8 r0' r1' k8 R8 => ?_⟩
        rw [List.length_map] at r1'
        refine w_popAtLd (f := PyData.int) (xs := free) (by walk_at "ld") ⟨r0', r1'⟩ (by omega) fun H9 v x hx k9 A9 dv => ?_
        cases dv
        have xm := fx x (List.mem_of_getElem? hx)
        walk_at "s"
        intro t H10 f10 k10 h10
        walk_at "s"
        refine w_appendLd (d := pairD (0 + (i : Int), x)) (by walk_at "ld") (.tup (SqT.of h10) (by walk_at "da")) (by rw [List.length_map, sizeLine_eq]; omega) fun H11 k11 L11 => ?_
        walk_at "s"
        refine ⟨free.eraseIdx r'.toNat, ps ++ [(0 + (i : Int), x)], _, rfl, by walk_at "kp", (show Rand H11 l _ by walk_at "rand").mono (by omega), by simpa using hl, ?_, ?_, ?_, by walk_at "ld", by simpa using L11⟩
        · intro p hp'
          rcases List.mem_append.mp hp' with h | h
          · exact hp p h
          · rw [List.mem_singleton.mp h]
            exact ⟨by show (0 : Int) ≤ 0 + (i : Int); omega, by show 0 + (i : Int) < _; omega, xm⟩
        · exact Nat.le_trans (len_erase _ _) fl
        · exact fun y hy => fx y (List.mem_of_mem_eraseIdx hy)
      · walk_at "s"
        exact ⟨free, ps, _, rfl, by walk_at "kp", (show Rand H7 l _ by walk_at "rand").mono (by omega), by omega, hp, fl, fx, by walk_at "ld", by walk_at "ld"⟩
    · walk_at "s"
      exact ⟨free, ps, _, rfl, by walk_at "kp", (show Rand H6 l _ by walk_at "rand").mono (by omega), by omega, hp, fl, fx, by walk_at "ld", by walk_at "ld"⟩
  · rintro σ H' ⟨free, ps, a, rfl, k4, R4, hl, hp, fl, fx, A1, A2⟩
    rw [List.length_map] at R4 hl
    walk_at "s"
    exact q g ps H' e2 (by omega) hp A2 k4 (R4.mono (by omega))

/-! ### what a change costs -/
def turnedI (one other : List (List Int)) (ps : List (Int × Int)) : Int := (ps.map fun p => apartI (one.getD p.1.toNat []) (other.getD p.2.toNat [])).sum
def costI (one other : List (List Int)) (price : Int) (ps : List (Int × Int)) : Int := turnedI one other ps + price * ((one.length : Int) + other.length - 2 * ps.length)
def ps_cost (K : PySem.W.Frag) (vs : List V) (H : Hp) (Q : VK) : Prop := ∃ v0 v1 v2 v3, vs = [v0, v1, v2, v3] ∧ ∃ (p1 p2 p3 : Addr) (one other : List (List Int)) (price : Int) (ps : List (Int × Int)) (wide : Int), v0 = .ref p1 ∧ v1 = .ref p2 ∧ v2 = .int price ∧ v3 = .ref p3 ∧
  LstD K H p1 (one.map colD) ∧ LstD K H p2 (other.map colD) ∧ LstD K H p3 (ps.map pairD) ∧ one.length ≤ 1000 ∧ other.length ≤ 1000 ∧ ps.length ≤ 1000 ∧ wide ≤ 5 ∧ (∀ c ∈ one, ColOk wide c) ∧ (∀ c ∈ other, ColOk wide c) ∧ PairsIn ps one.length other.length ∧
  ∀ H', Kp no H H' → Q (.int (costI one other price ps)) H'
def sp_law_cost (K : PySem.W.Frag) : Sp := fun vs H Q _ => ps_cost K vs H Q
def sp_cost_of (K : PySem.W.Frag) : Sp := fun vs H Q _ => ps_cost K vs H Q
/-- the comprehension of both -/
theorem w_turned {K : PySem.W.Frag} {σ : L2.St} {H : Hp} {Q : VK} {p1 p2 p3 : Addr} {one other : List (List Int)} {ps : List (Int × Int)} {wide : Int} {i j : Nat} {sp : Sp}
    (hsp : ∀ (v w : V) (c d : List Int) (H' : Hp) (Q' : VK), Dz K H' v (colD c) → Dz K H' w (colD d) → ColOk wide c → ColOk wide d → (∀ H2, Kp no H' H2 → Q' (.int (apartI c d)) H2) → sp [v, w] H' Q' E0)
    (s0 : ∀ x y, ((wipe σ [i, j]).set i (some x)).set j (some y) = ((wipe σ [i, j]).set i (some x)).set j (some y) → (((wipe σ [i, j]).set i (some x)).set j (some y))[0]? = some (some (.ref p1)) ∧ (((wipe σ [i, j]).set i (some x)).set j (some y))[1]? = some (some (.ref p2)) ∧ (((wipe σ [i, j]).set i (some x)).set j (some y))[i]? = some (some x) ∧ (((wipe σ [i, j]).set i (some x)).set j (some y))[j]? = some (some y) ∧
      wipe (((wipe σ [i, j]).set i (some x)).set j (some y)) [i, j] = wipe σ [i, j])
    (L1 : LstD K H p1 (one.map colD)) (L2 : LstD K H p2 (other.map colD)) (L3 : LstD K H p3 (ps.map pairD)) (lp : ps.length ≤ 1000) (oc : ∀ c ∈ one, ColOk wide c) (tc : ∀ c ∈ other, ColOk wide c) (hp : PairsIn ps one.length other.length)
    (q : ∀ p H', Kp no H H' → SqL K H' p ((ps.map fun p => apartI (one.getD p.1.toNat []) (other.getD p.2.toNat [])).map V.int) → Q (.ref p) H') :
    kLc (Itl K p3) (gTup K 2 (gCons (gName i) (gCons (gName j) gNil))) tYes (tCall sp [] E0 (tCons (tOp (rIxL K) (tVar 0) (tVar i)) (tCons (tOp (rIxL K) (tVar 1) (tVar j)) tNil))) [i, j] σ Q H := by
  obtain ⟨ws, e3, g3⟩ := id L3
  have hl := g3.len
  rw [List.length_map] at hl
  refine w_lcP (K := K) (wk_list (xs := ws)) (fun i => (ps[i]?).map fun p => .int (apartI (one.getD p.1.toNat []) (other.getD p.2.toNat []))) (by omega) (fun H' k => SqL.of (k.at (fun z => z) e3)) ?_ ?_
  · intro n x H' hn k y R R0 r _
    obtain ⟨d, hd, dx⟩ := g3.getV y
    rw [List.getElem?_map] at hd
    obtain ⟨p, hpn, rfl⟩ := Option.map_eq_some_iff.mp hd
    have pin := hp p (List.mem_of_getElem? hpn)
    obtain ⟨a, rfl, ta⟩ := Dg.tupI_of (ns := [p.1, p.2]) dx
    have ta' : SqT K H' a [V.int p.1, V.int p.2] := SqT.kp k ta
    refine w_gtup ta' rfl ?_
    walk_at "s"
    obtain ⟨q0, q1, q2, q3, q4⟩ := s0 (V.int p.1) (V.int p.2) rfl
    refine ⟨q4, ?_⟩
    walk_at "s"
    refine w_var q0 ?_
    walk_at "s"
    refine w_var q2 ?_
    refine w_ixR (f := colD) (by walk_at "ld") ⟨pin.1, pin.2.1⟩ fun v c hc cm dv => ?_
    walk_at "s"
    refine w_var q1 ?_
    walk_at "s"
    refine w_var q3 ?_
    refine w_ixR (f := colD) (by walk_at "ld") ⟨pin.2.2.1, pin.2.2.2⟩ fun w d hd' dm dw => ?_
    walk_at "s"
    refine hsp v w c d H' _ dv dw (oc c cm) (tc d dm) fun H2 k2 => ?_
    refine r _ _ _ k2 ?_ (.int _)
    rw [hpn]
    show some (PyData.int (apartI (one.getD p.1.toNat []) (other.getD p.2.toNat []))) = _
    rw [List.getD_eq_getElem?_getD, hc, List.getD_eq_getElem?_getD, hd']
    rfl
  · intro p vs H' hp' k h1 h2
    rw [hl, filterMap_map] at h2
    have h3 := DA.ints_of (ns := ps.map fun p => apartI (one.getD p.1.toNat []) (other.getD p.2.toNat [])) (by rw [List.map_map]; exact h2)
    subst h3
    exact q p H' k (SqL.of h1)
def rd_law_cost (K : PySem.W.Frag) : TS :=
 (tSeq (tAsg (tCB (rSum K) (tCons (tLc (iList K (tVar 3)) (gTup K 2 (gCons (gName 6) (gCons (gName 7) gNil))) tYes (tCall (sp_law_apart K) [] E0 (tCons (tOp (rIxL K) (tVar 0) (tVar 6)) (tCons (tOp (rIxL K) (tVar 1) (tVar 7)) tNil))) [6, 7]) tNil)) (gName 4))
 (tSeq (tAsg (tOp rSubI (tOp rAddI (tOp rSubI (tCB (rLenQ K) (tCons (tVar 0) tNil)) (tCB (rLenQ K) (tCons (tVar 3) tNil))) (tCB (rLenQ K) (tCons (tVar 1) tNil))) (tCB (rLenQ K) (tCons (tVar 3) tNil))) (gName 5))
 (tRet (tOp rAddI (tVar 4) (tOp rMulI (tVar 2) (tVar 5))))))
def rd_cost_of (K : PySem.W.Frag) : TS :=
 (tSeq (tAsg (tCB (rSum K) (tCons (tLc (iList K (tVar 3)) (gTup K 2 (gCons (gName 5) (gCons (gName 6) gNil))) tYes (tCall (sp_apart K) [] E0 (tCons (tOp (rIxL K) (tVar 0) (tVar 5)) (tCons (tOp (rIxL K) (tVar 1) (tVar 6)) tNil))) [5, 6]) tNil)) (gName 4))
 (tRet (tOp rAddI (tVar 4) (tOp rMulI (tVar 2) (tOp rSubI (tOp rAddI (tCB (rLenQ K) (tCons (tVar 0) tNil)) (tCB (rLenQ K) (tCons (tVar 1) tNil))) (tOp rMulI (tC (.int 2)) (tCB (rLenQ K) (tCons (tVar 3) tNil))))))))
theorem sm_law_cost {K : PySem.W.Frag} {vs : List V} {H : Hp} {Q : VK} {E : XK} (h : sp_law_cost K vs H Q E) : rd_law_cost K { nx := fun _ H' => Q .non H', rt := Q } (start ["one", "other", "price", "pairs", "turned", "lonely", "i", "j"] vs) H := by
  obtain ⟨v0, v1, v2, v3, rfl, p1, p2, p3, one, other, price, ps, wide, rfl, rfl, rfl, rfl, L1, L2, L3, o2, t2, lp, hw, oc, tc, hp, q⟩ := h
  show rd_law_cost K _ [some (.ref p1), some (.ref p2), some (.int price), some (.ref p3), none, none, none, none] H
  unfold rd_law_cost
  obtain ⟨ws, e3, g3⟩ := id L3
  walk_at "s"
  refine w_klist (SqL.of e3) ?_
  refine w_turned (wide := wide) (fun v w c d H' Q' hc hd oc od k => ⟨v, w, rfl, c, d, hc, hd, oc.sm, od.sm, by have := oc.1; omega, k⟩) (fun _ _ _ => ⟨rfl, rfl, rfl, rfl, rfl⟩) L1 L2 L3 lp oc tc hp fun p H1 k1 s1 => ?_
  walk_at "s"
  refine w_sum s1 ?_
  walk_at "s"
  simp only [List.length_map]
  refine w_mul (.inr (by omega)) ?_
  walk_at "s"
  have e : ((one.length : Int) - ps.length + other.length - ps.length) = (one.length : Int) + other.length - 2 * ps.length := by omega
  rw [e]
  exact q H1 k1
theorem sm_cost_of {K : PySem.W.Frag} {vs : List V} {H : Hp} {Q : VK} {E : XK} (h : sp_cost_of K vs H Q E) : rd_cost_of K { nx := fun _ H' => Q .non H', rt := Q } (start ["one", "other", "price", "pairs", "turned", "i", "j"] vs) H := by
  obtain ⟨v0, v1, v2, v3, rfl, p1, p2, p3, one, other, price, ps, wide, rfl, rfl, rfl, rfl, L1, L2, L3, o2, t2, lp, hw, oc, tc, hp, q⟩ := h
  show rd_cost_of K _ [some (.ref p1), some (.ref p2), some (.int price), some (.ref p3), none, none, none] H
  unfold rd_cost_of
  obtain ⟨ws, e3, g3⟩ := id L3
  walk_at "s"
  refine w_klist (SqL.of e3) ?_
  refine w_turned (wide := wide) (fun v w c d H' Q' hc hd oc od k => ⟨v, w, rfl, c, d, hc, hd, oc.sm, od.sm, by have := oc.1; omega, k⟩) (fun _ _ _ => ⟨rfl, rfl, rfl, rfl, rfl⟩) L1 L2 L3 lp oc tc hp fun p H1 k1 s1 => ?_
  walk_at "s"
  refine w_sum s1 ?_
  walk_at "s"
  simp only [List.length_map]
  walk_at "s"
  exact q H1 k1

/-! ### the law -/
theorem w_script {K : PySem.W.Frag} {H : Hp} {Q : VK} {a : Addr} {ns : List Int} (h : SqL K H a (ns.map V.int)) (q : Q (.int ns.length) H) : rLenQ K [.ref a] H Q := w_lenL h (by rw [List.length_map]; exact q)
def sp_law_k68 (K : PySem.W.Frag) : Sp := fun vs H Q _ => ∃ v0, vs = [v0] ∧ ∃ (a : Addr) (ns : List Int), v0 = .ref a ∧ SqL K H a (ns.map V.int) ∧ ns.length ≤ 63 ∧ ∀ H', Q (.bl true) H'
def rd_law_k68 (K : PySem.W.Frag) : TS :=
 (tSeq (tFor (iRng1 (tCons (tCB rMax2 (tCons (tC (.int 1)) (tCons (tCB rMin2 (tCons (tCB (rLenQ K) (tCons (tVar 0) tNil)) (tCons (tC (.int 3)) tNil))) tNil))) tNil)) (gName 1) (tSeq (tAsg (tCall (sp_law_left K) [] E0 (tCons (tVar 0) (tCons (tVar 1) tNil))) (gName 2))
 (tSeq (tAsg (tCall (sp_law_two K) [] E0 (tCons (tVar 2) (tCons (tOp (rIxL K) (tLst (tCons (tC (.int 9)) (tCons (tC (.int 12)) tNil))) (tCB rInt1 (tCons (tOp rEq (tCall (sp_law_pick K) [] E0 (tCons (tVar 2) (tCons (tC (.int 8)) tNil))) (tC (.int 0))) tNil))) tNil))) (gTup K 2 (gCons (gName 3) (gCons (gName 4) gNil))))
 (tSeq (tAsg (tTup (tCons (tCB (rListOf K) (tCons (tVar 3) tNil)) (tCons (tCB (rListOf K) (tCons (tVar 4) tNil)) tNil))) (gName 5))
 (tFor (iRng1 (tCons (tC (.int 4)) tNil)) (gName 6) (tSeq (tAsg (tCall (sp_law_price K) [] E0 (tCons (tVar 2) (tCons (tVar 3) (tCons (tVar 4) tNil)))) (gName 7))
 (tSeq (tAsg (tOp (rIxL K) (tLst (tCons (tCall (sp_law_pairs K) [] E0 (tCons (tVar 2) (tCons (tVar 3) (tCons (tVar 4) tNil)))) (tCons (tLst tNil) tNil))) (tCB rInt1 (tCons (tOp rEq (tCall (sp_law_pick K) [] E0 (tCons (tVar 2) (tCons (tC (.int 6)) tNil))) (tC (.int 0))) tNil))) (gName 8))
 (tSeq (tAsg (tCB (rListOf K) (tCons (tVar 8) tNil)) (gName 9))
 (tSeq (tFor (iRng1 (tCons (tC (.int 2)) tNil)) (gName 10) (tSeq (tAsg (tCall (sp_cost_of K) [] E0 (tCons (tVar 3) (tCons (tVar 4) (tCons (tVar 7) (tCons (tVar 9) tNil))))) (gName 11))
 (tIfS (tNot (tB (tCall (sp_law_same K) [] E0 (tCons (tVar 11) (tCons (tCall (sp_law_cost K) [] E0 (tCons (tVar 3) (tCons (tVar 4) (tCons (tVar 7) (tCons (tVar 8) tNil))))) tNil))))) (tRet (tC (.bl false))) tNext)))
 (tIfS (tOr (tTest (tOp (rNeD K) (tVar 9) (tVar 8))) (tTest (tOp (rNeD K) (tTup (tCons (tVar 3) (tCons (tVar 4) tNil))) (tVar 5)))) (tRet (tC (.bl false))) tNext))))))))))
 (tRet (tC (.bl true))))
theorem sm_law_k68 {K : PySem.W.Frag} {vs : List V} {H : Hp} {Q : VK} {E : XK} (h : sp_law_k68 K vs H Q E) : rd_law_k68 K { nx := fun _ H' => Q .non H', rt := Q } (start ["script", "k", "left", "one", "other", "kept", "turn", "price", "pairs", "handed", "again", "found"] vs) H := by
  obtain ⟨v0, rfl, a, ns, rfl, hs, hl, q⟩ := h
  show rd_law_k68 K _ [some (.ref a), none, none, none, none, none, none, none, none, none, none, none] H
  unfold rd_law_k68
  walk_at "s"
  refine w_forG wk_rng (fun i σ H' => ∃ (b c d e f g h i' j k l : Option V), σ = [some (.ref a), b, c, d, e, f, g, h, i', j, k, l] ∧ Kp no H H') ⟨_, _, _, _, _, _, _, _, _, _, _, rfl, Kp.refl⟩ (fun _ _ _ _ _ => trivial) ?_ ?_
  · rintro i x σ H1 H2 hi ⟨_, _, _, _, _, _, _, _, _, _, _, rfl, k1⟩ k2 rfl
    have k02 := k1.tr0 k2
    walk_at "s"
    refine ⟨_, _, rfl, a, ns, i, rfl, by simp, SqL.kp k02 (fun z => z) hs, fun l H3 f3 k3 R3 => ?_⟩
    walk_at "s"
    intro m H4 f4 k4 h4
    have n4 : m ≠ l := R3.ne f4
    walk_at "s"
    refine ⟨_, _, rfl, l, 0, 8, rfl, rfl, by walk_at "rand", by omega, by omega, by omega, fun r H5 r0 r1 k5 R5 => ?_⟩
    walk_at "s"
    obtain ⟨z, ez, z0, z1⟩ := ixI (P := fun z => 1 ≤ z ∧ z ≤ 100) (r := if decide (r = 0) = true then 1 else 0) (xs := [V.int 9, .int 12]) (by split <;> decide) (by split <;> decide) (by
      intro x hx
      simp only [List.mem_cons, List.not_mem_nil, or_false] at hx
      rcases hx with rfl | rfl <;> exact ⟨_, rfl, by decide, by decide⟩)
    refine w_ixL (by walk_at "sql") ez ?_
    walk_at "s"
    refine ⟨_, _, rfl, l, 0 + 1, z, rfl, rfl, R5, by omega, z0, z1, fun t p1 p2 one other wide H6 f61 f62 n12 h6 w1 w5 o1 o2 t1 t2 oc tc L1 L2 k6 R6 => ?_⟩
    have n1 : p1 ≠ l := R5.ne f61
    have n2 : p2 ≠ l := R5.ne f62
    walk_at "s"
    refine w_listOfLd L1 fun c1 H7 f7 k7 C1 => ?_
    walk_at "s"
    refine w_listOfLd (by walk_at "ld") fun c2 H8 f8 k8 C2 => ?_
    walk_at "s"
    intro t' H9 f9 k9 h9
    have m1 : c1 ≠ l := R6.ne f7
    have m2 : c2 ≠ l := (show Rand H7 l _ by walk_at "rand").ne f8
    have R9 : Rand H9 l 3001 := by walk_at "rand"
    have L19 : LstD K H9 p1 (one.map colD) := by walk_at "ld"
    have L29 : LstD K H9 p2 (other.map colD) := by walk_at "ld"
    have C19 : LstD K H9 c1 (one.map colD) := by walk_at "ld"
    have C29 : LstD K H9 c2 (other.map colD) := by walk_at "ld"
    have k09 : KZ no H H9 := ⟨by walk_at "kp"⟩
    have lo : one.length ≤ 100 := by omega
    have lt : other.length ≤ 100 := by omega
    walk_at "s"
    refine w_forG wk_rng (fun j σ H' => ∃ (f g h i' j' k : Option V), σ = [some (.ref a), some (.int (0 + (i : Int))), some (.ref l), some (.ref p1), some (.ref p2), some (.ref t'), f, g, h, i', j', k] ∧ Kp (at1 l) H9 H' ∧ Rand H' l (3001 + 2007 * j)) ⟨_, _, _, _, _, _, rfl, Kp.refl, R9⟩ (fun _ _ _ _ _ => trivial) ?_ ?_
    · rintro j x σ H10 H11 hj ⟨_, _, _, _, _, _, rfl, k10, R10⟩ k11 rfl
      have ka : KZ (at1 l) H9 H11 := ⟨k10.tr0 k11⟩
      have lj : j < 4 := by simpa using hj
      walk_at "s"
      refine ⟨_, _, _, rfl, l, p1, p2, 3001 + 2007 * j, one, other, wide, rfl, rfl, rfl, by walk_at "rand", by omega, n1, n2, LstD.kp ka.k n1 L19, LstD.kp ka.k n2 L29, o1, by omega, t1, by omega, w5, oc, tc, fun price H12 pr0 pr1 k12 R12 => ?_⟩
      walk_at "s"
      refine ⟨_, _, _, rfl, l, p1, p2, 3001 + 2007 * j + 6, one, other, rfl, rfl, rfl, by walk_at "rand", by omega, n1, n2, LstD.kp (ka.k.tr' k12) n1 L19, LstD.kp (ka.k.tr' k12) n2 L29, by omega, by omega, fun p3 ps H13 f13 lps hps L13 k13 R13 => ?_⟩
      have n3 : p3 ≠ l := R12.ne f13
      walk_at "s"
      intro e H14 f14 k14 h14
      have n14 : e ≠ l := R13.ne f14
      walk_at "s"
      intro m' H15 f15 k15 h15
      have n15 : m' ≠ l := (show Rand H14 l _ by walk_at "rand").ne f15
      walk_at "s"
      refine ⟨_, _, rfl, l, 3001 + 2007 * j + 6 + 2000, 6, rfl, rfl, by walk_at "rand", by omega, by omega, by omega, fun r' H16 r0' r1' k16 R16 => ?_⟩
      walk_at "s"
      have kb : KZ (at1 l) H9 H16 := ⟨(((ka.k.tr' k12).tr' k13).tr0 k14 |>.tr0 k15).tr' k16⟩
      have pick : ∃ (p : Addr) (ps : List (Int × Int)), atI [V.ref p3, V.ref e] (if decide (r' = 0) = true then 1 else 0) = some (.ref p) ∧ ps.length ≤ 100 ∧ PairsIn ps one.length other.length ∧ LstD K H16 p (ps.map pairD) ∧ p ≠ l := by
        by_cases h : r' = 0
        · rw [decide_eq_true h, if_pos rfl]
          refine ⟨e, [], rfl, by simp, fun p hp => by simp at hp, ⟨_, (show H16 e = some (.lst []) by walk_at "at"), .nil⟩, n14⟩
        · rw [decide_eq_false h, if_neg (by decide)]
          exact ⟨p3, ps, rfl, by omega, hps, by walk_at "ld", n3⟩
      obtain ⟨p4, qs, e4, lq, hq, L4, n4⟩ := pick
      refine w_ixL (by walk_at "sql") e4 ?_
      walk_at "s"
      refine w_listOfLd L4 fun p5 H17 f17 k17 L5 => ?_
      have n5 : p5 ≠ l := R16.ne f17
      have kc : KZ (at1 l) H9 H17 := ⟨kb.k.tr0 k17⟩
      have L4' : LstD K H17 p4 (qs.map pairD) := by walk_at "ld"
      have A1 : LstD K H17 p1 (one.map colD) := LstD.kp kc.k n1 L19
      have A2 : LstD K H17 p2 (other.map colD) := LstD.kp kc.k n2 L29
      have R17 : Rand H17 l (3001 + 2007 * (j + 1)) := (show Rand H17 l _ by walk_at "rand").mono (by omega)
      walk_at "s"
      refine w_forG wk_rng (fun j' σ H' => ∃ (u v : Option V), σ = [some (.ref a), some (.int (0 + (i : Int))), some (.ref l), some (.ref p1), some (.ref p2), some (.ref t'), some (.int (0 + (j : Int))), some (.int price), some (.ref p4), some (.ref p5), u, v] ∧ Kp no H17 H') ⟨_, _, rfl, Kp.refl⟩ (fun _ _ _ _ _ => trivial) ?_ ?_
      · rintro j' x σ H18 H19 hj' ⟨_, _, rfl, k18⟩ k19 rfl
        have kd := k18.tr0 k19
        walk_at "s"
        refine ⟨_, _, _, _, rfl, p1, p2, p5, one, other, price, qs, wide, rfl, rfl, rfl, rfl, LstD.kp kd (fun z => z) A1, LstD.kp kd (fun z => z) A2, LstD.kp kd (fun z => z) L5, by omega, by omega, by omega, w5, oc, tc, hq, fun H20 k20 => ?_⟩
        have ke := kd.tr0 k20
        walk_at "s"
        refine ⟨_, _, _, _, rfl, p1, p2, p4, one, other, price, qs, wide, rfl, rfl, rfl, rfl, LstD.kp ke (fun z => z) A1, LstD.kp ke (fun z => z) A2, LstD.kp ke (fun z => z) L4', by omega, by omega, by omega, w5, oc, tc, hq, fun H21 k21 => ?_⟩
        walk_at "s"
        refine ⟨_, _, rfl, no, no, .int (costI one other price qs), .int _, .int _, Ok.int (n := 7) _, by decide, fun H22 k22 => ?_⟩
        walk_at "s"
        exact ⟨_, _, rfl, (ke.tr0 k21).tr0 k22⟩
      · rintro σ H18 ⟨_, _, rfl, k18⟩
        have kd : Kp (at1 l) H9 H18 := kc.k.tr0 k18
        walk_at "s"
        refine w_neS (LstD.kp k18 (fun z => z) L5).dg (LstD.kp k18 (fun z => z) L4').dg (n := 4) (.lst (by rw [List.length_map]; omega) ?_) (by decide) ?_
        · intro d hd
          obtain ⟨p, _, rfl⟩ := List.mem_map.mp hd
          exact .tup (by simp) fun d hd => by
            simp only [List.mem_cons, List.not_mem_nil, or_false] at hd
            rcases hd with rfl | rfl <;> exact .int _
        walk_at "s"
        intro t5 H19 f19 k19 h19
        have ke := kd.tr0 k19
        walk_at "s"
        refine w_neS (d := .tuple [palD one, palD other]) (n := 5) (G := fun _ => True) (G' := fun _ => True) (.tup (SqT.of h19) (.cons ((LstD.kp ke n1 L19).dg.mono fun _ _ => trivial) (.cons ((LstD.kp ke n2 L29).dg.mono fun _ _ => trivial) .nil)))
          (.tup (SqT.of (ke.fix rfl h9)) (.cons ((LstD.kp ke m1 C19).dg.mono fun _ _ => trivial) (.cons ((LstD.kp ke m2 C29).dg.mono fun _ _ => trivial) .nil))) (.tup (by simp) ?_) (by decide) ?_
        · intro d hd
          simp only [List.mem_cons, List.not_mem_nil, or_false] at hd
          rcases hd with rfl | rfl
          · exact ok_pal oc (by omega) (by omega)
          · exact ok_pal tc (by omega) (by omega)
        walk_at "s"
        exact ⟨_, _, _, _, _, _, rfl, ke, (R17.kp k18 fun z => z).kp k19 fun z => z⟩
    · rintro σ H' ⟨_, _, _, _, _, _, rfl, k10, R10⟩
      walk_at "s"
      refine ⟨_, _, _, _, _, _, _, _, _, _, _, rfl, ?_⟩
      refine Kp.tr (N := at1 l) k09.k k10 fun x hx => .inr ?_
      cases hx
      exact (k02.free f3)
  · rintro σ H' ⟨_, _, _, _, _, _, _, _, _, _, _, rfl, k1⟩
    walk_at "s"
    exact q H'

end Fc
namespace Fc
open PySem PySem.Spec PyProof.Rows L2 RZ
theorem blk_here {N : List Str} {sc scope : Scope} {own : List (Str × Nat)} (h : blkC N sc scope own = true) : BlkOk N sc scope own := blkOk_by h
def top (i : Nat) : Stmt := PySem.Challenge.pw_fewcolours_k68_what_a_change_costs.main.body.getD i (.Pass ⟨0, 0, 0, 0⟩)
abbrev s_apart : Stmt := top 1
theorem sc_apart : FnScope ["one", "other", "a", "b"] ["one", "other"] (defScope s_apart) := ⟨rfl, rfl, rfl, by decide +kernel, rfl, by decide +kernel, by decide +kernel⟩
abbrev s_cost_of : Stmt := top 3
theorem sc_cost_of : FnScope ["one", "other", "price", "pairs", "turned", "i", "j"] ["one", "other", "price", "pairs"] (defScope s_cost_of) := ⟨rfl, rfl, rfl, by decide +kernel, rfl, by decide +kernel, by decide +kernel⟩
abbrev s_law_left : Stmt := top 6
theorem sc_law_left : FnScope ["script", "k", "cell"] ["script", "k"] (defScope s_law_left) := ⟨rfl, rfl, rfl, by decide +kernel, rfl, by decide +kernel, by decide +kernel⟩
abbrev s_law_mix : Stmt := top 5
theorem sc_law_mix : FnScope ["cell", "k", "m"] ["cell", "k"] (defScope s_law_mix) := ⟨rfl, rfl, rfl, by decide +kernel, rfl, by decide +kernel, by decide +kernel⟩
abbrev s_law_pick : Stmt := top 7
theorem sc_law_pick : FnScope ["left", "many", "digit"] ["left", "many"] (defScope s_law_pick) := ⟨rfl, rfl, rfl, by decide +kernel, rfl, by decide +kernel, by decide +kernel⟩
abbrev s_law_same : Stmt := top 11
theorem sc_law_same : FnScope ["found", "due", "one", "other"] ["found", "due"] (defScope s_law_same) := ⟨rfl, rfl, rfl, by decide +kernel, rfl, by decide +kernel, by decide +kernel⟩
abbrev s_law_kind : Stmt := top 8
theorem sc_law_kind : FnScope ["left"] ["left"] (defScope s_law_kind) := ⟨rfl, rfl, rfl, by decide +kernel, rfl, by decide +kernel, by decide +kernel⟩
abbrev s_law_colour : Stmt := top 9
theorem sc_law_colour : FnScope ["left", "kind", "wide", "span", "place"] ["left", "kind"] (defScope s_law_colour) := ⟨rfl, rfl, rfl, by decide +kernel, rfl, by decide +kernel, by decide +kernel⟩
abbrev s_law_few : Stmt := top 12
theorem sc_law_few : FnScope ["left", "kind", "most", "found", "k", "colour"] ["left", "kind", "most"] (defScope s_law_few) := ⟨rfl, rfl, rfl, by decide +kernel, rfl, by decide +kernel, by decide +kernel⟩
abbrev s_law_two : Stmt := top 13
theorem sc_law_two : FnScope ["left", "most", "kind", "one", "other", "k"] ["left", "most"] (defScope s_law_two) := ⟨rfl, rfl, rfl, by decide +kernel, rfl, by decide +kernel, by decide +kernel⟩
abbrev s_law_apart : Stmt := top 10
theorem sc_law_apart : FnScope ["one", "other", "a", "b"] ["one", "other"] (defScope s_law_apart) := ⟨rfl, rfl, rfl, by decide +kernel, rfl, by decide +kernel, by decide +kernel⟩
abbrev s_law_price : Stmt := top 14
theorem sc_law_price : FnScope ["left", "one", "other", "i", "j", "near", "some"] ["left", "one", "other"] (defScope s_law_price) := ⟨rfl, rfl, rfl, by decide +kernel, rfl, by decide +kernel, by decide +kernel⟩
abbrev s_law_pairs : Stmt := top 15
theorem sc_law_pairs : FnScope ["left", "one", "other", "free", "found", "i"] ["left", "one", "other"] (defScope s_law_pairs) := ⟨rfl, rfl, rfl, by decide +kernel, rfl, by decide +kernel, by decide +kernel⟩
abbrev s_law_cost : Stmt := top 16
theorem sc_law_cost : FnScope ["one", "other", "price", "pairs", "turned", "lonely", "i", "j"] ["one", "other", "price", "pairs"] (defScope s_law_cost) := ⟨rfl, rfl, rfl, by decide +kernel, rfl, by decide +kernel, by decide +kernel⟩
abbrev s_law_k68 : Stmt := top 17
theorem sc_law_k68 : FnScope ["script", "k", "left", "one", "other", "kept", "turn", "price", "pairs", "handed", "again", "found"] ["script"] (defScope s_law_k68) := ⟨rfl, rfl, rfl, by decide +kernel, rfl, by decide +kernel, by decide +kernel⟩
structure Txt (K : PySem.W.Frag) (mg : Str → Option Value) (ad : Nat → Addr) (fd : Nat → FuncData) : Prop where
  F_apart : Fun K "apart" "apart" s_apart (ad 0) (fd 0)
  b_apart : Binds K (fd 0) ["one", "other"] []
  m_apart : mg "apart" = some (.ref (ad 0))
  F_cost_of : Fun K "cost_of" "cost_of" s_cost_of (ad 1) (fd 1)
  b_cost_of : Binds K (fd 1) ["one", "other", "price", "pairs"] []
  m_cost_of : mg "cost_of" = some (.ref (ad 1))
  F_law_left : Fun K "_law_left" "_law_left" s_law_left (ad 2) (fd 2)
  b_law_left : Binds K (fd 2) ["script", "k"] []
  m_law_left : mg "_law_left" = some (.ref (ad 2))
  F_law_mix : Fun K "_law_mix" "_law_mix" s_law_mix (ad 3) (fd 3)
  b_law_mix : Binds K (fd 3) ["cell", "k"] []
  m_law_mix : mg "_law_mix" = some (.ref (ad 3))
  F_law_pick : Fun K "_law_pick" "_law_pick" s_law_pick (ad 4) (fd 4)
  b_law_pick : Binds K (fd 4) ["left", "many"] []
  m_law_pick : mg "_law_pick" = some (.ref (ad 4))
  F_law_same : Fun K "_law_same" "_law_same" s_law_same (ad 5) (fd 5)
  b_law_same : Binds K (fd 5) ["found", "due"] []
  m_law_same : mg "_law_same" = some (.ref (ad 5))
  F_law_kind : Fun K "_law_kind" "_law_kind" s_law_kind (ad 6) (fd 6)
  b_law_kind : Binds K (fd 6) ["left"] []
  m_law_kind : mg "_law_kind" = some (.ref (ad 6))
  F_law_colour : Fun K "_law_colour" "_law_colour" s_law_colour (ad 7) (fd 7)
  b_law_colour : Binds K (fd 7) ["left", "kind"] []
  m_law_colour : mg "_law_colour" = some (.ref (ad 7))
  F_law_few : Fun K "_law_few" "_law_few" s_law_few (ad 8) (fd 8)
  b_law_few : Binds K (fd 8) ["left", "kind", "most"] []
  m_law_few : mg "_law_few" = some (.ref (ad 8))
  F_law_two : Fun K "_law_two" "_law_two" s_law_two (ad 9) (fd 9)
  b_law_two : Binds K (fd 9) ["left", "most"] []
  m_law_two : mg "_law_two" = some (.ref (ad 9))
  F_law_apart : Fun K "_law_apart" "_law_apart" s_law_apart (ad 10) (fd 10)
  b_law_apart : Binds K (fd 10) ["one", "other"] []
  m_law_apart : mg "_law_apart" = some (.ref (ad 10))
  F_law_price : Fun K "_law_price" "_law_price" s_law_price (ad 11) (fd 11)
  b_law_price : Binds K (fd 11) ["left", "one", "other"] []
  m_law_price : mg "_law_price" = some (.ref (ad 11))
  F_law_pairs : Fun K "_law_pairs" "_law_pairs" s_law_pairs (ad 12) (fd 12)
  b_law_pairs : Binds K (fd 12) ["left", "one", "other"] []
  m_law_pairs : mg "_law_pairs" = some (.ref (ad 12))
  F_law_cost : Fun K "_law_cost" "_law_cost" s_law_cost (ad 13) (fd 13)
  b_law_cost : Binds K (fd 13) ["one", "other", "price", "pairs"] []
  m_law_cost : mg "_law_cost" = some (.ref (ad 13))
  F_law_k68 : Fun K "law" "law" s_law_k68 (ad 14) (fd 14)
  b_law_k68 : Binds K (fd 14) ["script"] []
  m_law_k68 : mg "law" = some (.ref (ad 14))
  n_abs : mg "abs" = none
  n_all : mg "all" = none
  n_bool : mg "bool" = none
  n_int : mg "int" = none
  n_isinstance : mg "isinstance" = none
  n_len : mg "len" = none
  n_list : mg "list" = none
  n_max : mg "max" = none
  n_min : mg "min" = none
  n_range : mg "range" = none
  n_str : mg "str" = none
  n_sum : mg "sum" = none
  n_tuple : mg "tuple" = none
  n_zip : mg "zip" = none
theorem dv_apart {P : Program} {w : World} {K : PySem.W.Frag} {mg : Str → Option Value} {base : Heap} {ad : Nat → Addr} {fd : Nat → FuncData} (T : Txt K mg ad fd) {cdv : Value} {A : Around} {outer : List Env} {s : Shared} {H : Hp} {E : XK} (hr : Room 0 (A.deeper (envOfC "apart" (defScope s_apart) s.heap.objs.size (ad 0) cdv))) :
  PSs (cxOf CX0 P w K mg base ["one", "other", "a", "b"] "apart" (defScope s_apart) (ad 0) cdv A outer s H E).nox (defBody s_apart) (rd_apart K) :=
 (pss_one (ps_ret (pe_callB (cr_sum rfl) (by rfl) T.n_sum (by decide +kernel) (pa_cons (pe_lc (own := [("a", 2), ("b", 3)]) (g := (gTup K 2 (gCons (gName 2) (gCons (gName 3) gNil)))) (tt := tYes) rfl sc_apart.nd (pi_zipA (by rfl) T.n_zip (pa_cons (pv 0) (pa_cons (pv 1) pa_nil))) (blk_here (by kernel_rfl)) (fun _ _ _ _ _ => (pg_tup rfl (pgs_cons (pg_name (i := 2) sc_apart.nd rfl (Or.inl rfl)) (pgs_cons (pg_name (i := 3) sc_apart.nd rfl (Or.inl rfl)) pgs_nil)))) (fun _ _ _ _ _ => pts_nil) (fun _ _ _ _ _ => (pe_op op_mul (pe_op op_sub (pv 2) (pv 3)) (pe_op op_sub (pv 2) (pv 3))))) pa_nil))))
theorem ok_apart {P : Program} {w : World} {K : PySem.W.Frag} {mg : Str → Option Value} {base : Heap} {ad : Nat → Addr} {fd : Nat → FuncData} (T : Txt K mg ad fd) : FnOk P w K mg base CX0 1 (ad 0) (fd 0) ["one", "other"] (sp_apart K) :=
  T.F_apart.ok sc_apart (fun vs H Q E h => by
    obtain ⟨_, _, rfl, _⟩ := h
    rfl) (fun cdv A outer s H vs Q E hr h => ⟨_, dv_apart T hr, sm_apart h⟩)
theorem dv_cost_of {P : Program} {w : World} {K : PySem.W.Frag} {mg : Str → Option Value} {base : Heap} {ad : Nat → Addr} {fd : Nat → FuncData} (T : Txt K mg ad fd) {cdv : Value} {A : Around} {outer : List Env} {s : Shared} {H : Hp} {E : XK} (hr : Room 1 (A.deeper (envOfC "cost_of" (defScope s_cost_of) s.heap.objs.size (ad 1) cdv))) :
  PSs (cxOf CX0 P w K mg base ["one", "other", "price", "pairs", "turned", "i", "j"] "cost_of" (defScope s_cost_of) (ad 1) cdv A outer s H E).nox (defBody s_cost_of) (rd_cost_of K) :=
 (pss_cons (ps_asg (pe_callB (cr_sum rfl) (by rfl) T.n_sum (by decide +kernel) (pa_cons (pe_lc (own := [("i", 5), ("j", 6)]) (g := (gTup K 2 (gCons (gName 5) (gCons (gName 6) gNil)))) (tt := tYes) rfl sc_cost_of.nd (pi_list (pv 3)) (blk_here (by kernel_rfl)) (fun _ _ _ _ _ => (pg_tup rfl (pgs_cons (pg_name (i := 5) sc_cost_of.nd rfl (Or.inl rfl)) (pgs_cons (pg_name (i := 6) sc_cost_of.nd rfl (Or.inl rfl)) pgs_nil)))) (fun _ _ _ _ _ => pts_nil) (fun _ _ _ _ _ => (pe_call (ok_apart T) (hr.mono (by decide)) (by rfl) T.m_apart T.F_apart.kp T.b_apart .nil pass0 (pa_cons (pe_ix ix_list (pv 0) (pv 5) (fun _ _ => rfl)) (pa_cons (pe_ix ix_list (pv 1) (pv 6) (fun _ _ => rfl)) pa_nil))))) pa_nil)) (pg_name (i := 4) sc_cost_of.nd rfl (Or.inl rfl)))
 (pss_one (ps_ret (pe_op op_add (pv 4) (pe_op op_mul (pv 2) (pe_op op_sub (pe_op op_add (pe_callB call_len_seq (by rfl) T.n_len (by decide +kernel) (pa_cons (pv 0) pa_nil)) (pe_callB call_len_seq (by rfl) T.n_len (by decide +kernel) (pa_cons (pv 1) pa_nil))) (pe_op op_mul pe_int (pe_callB call_len_seq (by rfl) T.n_len (by decide +kernel) (pa_cons (pv 3) pa_nil)))))))))
theorem ok_cost_of {P : Program} {w : World} {K : PySem.W.Frag} {mg : Str → Option Value} {base : Heap} {ad : Nat → Addr} {fd : Nat → FuncData} (T : Txt K mg ad fd) : FnOk P w K mg base CX0 2 (ad 1) (fd 1) ["one", "other", "price", "pairs"] (sp_cost_of K) :=
  T.F_cost_of.ok sc_cost_of (fun vs H Q E h => by
    obtain ⟨_, _, _, _, rfl, _⟩ := h
    rfl) (fun cdv A outer s H vs Q E hr h => ⟨_, dv_cost_of T hr, sm_cost_of h⟩)
theorem dv_law_left {P : Program} {w : World} {K : PySem.W.Frag} {mg : Str → Option Value} {base : Heap} {ad : Nat → Addr} {fd : Nat → FuncData} (T : Txt K mg ad fd) {cdv : Value} {A : Around} {outer : List Env} {s : Shared} {H : Hp} {E : XK} (hr : Room 0 (A.deeper (envOfC "_law_left" (defScope s_law_left) s.heap.objs.size (ad 2) cdv))) :
  PSs (cxOf CX0 P w K mg base ["script", "k", "cell"] "_law_left" (defScope s_law_left) (ad 2) cdv A outer s H E).nox (defBody s_law_left) (rd_law_left K) :=
 (pss_cons (ps_asg (pe_ifExp (pt_cmpR op_lt (pv 1) (pe_callB call_len_seq (by rfl) T.n_len (by decide +kernel) (pa_cons (pv 0) pa_nil)) (nomark _)) (pe_ix ix_list (pv 0) (pv 1) (fun _ _ => rfl)) pe_int) (pg_name (i := 2) sc_law_left.nd rfl (Or.inl rfl)))
 (pss_one (ps_ret (pe_lst (pa_cons (pe_op op_mul (pe_callB call_abs (by rfl) T.n_abs (by decide +kernel) (pa_cons (pv 2) pa_nil)) (pe_callTy call_int1 (by rfl) T.n_int (by decide +kernel) (pa_cons (pe_cmpR op_ge (pe_callB call_abs (by rfl) T.n_abs (by decide +kernel) (pa_cons (pv 2) pa_nil)) (pe_op op_pow pe_int pe_int) (nomark _)) pa_nil))) (pa_cons (pe_op op_add (pv 2) (pe_op op_mul pe_int (pv 1))) (pa_cons pe_int pa_nil)))))))
theorem ok_law_left {P : Program} {w : World} {K : PySem.W.Frag} {mg : Str → Option Value} {base : Heap} {ad : Nat → Addr} {fd : Nat → FuncData} (T : Txt K mg ad fd) : FnOk P w K mg base CX0 1 (ad 2) (fd 2) ["script", "k"] (sp_law_left K) :=
  T.F_law_left.ok sc_law_left (fun vs H Q E h => by
    obtain ⟨_, _, rfl, _⟩ := h
    rfl) (fun cdv A outer s H vs Q E hr h => ⟨_, dv_law_left T hr, sm_law_left h⟩)
theorem dv_law_mix {P : Program} {w : World} {K : PySem.W.Frag} {mg : Str → Option Value} {base : Heap} {ad : Nat → Addr} {fd : Nat → FuncData} (T : Txt K mg ad fd) {cdv : Value} {A : Around} {outer : List Env} {s : Shared} {H : Hp} {E : XK} (hr : Room 0 (A.deeper (envOfC "_law_mix" (defScope s_law_mix) s.heap.objs.size (ad 3) cdv))) :
  PSs (cxOf CX0 P w K mg base ["cell", "k", "m"] "_law_mix" (defScope s_law_mix) (ad 3) cdv A outer s H E).nox (defBody s_law_mix) (rd_law_mix K) :=
 (pss_cons (ps_asg (pe_op op_mod (pe_op op_mul (pe_op op_add (pe_op op_add (pe_op op_mod (pv 0) pe_int) (pe_op op_mul (pe_op op_mul (pv 1) (pv 1)) pe_int)) pe_int) pe_int) pe_int) (pg_name (i := 2) sc_law_mix.nd rfl (Or.inl rfl)))
 (pss_one (ps_ret (pe_op op_mod (pe_op op_mul (pv 2) (pv 2)) pe_int))))
theorem ok_law_mix {P : Program} {w : World} {K : PySem.W.Frag} {mg : Str → Option Value} {base : Heap} {ad : Nat → Addr} {fd : Nat → FuncData} (T : Txt K mg ad fd) : FnOk P w K mg base CX0 1 (ad 3) (fd 3) ["cell", "k"] (sp_law_mix K) :=
  T.F_law_mix.ok sc_law_mix (fun vs H Q E h => by
    obtain ⟨_, _, rfl, _⟩ := h
    rfl) (fun cdv A outer s H vs Q E hr h => ⟨_, dv_law_mix T hr, sm_law_mix h⟩)
theorem dv_law_pick {P : Program} {w : World} {K : PySem.W.Frag} {mg : Str → Option Value} {base : Heap} {ad : Nat → Addr} {fd : Nat → FuncData} (T : Txt K mg ad fd) {cdv : Value} {A : Around} {outer : List Env} {s : Shared} {H : Hp} {E : XK} (hr : Room 1 (A.deeper (envOfC "_law_pick" (defScope s_law_pick) s.heap.objs.size (ad 4) cdv))) :
  PSs (cxOf CX0 P w K mg base ["left", "many", "digit"] "_law_pick" (defScope s_law_pick) (ad 4) cdv A outer s H E).nox (defBody s_law_pick) (rd_law_pick K) :=
 (pss_cons (ps_asg (pe_op op_add (pe_ix ix_list (pv 0) pe_int (fun _ _ => rfl)) pe_int) (pg_sub (pv 0) pe_int set_list))
 (pss_cons (ps_if (pt_cmpR op_gt (pe_ix ix_list (pv 0) pe_int (fun _ _ => rfl)) pe_int (nomark _)) (pss_cons (ps_asg (pe_op op_mod (pe_ix ix_list (pv 0) pe_int (fun _ _ => rfl)) (pv 1)) (pg_name (i := 2) sc_law_pick.nd rfl (Or.inl rfl)))
 (pss_cons (ps_asg (pe_op op_fdiv (pe_ix ix_list (pv 0) pe_int (fun _ _ => rfl)) (pv 1)) (pg_sub (pv 0) pe_int set_list))
 (pss_one (ps_ret (pv 2))))) pss_nil)
 (pss_one (ps_ret (pe_op op_mod (pe_op op_fdiv (pe_call (ok_law_mix T) (hr.mono (by decide)) (by rfl) T.m_law_mix T.F_law_mix.kp T.b_law_mix .nil pass0 (pa_cons (pe_call (ok_law_mix T) (hr.mono (by decide)) (by rfl) T.m_law_mix T.F_law_mix.kp T.b_law_mix .nil pass0 (pa_cons (pe_ix ix_list (pv 0) pe_int (fun _ _ => rfl)) (pa_cons (pe_ix ix_list (pv 0) pe_int (fun _ _ => rfl)) pa_nil))) (pa_cons (pe_op op_add (pe_ix ix_list (pv 0) pe_int (fun _ _ => rfl)) pe_int) pa_nil))) pe_int) (pv 1))))))
theorem ok_law_pick {P : Program} {w : World} {K : PySem.W.Frag} {mg : Str → Option Value} {base : Heap} {ad : Nat → Addr} {fd : Nat → FuncData} (T : Txt K mg ad fd) : FnOk P w K mg base CX0 2 (ad 4) (fd 4) ["left", "many"] (sp_law_pick K) :=
  T.F_law_pick.ok sc_law_pick (fun vs H Q E h => by
    obtain ⟨_, _, rfl, _⟩ := h
    rfl) (fun cdv A outer s H vs Q E hr h => ⟨_, dv_law_pick T hr, sm_law_pick h⟩)
theorem dv_law_same {P : Program} {w : World} {K : PySem.W.Frag} {mg : Str → Option Value} {base : Heap} {ad : Nat → Addr} {fd : Nat → FuncData} (T : Txt K mg ad fd) {j : Nat} {sp_rec : Sp} (hj : 0 ≤ j) (OK_self : FnOk P w K mg base CX0 j (ad 5) (fd 5) ["found", "due"] sp_rec) {cdv : Value} {A : Around} {outer : List Env} {s : Shared} {H : Hp} {E : XK} (hr : Room j (A.deeper (envOfC "_law_same" (defScope s_law_same) s.heap.objs.size (ad 5) cdv))) :
  PSs (cxOf CX0 P w K mg base ["found", "due", "one", "other"] "_law_same" (defScope s_law_same) (ad 5) cdv A outer s H E).nox (defBody s_law_same) (rd_law_same K sp_rec) :=
 (pss_cons (ps_if (pt_val (pe_callB call_isiT (by rfl) T.n_isinstance (by decide +kernel) (pa_cons (pv 1) (pa_cons (pe_tup (pa_cons (pe_bltn (v := .ty "list") (by rfl) T.n_list (by decide +kernel) rfl) (pa_cons (pe_bltn (v := .ty "tuple") (by rfl) T.n_tuple (by decide +kernel) rfl) pa_nil))) pa_nil)))) (pss_cons (ps_if (PW.pt (pw_or (pt_cmpR op_ne (pe_callB call_isi (by rfl) T.n_isinstance (by decide +kernel) (pa_cons (pv 0) (pa_cons (pe_bltn (v := .ty "list") (by rfl) T.n_list (by decide +kernel) rfl) pa_nil))) (pe_callB call_isi (by rfl) T.n_isinstance (by decide +kernel) (pa_cons (pv 1) (pa_cons (pe_bltn (v := .ty "list") (by rfl) T.n_list (by decide +kernel) rfl) pa_nil))) (nomark _)) (pw_or1 (pt_cmpR op_ne (pe_callB call_isi (by rfl) T.n_isinstance (by decide +kernel) (pa_cons (pv 0) (pa_cons (pe_bltn (v := .ty "tuple") (by rfl) T.n_tuple (by decide +kernel) rfl) pa_nil))) (pe_callB call_isi (by rfl) T.n_isinstance (by decide +kernel) (pa_cons (pv 1) (pa_cons (pe_bltn (v := .ty "tuple") (by rfl) T.n_tuple (by decide +kernel) rfl) pa_nil))) (nomark _))))) (pss_one (ps_ret pe_bl)) pss_nil)
 (pss_one (ps_ret (pe_and (pe_cmpR op_eq (pe_callB call_len_seq (by rfl) T.n_len (by decide +kernel) (pa_cons (pv 0) pa_nil)) (pe_callB call_len_seq (by rfl) T.n_len (by decide +kernel) (pa_cons (pv 1) pa_nil)) (nomark _)) (pe_one (pe_callB (cr_all rfl) (by rfl) T.n_all (by decide +kernel) (pa_cons (pe_lc (own := [("one", 2), ("other", 3)]) (g := (gTup K 2 (gCons (gName 2) (gCons (gName 3) gNil)))) (tt := tYes) rfl sc_law_same.nd (pi_zipA (by rfl) T.n_zip (pa_cons (pv 0) (pa_cons (pv 1) pa_nil))) (blk_here (by kernel_rfl)) (fun _ _ _ _ _ => (pg_tup rfl (pgs_cons (pg_name (i := 2) sc_law_same.nd rfl (Or.inl rfl)) (pgs_cons (pg_name (i := 3) sc_law_same.nd rfl (Or.inl rfl)) pgs_nil)))) (fun _ _ _ _ _ => pts_nil) (fun _ _ _ _ _ => (pe_call OK_self hr (by rfl) T.m_law_same T.F_law_same.kp T.b_law_same .nil pass0 (pa_cons (pv 2) (pa_cons (pv 3) pa_nil))))) pa_nil))))))) pss_nil)
 (pss_cons (ps_if (PW.pt (pw_or (pt_cmpR op_isN1 (pv 1) pe_non (nomark _)) (pw_or1 (pt_val (pe_callB call_isi (by rfl) T.n_isinstance (by decide +kernel) (pa_cons (pv 1) (pa_cons (pe_bltn (v := .ty "str") (by rfl) T.n_str (by decide +kernel) rfl) pa_nil))))))) (pss_one (ps_ret (pe_and (pe_cmpR (op_eqD hr.units) (pv 0) (pv 1) (nomark _)) (pe_one (pe_cmpR op_eq (pe_callB call_isi (by rfl) T.n_isinstance (by decide +kernel) (pa_cons (pv 0) (pa_cons (pe_bltn (v := .ty "str") (by rfl) T.n_str (by decide +kernel) rfl) pa_nil))) (pe_callB call_isi (by rfl) T.n_isinstance (by decide +kernel) (pa_cons (pv 1) (pa_cons (pe_bltn (v := .ty "str") (by rfl) T.n_str (by decide +kernel) rfl) pa_nil))) (nomark _)))))) pss_nil)
 (pss_cons (ps_if (pt_val (pe_callB call_isi (by rfl) T.n_isinstance (by decide +kernel) (pa_cons (pv 1) (pa_cons (pe_bltn (v := .ty "bool") (by rfl) T.n_bool (by decide +kernel) rfl) pa_nil)))) (pss_one (ps_ret (pe_and (pe_callB call_isi (by rfl) T.n_isinstance (by decide +kernel) (pa_cons (pv 0) (pa_cons (pe_bltn (v := .ty "bool") (by rfl) T.n_bool (by decide +kernel) rfl) pa_nil))) (pe_one (pe_cmpR (op_eqD hr.units) (pv 0) (pv 1) (nomark _)))))) pss_nil)
 (pss_one (ps_ret (pe_and (pe_callB call_isi (by rfl) T.n_isinstance (by decide +kernel) (pa_cons (pv 0) (pa_cons (pe_bltn (v := .ty "int") (by rfl) T.n_int (by decide +kernel) rfl) pa_nil))) (pe_and (pe_not (pe_callB call_isi (by rfl) T.n_isinstance (by decide +kernel) (pa_cons (pv 0) (pa_cons (pe_bltn (v := .ty "bool") (by rfl) T.n_bool (by decide +kernel) rfl) pa_nil)))) (pe_one (pe_cmpR (op_eqD hr.units) (pv 0) (pv 1) (nomark _))))))))))
theorem okn_law_same {P : Program} {w : World} {K : PySem.W.Frag} {mg : Str → Option Value} {base : Heap} {ad : Nat → Addr} {fd : Nat → FuncData} (T : Txt K mg ad fd) : ∀ n : Nat, FnOk P w K mg base CX0 (0 + n + 1) (ad 5) (fd 5) ["found", "due"] (spn_law_same K n)
  | 0 => T.F_law_same.ok sc_law_same (fun vs H Q E h => by
    obtain ⟨_, _, rfl, _⟩ := h
    rfl) (fun cdv A outer s H vs Q E hr h => (no_law_same h).elim)
  | n + 1 => T.F_law_same.ok sc_law_same (fun vs H Q E h => by
    obtain ⟨_, _, rfl, _⟩ := h
    rfl) (fun cdv A outer s H vs Q E hr h => ⟨_, dv_law_same T (by omega) (okn_law_same T n) (hr.mono (by omega)), sm_law_same n h⟩)
theorem ok_law_same {P : Program} {w : World} {K : PySem.W.Frag} {mg : Str → Option Value} {base : Heap} {ad : Nat → Addr} {fd : Nat → FuncData} (T : Txt K mg ad fd) : FnOk P w K mg base CX0 9 (ad 5) (fd 5) ["found", "due"] (sp_law_same K) := okn_law_same T 8
theorem dv_law_kind {P : Program} {w : World} {K : PySem.W.Frag} {mg : Str → Option Value} {base : Heap} {ad : Nat → Addr} {fd : Nat → FuncData} (T : Txt K mg ad fd) {cdv : Value} {A : Around} {outer : List Env} {s : Shared} {H : Hp} {E : XK} (hr : Room 2 (A.deeper (envOfC "_law_kind" (defScope s_law_kind) s.heap.objs.size (ad 6) cdv))) :
  PSs (cxOf CX0 P w K mg base ["left"] "_law_kind" (defScope s_law_kind) (ad 6) cdv A outer s H E).nox (defBody s_law_kind) (rd_law_kind K) :=
 (pss_one (ps_ret (pe_tup (pa_cons (pe_ix ix_list (pe_lst (pa_cons pe_int (pa_cons pe_int (pa_cons pe_int (pa_cons pe_int (pa_cons pe_int (pa_cons pe_int (pa_cons pe_int (pa_cons pe_int pa_nil))))))))) (pe_call (ok_law_pick T) (hr.mono (by decide)) (by rfl) T.m_law_pick T.F_law_pick.kp T.b_law_pick .nil pass0 (pa_cons (pv 0) (pa_cons pe_int pa_nil))) (fun _ _ => rfl)) (pa_cons (pe_ix ix_list (pe_lst (pa_cons pe_int (pa_cons pe_int (pa_cons pe_int (pa_cons pe_int (pa_cons pe_int (pa_cons pe_int pa_nil))))))) (pe_call (ok_law_pick T) (hr.mono (by decide)) (by rfl) T.m_law_pick T.F_law_pick.kp T.b_law_pick .nil pass0 (pa_cons (pv 0) (pa_cons pe_int pa_nil))) (fun _ _ => rfl)) pa_nil)))))
theorem ok_law_kind {P : Program} {w : World} {K : PySem.W.Frag} {mg : Str → Option Value} {base : Heap} {ad : Nat → Addr} {fd : Nat → FuncData} (T : Txt K mg ad fd) : FnOk P w K mg base CX0 3 (ad 6) (fd 6) ["left"] (sp_law_kind K) :=
  T.F_law_kind.ok sc_law_kind (fun vs H Q E h => by
    obtain ⟨_, rfl, _⟩ := h
    rfl) (fun cdv A outer s H vs Q E hr h => ⟨_, dv_law_kind T hr, sm_law_kind h⟩)
theorem dv_law_colour {P : Program} {w : World} {K : PySem.W.Frag} {mg : Str → Option Value} {base : Heap} {ad : Nat → Addr} {fd : Nat → FuncData} (T : Txt K mg ad fd) {cdv : Value} {A : Around} {outer : List Env} {s : Shared} {H : Hp} {E : XK} (hr : Room 2 (A.deeper (envOfC "_law_colour" (defScope s_law_colour) s.heap.objs.size (ad 7) cdv))) :
  PSs (cxOf CX0 P w K mg base ["left", "kind", "wide", "span", "place"] "_law_colour" (defScope s_law_colour) (ad 7) cdv A outer s H E).nox (defBody s_law_colour) (rd_law_colour K) :=
 (pss_cons (ps_asg (pv 1) (pg_tup rfl (pgs_cons (pg_name (i := 2) sc_law_colour.nd rfl (Or.inl rfl)) (pgs_cons (pg_name (i := 3) sc_law_colour.nd rfl (Or.inr rfl)) pgs_nil))))
 (pss_one (ps_ret (pe_callTy call_tuple_of (by rfl) T.n_tuple (by decide +kernel) (pa_cons (pe_lc (own := [("place", 4)]) (g := (gName 4)) (tt := tYes) rfl sc_law_colour.nd (pi_range1 (by rfl) T.n_range (pa_cons (pv 2) pa_nil)) (blk_here (by kernel_rfl)) (fun _ _ _ _ _ => (pg_name (i := 4) sc_law_colour.nd rfl (Or.inl rfl))) (fun _ _ _ _ _ => pts_nil) (fun _ _ _ _ _ => (pe_ix ix_list (pe_lst (pa_cons (pe_call (ok_law_pick T) (hr.mono (by decide)) (by rfl) T.m_law_pick T.F_law_pick.kp T.b_law_pick .nil pass0 (pa_cons (pv 0) (pa_cons (pv 3) pa_nil))) (pa_cons pe_int pa_nil))) (pe_callTy call_int1 (by rfl) T.n_int (by decide +kernel) (pa_cons (pe_cmpR op_eq (pe_call (ok_law_pick T) (hr.mono (by decide)) (by rfl) T.m_law_pick T.F_law_pick.kp T.b_law_pick .nil pass0 (pa_cons (pv 0) (pa_cons pe_int pa_nil))) pe_int (nomark _)) pa_nil)) (fun _ _ => rfl)))) pa_nil)))))
theorem ok_law_colour {P : Program} {w : World} {K : PySem.W.Frag} {mg : Str → Option Value} {base : Heap} {ad : Nat → Addr} {fd : Nat → FuncData} (T : Txt K mg ad fd) : FnOk P w K mg base CX0 3 (ad 7) (fd 7) ["left", "kind"] (sp_law_colour K) :=
  T.F_law_colour.ok sc_law_colour (fun vs H Q E h => by
    obtain ⟨_, _, rfl, _⟩ := h
    rfl) (fun cdv A outer s H vs Q E hr h => ⟨_, dv_law_colour T hr, sm_law_colour h⟩)
theorem dv_law_few {P : Program} {w : World} {K : PySem.W.Frag} {mg : Str → Option Value} {base : Heap} {ad : Nat → Addr} {fd : Nat → FuncData} (T : Txt K mg ad fd) {cdv : Value} {A : Around} {outer : List Env} {s : Shared} {H : Hp} {E : XK} (hr : Room 3 (A.deeper (envOfC "_law_few" (defScope s_law_few) s.heap.objs.size (ad 8) cdv))) :
  PSs (cxOf CX0 P w K mg base ["left", "kind", "most", "found", "k", "colour"] "_law_few" (defScope s_law_few) (ad 8) cdv A outer s H E).nox (defBody s_law_few) (rd_law_few K) :=
 (pss_cons (ps_asg (pe_lst pa_nil) (pg_name (i := 3) sc_law_few.nd rfl (Or.inl rfl)))
 (pss_cons (ps_for PassesOwn.never rfl (pi_range1 (by rfl) T.n_range (pa_cons (pe_op op_add pe_int (pe_call (ok_law_pick T) (hr.mono (by decide)) (by rfl) T.m_law_pick T.F_law_pick.kp T.b_law_pick .nil pass0 (pa_cons (pv 0) (pa_cons (pv 2) pa_nil)))) pa_nil)) (pg_name (i := 4) sc_law_few.nd rfl (Or.inl rfl)) (pss_cons (ps_asg (pe_call (ok_law_colour T) (hr.mono (by decide)) (by rfl) T.m_law_colour T.F_law_colour.kp T.b_law_colour .nil pass0 (pa_cons (pv 0) (pa_cons (pv 1) pa_nil))) (pg_name (i := 5) sc_law_few.nd rfl (Or.inl rfl)))
 (Evl.pss_cut (ps_if (PW.pt (pw_and (pt_cmpR (op_neD hr.units) (pv 3) (pe_lst pa_nil) (nomark _)) (pw_and1 (pt_cmpR op_eq (pe_call (ok_law_pick T) (hr.mono (by decide)) (by rfl) T.m_law_pick T.F_law_pick.kp T.b_law_pick .nil pass0 (pa_cons (pv 0) (pa_cons pe_int pa_nil))) pe_int (nomark _))))) (pss_one (ps_asg (pe_ix ix_list (pv 3) (pe_call (ok_law_pick T) (hr.mono (by decide)) (by rfl) T.m_law_pick T.F_law_pick.kp T.b_law_pick .nil pass0 (pa_cons (pv 0) (pa_cons (pe_callB call_len_seq (by rfl) T.n_len (by decide +kernel) (pa_cons (pv 3) pa_nil)) pa_nil))) (fun _ _ => rfl)) (pg_name (i := 5) sc_law_few.nd rfl (Or.inl rfl)))) pss_nil)
 (pss_one (ps_expr (pe_bm PySem.F.plainAttrs_list PySem.F.slot_list_append PySem.F.type_list_append mt_append (pv 3) (pa_cons (pv 5) pa_nil)))))))
 (pss_one (ps_ret (pv 3)))))
theorem ok_law_few {P : Program} {w : World} {K : PySem.W.Frag} {mg : Str → Option Value} {base : Heap} {ad : Nat → Addr} {fd : Nat → FuncData} (T : Txt K mg ad fd) : FnOk P w K mg base CX0 4 (ad 8) (fd 8) ["left", "kind", "most"] (sp_law_few K) :=
  T.F_law_few.ok sc_law_few (fun vs H Q E h => by
    obtain ⟨_, _, _, rfl, _⟩ := h
    rfl) (fun cdv A outer s H vs Q E hr h => ⟨_, dv_law_few T hr, sm_law_few h⟩)
theorem dv_law_two {P : Program} {w : World} {K : PySem.W.Frag} {mg : Str → Option Value} {base : Heap} {ad : Nat → Addr} {fd : Nat → FuncData} (T : Txt K mg ad fd) {cdv : Value} {A : Around} {outer : List Env} {s : Shared} {H : Hp} {E : XK} (hr : Room 4 (A.deeper (envOfC "_law_two" (defScope s_law_two) s.heap.objs.size (ad 9) cdv))) :
  PSs (cxOf CX0 P w K mg base ["left", "most", "kind", "one", "other", "k"] "_law_two" (defScope s_law_two) (ad 9) cdv A outer s H E).nox (defBody s_law_two) (rd_law_two K) :=
 (pss_cons (ps_asg (pe_call (ok_law_kind T) (hr.mono (by decide)) (by rfl) T.m_law_kind T.F_law_kind.kp T.b_law_kind .nil pass0 (pa_cons (pv 0) pa_nil)) (pg_name (i := 2) sc_law_two.nd rfl (Or.inl rfl)))
 (pss_cons (ps_par (i := 3) (j := 4) rfl sc_law_two.nd rfl rfl (by decide) rfl rfl (pa_cons (pe_call (ok_law_few T) (hr.mono (by decide)) (by rfl) T.m_law_few T.F_law_few.kp T.b_law_few .nil pass0 (pa_cons (pv 0) (pa_cons (pv 2) (pa_cons (pv 1) pa_nil)))) (pa_cons (pe_call (ok_law_few T) (hr.mono (by decide)) (by rfl) T.m_law_few T.F_law_few.kp T.b_law_few .nil pass0 (pa_cons (pv 0) (pa_cons (pv 2) (pa_cons (pv 1) pa_nil)))) pa_nil)) rfl)
 (pss_cons (ps_for PassesOwn.never rfl (pi_range1 (by rfl) T.n_range (pa_cons (pe_callB call_len_seq (by rfl) T.n_len (by decide +kernel) (pa_cons (pv 4) pa_nil)) pa_nil)) (pg_name (i := 5) sc_law_two.nd rfl (Or.inl rfl)) (pss_one (ps_if (pt_cmpR op_eq (pe_call (ok_law_pick T) (hr.mono (by decide)) (by rfl) T.m_law_pick T.F_law_pick.kp T.b_law_pick .nil pass0 (pa_cons (pv 0) (pa_cons pe_int pa_nil))) pe_int (nomark _)) (pss_one (ps_asg (pe_ix ix_list (pv 3) (pe_call (ok_law_pick T) (hr.mono (by decide)) (by rfl) T.m_law_pick T.F_law_pick.kp T.b_law_pick .nil pass0 (pa_cons (pv 0) (pa_cons (pe_callB call_len_seq (by rfl) T.n_len (by decide +kernel) (pa_cons (pv 3) pa_nil)) pa_nil))) (fun _ _ => rfl)) (pg_sub (pv 4) (pv 5) set_list))) pss_nil)))
 (pss_one (ps_ret (pe_tup (pa_cons (pv 3) (pa_cons (pv 4) pa_nil))))))))
theorem ok_law_two {P : Program} {w : World} {K : PySem.W.Frag} {mg : Str → Option Value} {base : Heap} {ad : Nat → Addr} {fd : Nat → FuncData} (T : Txt K mg ad fd) : FnOk P w K mg base CX0 5 (ad 9) (fd 9) ["left", "most"] (sp_law_two K) :=
  T.F_law_two.ok sc_law_two (fun vs H Q E h => by
    obtain ⟨_, _, rfl, _⟩ := h
    rfl) (fun cdv A outer s H vs Q E hr h => ⟨_, dv_law_two T hr, sm_law_two h⟩)
theorem dv_law_apart {P : Program} {w : World} {K : PySem.W.Frag} {mg : Str → Option Value} {base : Heap} {ad : Nat → Addr} {fd : Nat → FuncData} (T : Txt K mg ad fd) {cdv : Value} {A : Around} {outer : List Env} {s : Shared} {H : Hp} {E : XK} (hr : Room 0 (A.deeper (envOfC "_law_apart" (defScope s_law_apart) s.heap.objs.size (ad 10) cdv))) :
  PSs (cxOf CX0 P w K mg base ["one", "other", "a", "b"] "_law_apart" (defScope s_law_apart) (ad 10) cdv A outer s H E).nox (defBody s_law_apart) (rd_law_apart K) :=
 (pss_one (ps_ret (pe_callB (cr_sum rfl) (by rfl) T.n_sum (by decide +kernel) (pa_cons (pe_lc (own := [("a", 2), ("b", 3)]) (g := (gTup K 2 (gCons (gName 2) (gCons (gName 3) gNil)))) (tt := tYes) rfl sc_law_apart.nd (pi_zipA (by rfl) T.n_zip (pa_cons (pv 0) (pa_cons (pv 1) pa_nil))) (blk_here (by kernel_rfl)) (fun _ _ _ _ _ => (pg_tup rfl (pgs_cons (pg_name (i := 2) sc_law_apart.nd rfl (Or.inl rfl)) (pgs_cons (pg_name (i := 3) sc_law_apart.nd rfl (Or.inl rfl)) pgs_nil)))) (fun _ _ _ _ _ => pts_nil) (fun _ _ _ _ _ => (pe_op op_mul (pe_op op_sub (pv 2) (pv 3)) (pe_op op_sub (pv 2) (pv 3))))) pa_nil))))
theorem ok_law_apart {P : Program} {w : World} {K : PySem.W.Frag} {mg : Str → Option Value} {base : Heap} {ad : Nat → Addr} {fd : Nat → FuncData} (T : Txt K mg ad fd) : FnOk P w K mg base CX0 1 (ad 10) (fd 10) ["one", "other"] (sp_law_apart K) :=
  T.F_law_apart.ok sc_law_apart (fun vs H Q E h => by
    obtain ⟨_, _, rfl, _⟩ := h
    rfl) (fun cdv A outer s H vs Q E hr h => ⟨_, dv_law_apart T hr, sm_law_apart h⟩)
theorem dv_law_price {P : Program} {w : World} {K : PySem.W.Frag} {mg : Str → Option Value} {base : Heap} {ad : Nat → Addr} {fd : Nat → FuncData} (T : Txt K mg ad fd) {cdv : Value} {A : Around} {outer : List Env} {s : Shared} {H : Hp} {E : XK} (hr : Room 2 (A.deeper (envOfC "_law_price" (defScope s_law_price) s.heap.objs.size (ad 11) cdv))) :
  PSs (cxOf CX0 P w K mg base ["left", "one", "other", "i", "j", "near", "some"] "_law_price" (defScope s_law_price) (ad 11) cdv A outer s H E).nox (defBody s_law_price) (rd_law_price K) :=
 (pss_cons (ps_par (i := 3) (j := 4) rfl sc_law_price.nd rfl rfl (by decide) rfl rfl (pa_cons (pe_call (ok_law_pick T) (hr.mono (by decide)) (by rfl) T.m_law_pick T.F_law_pick.kp T.b_law_pick .nil pass0 (pa_cons (pv 0) (pa_cons (pe_callB call_len_seq (by rfl) T.n_len (by decide +kernel) (pa_cons (pv 1) pa_nil)) pa_nil))) (pa_cons (pe_call (ok_law_pick T) (hr.mono (by decide)) (by rfl) T.m_law_pick T.F_law_pick.kp T.b_law_pick .nil pass0 (pa_cons (pv 0) (pa_cons (pe_callB call_len_seq (by rfl) T.n_len (by decide +kernel) (pa_cons (pv 2) pa_nil)) pa_nil))) pa_nil)) rfl)
 (pss_cons (ps_asg (pe_call (ok_law_apart T) (hr.mono (by decide)) (by rfl) T.m_law_apart T.F_law_apart.kp T.b_law_apart .nil pass0 (pa_cons (pe_ix ix_list (pv 1) (pv 3) (fun _ _ => rfl)) (pa_cons (pe_ix ix_list (pv 2) (pv 4) (fun _ _ => rfl)) pa_nil))) (pg_name (i := 5) sc_law_price.nd rfl (Or.inl rfl)))
 (pss_cons (ps_asg (pe_lst (pa_cons pe_int (pa_cons (pe_op op_add pe_int (pe_call (ok_law_pick T) (hr.mono (by decide)) (by rfl) T.m_law_pick T.F_law_pick.kp T.b_law_pick .nil pass0 (pa_cons (pv 0) (pa_cons pe_int pa_nil)))) (pa_cons (pe_op op_add (pe_op op_fdiv (pv 5) pe_int) (pe_call (ok_law_pick T) (hr.mono (by decide)) (by rfl) T.m_law_pick T.F_law_pick.kp T.b_law_pick .nil pass0 (pa_cons (pv 0) (pa_cons pe_int pa_nil)))) pa_nil)))) (pg_name (i := 6) sc_law_price.nd rfl (Or.inl rfl)))
 (pss_cons (ps_asg (pe_op op_cat (pv 6) (pe_lst (pa_cons (pv 5) (pa_cons (pe_call (ok_law_pick T) (hr.mono (by decide)) (by rfl) T.m_law_pick T.F_law_pick.kp T.b_law_pick .nil pass0 (pa_cons (pv 0) (pa_cons (pe_op op_pow pe_int pe_int) pa_nil))) (pa_cons (pe_op op_pow pe_int pe_int) pa_nil))))) (pg_name (i := 6) sc_law_price.nd rfl (Or.inl rfl)))
 (pss_one (ps_ret (pe_callB (call_min2 rfl) (by rfl) T.n_min (by decide +kernel) (pa_cons (pe_op op_pow pe_int pe_int) (pa_cons (pe_ix ix_list (pv 6) (pe_call (ok_law_pick T) (hr.mono (by decide)) (by rfl) T.m_law_pick T.F_law_pick.kp T.b_law_pick .nil pass0 (pa_cons (pv 0) (pa_cons pe_int pa_nil))) (fun _ _ => rfl)) pa_nil)))))))))
theorem ok_law_price {P : Program} {w : World} {K : PySem.W.Frag} {mg : Str → Option Value} {base : Heap} {ad : Nat → Addr} {fd : Nat → FuncData} (T : Txt K mg ad fd) : FnOk P w K mg base CX0 3 (ad 11) (fd 11) ["left", "one", "other"] (sp_law_price K) :=
  T.F_law_price.ok sc_law_price (fun vs H Q E h => by
    obtain ⟨_, _, _, rfl, _⟩ := h
    rfl) (fun cdv A outer s H vs Q E hr h => ⟨_, dv_law_price T hr, sm_law_price h⟩)
theorem dv_law_pairs {P : Program} {w : World} {K : PySem.W.Frag} {mg : Str → Option Value} {base : Heap} {ad : Nat → Addr} {fd : Nat → FuncData} (T : Txt K mg ad fd) {cdv : Value} {A : Around} {outer : List Env} {s : Shared} {H : Hp} {E : XK} (hr : Room 2 (A.deeper (envOfC "_law_pairs" (defScope s_law_pairs) s.heap.objs.size (ad 12) cdv))) :
  PSs (cxOf CX0 P w K mg base ["left", "one", "other", "free", "found", "i"] "_law_pairs" (defScope s_law_pairs) (ad 12) cdv A outer s H E).nox (defBody s_law_pairs) (rd_law_pairs K) :=
 (pss_cons (ps_asg (pe_listRg rfl (by rfl) T.n_list (prg_1 (by rfl) T.n_range (pe_callB call_len_seq (by rfl) T.n_len (by decide +kernel) (pa_cons (pv 2) pa_nil)))) (pg_name (i := 3) sc_law_pairs.nd rfl (Or.inl rfl)))
 (pss_cons (ps_asg (pe_lst pa_nil) (pg_name (i := 4) sc_law_pairs.nd rfl (Or.inl rfl)))
 (pss_cons (ps_for PassesOwn.never rfl (pi_range1 (by rfl) T.n_range (pa_cons (pe_callB call_len_seq (by rfl) T.n_len (by decide +kernel) (pa_cons (pv 1) pa_nil)) pa_nil)) (pg_name (i := 5) sc_law_pairs.nd rfl (Or.inl rfl)) (pss_one (ps_if (PW.pt (pw_and (pt_cmpR (op_neD hr.units) (pv 3) (pe_lst pa_nil) (nomark _)) (pw_and1 (pt_cmpR op_gt (pe_call (ok_law_pick T) (hr.mono (by decide)) (by rfl) T.m_law_pick T.F_law_pick.kp T.b_law_pick .nil pass0 (pa_cons (pv 0) (pa_cons pe_int pa_nil))) pe_int (nomark _))))) (pss_one (ps_expr (pe_bm PySem.F.plainAttrs_list PySem.F.slot_list_append PySem.F.type_list_append mt_append (pv 4) (pa_cons (pe_tup (pa_cons (pv 5) (pa_cons (pe_bm PySem.F.plainAttrs_list PySem.F.slot_list_pop PySem.F.type_list_pop mt_popAt (pv 3) (pa_cons (pe_call (ok_law_pick T) (hr.mono (by decide)) (by rfl) T.m_law_pick T.F_law_pick.kp T.b_law_pick .nil pass0 (pa_cons (pv 0) (pa_cons (pe_callB call_len_seq (by rfl) T.n_len (by decide +kernel) (pa_cons (pv 3) pa_nil)) pa_nil))) pa_nil)) pa_nil))) pa_nil)))) pss_nil)))
 (pss_one (ps_ret (pv 4))))))
theorem ok_law_pairs {P : Program} {w : World} {K : PySem.W.Frag} {mg : Str → Option Value} {base : Heap} {ad : Nat → Addr} {fd : Nat → FuncData} (T : Txt K mg ad fd) : FnOk P w K mg base CX0 3 (ad 12) (fd 12) ["left", "one", "other"] (sp_law_pairs K) :=
  T.F_law_pairs.ok sc_law_pairs (fun vs H Q E h => by
    obtain ⟨_, _, _, rfl, _⟩ := h
    rfl) (fun cdv A outer s H vs Q E hr h => ⟨_, dv_law_pairs T hr, sm_law_pairs h⟩)
theorem dv_law_cost {P : Program} {w : World} {K : PySem.W.Frag} {mg : Str → Option Value} {base : Heap} {ad : Nat → Addr} {fd : Nat → FuncData} (T : Txt K mg ad fd) {cdv : Value} {A : Around} {outer : List Env} {s : Shared} {H : Hp} {E : XK} (hr : Room 1 (A.deeper (envOfC "_law_cost" (defScope s_law_cost) s.heap.objs.size (ad 13) cdv))) :
  PSs (cxOf CX0 P w K mg base ["one", "other", "price", "pairs", "turned", "lonely", "i", "j"] "_law_cost" (defScope s_law_cost) (ad 13) cdv A outer s H E).nox (defBody s_law_cost) (rd_law_cost K) :=
 (pss_cons (ps_asg (pe_callB (cr_sum rfl) (by rfl) T.n_sum (by decide +kernel) (pa_cons (pe_lc (own := [("i", 6), ("j", 7)]) (g := (gTup K 2 (gCons (gName 6) (gCons (gName 7) gNil)))) (tt := tYes) rfl sc_law_cost.nd (pi_list (pv 3)) (blk_here (by kernel_rfl)) (fun _ _ _ _ _ => (pg_tup rfl (pgs_cons (pg_name (i := 6) sc_law_cost.nd rfl (Or.inl rfl)) (pgs_cons (pg_name (i := 7) sc_law_cost.nd rfl (Or.inl rfl)) pgs_nil)))) (fun _ _ _ _ _ => pts_nil) (fun _ _ _ _ _ => (pe_call (ok_law_apart T) (hr.mono (by decide)) (by rfl) T.m_law_apart T.F_law_apart.kp T.b_law_apart .nil pass0 (pa_cons (pe_ix ix_list (pv 0) (pv 6) (fun _ _ => rfl)) (pa_cons (pe_ix ix_list (pv 1) (pv 7) (fun _ _ => rfl)) pa_nil))))) pa_nil)) (pg_name (i := 4) sc_law_cost.nd rfl (Or.inl rfl)))
 (pss_cons (ps_asg (pe_op op_sub (pe_op op_add (pe_op op_sub (pe_callB call_len_seq (by rfl) T.n_len (by decide +kernel) (pa_cons (pv 0) pa_nil)) (pe_callB call_len_seq (by rfl) T.n_len (by decide +kernel) (pa_cons (pv 3) pa_nil))) (pe_callB call_len_seq (by rfl) T.n_len (by decide +kernel) (pa_cons (pv 1) pa_nil))) (pe_callB call_len_seq (by rfl) T.n_len (by decide +kernel) (pa_cons (pv 3) pa_nil))) (pg_name (i := 5) sc_law_cost.nd rfl (Or.inl rfl)))
 (pss_one (ps_ret (pe_op op_add (pv 4) (pe_op op_mul (pv 2) (pv 5)))))))
theorem ok_law_cost {P : Program} {w : World} {K : PySem.W.Frag} {mg : Str → Option Value} {base : Heap} {ad : Nat → Addr} {fd : Nat → FuncData} (T : Txt K mg ad fd) : FnOk P w K mg base CX0 2 (ad 13) (fd 13) ["one", "other", "price", "pairs"] (sp_law_cost K) :=
  T.F_law_cost.ok sc_law_cost (fun vs H Q E h => by
    obtain ⟨_, _, _, _, rfl, _⟩ := h
    rfl) (fun cdv A outer s H vs Q E hr h => ⟨_, dv_law_cost T hr, sm_law_cost h⟩)
theorem dv_law_k68 {P : Program} {w : World} {K : PySem.W.Frag} {mg : Str → Option Value} {base : Heap} {ad : Nat → Addr} {fd : Nat → FuncData} (T : Txt K mg ad fd) {cdv : Value} {A : Around} {outer : List Env} {s : Shared} {H : Hp} {E : XK} (hr : Room 9 (A.deeper (envOfC "law" (defScope s_law_k68) s.heap.objs.size (ad 14) cdv))) :
  PSs (cxOf CX0 P w K mg base ["script", "k", "left", "one", "other", "kept", "turn", "price", "pairs", "handed", "again", "found"] "law" (defScope s_law_k68) (ad 14) cdv A outer s H E).nox (defBody s_law_k68) (rd_law_k68 K) :=
 (pss_cons (ps_for PassesOwn.never rfl (pi_range1 (by rfl) T.n_range (pa_cons (pe_callB (call_max2 rfl) (by rfl) T.n_max (by decide +kernel) (pa_cons pe_int (pa_cons (pe_callB (call_min2 rfl) (by rfl) T.n_min (by decide +kernel) (pa_cons (pe_callB call_len_seq (by rfl) T.n_len (by decide +kernel) (pa_cons (pv 0) pa_nil)) (pa_cons pe_int pa_nil))) pa_nil))) pa_nil)) (pg_name (i := 1) sc_law_k68.nd rfl (Or.inl rfl)) (pss_cons (ps_asg (pe_call (ok_law_left T) (hr.mono (by decide)) (by rfl) T.m_law_left T.F_law_left.kp T.b_law_left .nil pass0 (pa_cons (pv 0) (pa_cons (pv 1) pa_nil))) (pg_name (i := 2) sc_law_k68.nd rfl (Or.inl rfl)))
 (pss_cons (ps_asg (pe_call (ok_law_two T) (hr.mono (by decide)) (by rfl) T.m_law_two T.F_law_two.kp T.b_law_two .nil pass0 (pa_cons (pv 2) (pa_cons (pe_ix ix_list (pe_lst (pa_cons pe_int (pa_cons pe_int pa_nil))) (pe_callTy call_int1 (by rfl) T.n_int (by decide +kernel) (pa_cons (pe_cmpR op_eq (pe_call (ok_law_pick T) (hr.mono (by decide)) (by rfl) T.m_law_pick T.F_law_pick.kp T.b_law_pick .nil pass0 (pa_cons (pv 2) (pa_cons pe_int pa_nil))) pe_int (nomark _)) pa_nil)) (fun _ _ => rfl)) pa_nil))) (pg_tup rfl (pgs_cons (pg_name (i := 3) sc_law_k68.nd rfl (Or.inl rfl)) (pgs_cons (pg_name (i := 4) sc_law_k68.nd rfl (Or.inl rfl)) pgs_nil))))
 (pss_cons (ps_asg (pe_tup (pa_cons (pe_callTy call_list_of (by rfl) T.n_list (by decide +kernel) (pa_cons (pv 3) pa_nil)) (pa_cons (pe_callTy call_list_of (by rfl) T.n_list (by decide +kernel) (pa_cons (pv 4) pa_nil)) pa_nil))) (pg_name (i := 5) sc_law_k68.nd rfl (Or.inl rfl)))
 (pss_one (ps_for PassesOwn.never rfl (pi_range1 (by rfl) T.n_range (pa_cons pe_int pa_nil)) (pg_name (i := 6) sc_law_k68.nd rfl (Or.inl rfl)) (pss_cons (ps_asg (pe_call (ok_law_price T) (hr.mono (by decide)) (by rfl) T.m_law_price T.F_law_price.kp T.b_law_price .nil pass0 (pa_cons (pv 2) (pa_cons (pv 3) (pa_cons (pv 4) pa_nil)))) (pg_name (i := 7) sc_law_k68.nd rfl (Or.inl rfl)))
 (pss_cons (ps_asg (pe_ix ix_list (pe_lst (pa_cons (pe_call (ok_law_pairs T) (hr.mono (by decide)) (by rfl) T.m_law_pairs T.F_law_pairs.kp T.b_law_pairs .nil pass0 (pa_cons (pv 2) (pa_cons (pv 3) (pa_cons (pv 4) pa_nil)))) (pa_cons (pe_lst pa_nil) pa_nil))) (pe_callTy call_int1 (by rfl) T.n_int (by decide +kernel) (pa_cons (pe_cmpR op_eq (pe_call (ok_law_pick T) (hr.mono (by decide)) (by rfl) T.m_law_pick T.F_law_pick.kp T.b_law_pick .nil pass0 (pa_cons (pv 2) (pa_cons pe_int pa_nil))) pe_int (nomark _)) pa_nil)) (fun _ _ => rfl)) (pg_name (i := 8) sc_law_k68.nd rfl (Or.inl rfl)))
 (pss_cons (ps_asg (pe_callTy call_list_of (by rfl) T.n_list (by decide +kernel) (pa_cons (pv 8) pa_nil)) (pg_name (i := 9) sc_law_k68.nd rfl (Or.inl rfl)))
 (pss_cons (ps_for PassesOwn.never rfl (pi_range1 (by rfl) T.n_range (pa_cons pe_int pa_nil)) (pg_name (i := 10) sc_law_k68.nd rfl (Or.inl rfl)) (pss_cons (ps_asg (pe_call (ok_cost_of T) (hr.mono (by decide)) (by rfl) T.m_cost_of T.F_cost_of.kp T.b_cost_of .nil pass0 (pa_cons (pv 3) (pa_cons (pv 4) (pa_cons (pv 7) (pa_cons (pv 9) pa_nil))))) (pg_name (i := 11) sc_law_k68.nd rfl (Or.inl rfl)))
 (pss_one (ps_if (pt_not (pt_val (pe_call (ok_law_same T) (hr.mono (by decide)) (by rfl) T.m_law_same T.F_law_same.kp T.b_law_same .nil pass0 (pa_cons (pv 11) (pa_cons (pe_call (ok_law_cost T) (hr.mono (by decide)) (by rfl) T.m_law_cost T.F_law_cost.kp T.b_law_cost .nil pass0 (pa_cons (pv 3) (pa_cons (pv 4) (pa_cons (pv 7) (pa_cons (pv 8) pa_nil))))) pa_nil))))) (pss_one (ps_ret pe_bl)) pss_nil))))
 (pss_one (ps_if (PW.pt (pw_or (pt_cmpR (op_neD hr.units) (pv 9) (pv 8) (nomark _)) (pw_or1 (pt_cmpR (op_neD hr.units) (pe_tup (pa_cons (pv 3) (pa_cons (pv 4) pa_nil))) (pv 5) (nomark _))))) (pss_one (ps_ret pe_bl)) pss_nil))))))))))))
 (pss_one (ps_ret pe_bl)))
theorem ok_law_k68 {P : Program} {w : World} {K : PySem.W.Frag} {mg : Str → Option Value} {base : Heap} {ad : Nat → Addr} {fd : Nat → FuncData} (T : Txt K mg ad fd) : FnOk P w K mg base CX0 10 (ad 14) (fd 14) ["script"] (sp_law_k68 K) :=
  T.F_law_k68.ok sc_law_k68 (fun vs H Q E h => by
    obtain ⟨_, rfl, _⟩ := h
    rfl) (fun cdv A outer s H vs Q E hr h => ⟨_, dv_law_k68 T hr, sm_law_k68 h⟩)
theorem all_mk {l : PySem.W.OpenLaw} {w : World} {K : PySem.W.Frag} {h : Heap} {mg : Str → Option Value} {fa f0 f1 f2 f3 f4 f5 f6 f7 f8 f9 f10 f11 f12 f13 f14 : Addr} (X : K.In h) (G : h.Ns mainGlobals mg) (hfa : mg "law" = some (.ref fa))
    {od0 an0 : Option Addr} {sl0 : Array (Option Value)} {oc0 kV0 dc0 pm0 cd0 ct0 : Value}
    {od1 an1 : Option Addr} {sl1 : Array (Option Value)} {oc1 kV1 dc1 pm1 cd1 ct1 : Value}
    {od2 an2 : Option Addr} {sl2 : Array (Option Value)} {oc2 kV2 dc2 pm2 cd2 ct2 : Value}
    {od3 an3 : Option Addr} {sl3 : Array (Option Value)} {oc3 kV3 dc3 pm3 cd3 ct3 : Value}
    {od4 an4 : Option Addr} {sl4 : Array (Option Value)} {oc4 kV4 dc4 pm4 cd4 ct4 : Value}
    {od5 an5 : Option Addr} {sl5 : Array (Option Value)} {oc5 kV5 dc5 pm5 cd5 ct5 : Value}
    {od6 an6 : Option Addr} {sl6 : Array (Option Value)} {oc6 kV6 dc6 pm6 cd6 ct6 : Value}
    {od7 an7 : Option Addr} {sl7 : Array (Option Value)} {oc7 kV7 dc7 pm7 cd7 ct7 : Value}
    {od8 an8 : Option Addr} {sl8 : Array (Option Value)} {oc8 kV8 dc8 pm8 cd8 ct8 : Value}
    {od9 an9 : Option Addr} {sl9 : Array (Option Value)} {oc9 kV9 dc9 pm9 cd9 ct9 : Value}
    {od10 an10 : Option Addr} {sl10 : Array (Option Value)} {oc10 kV10 dc10 pm10 cd10 ct10 : Value}
    {od11 an11 : Option Addr} {sl11 : Array (Option Value)} {oc11 kV11 dc11 pm11 cd11 ct11 : Value}
    {od12 an12 : Option Addr} {sl12 : Array (Option Value)} {oc12 kV12 dc12 pm12 cd12 ct12 : Value}
    {od13 an13 : Option Addr} {sl13 : Array (Option Value)} {oc13 kV13 dc13 pm13 cd13 ct13 : Value}
    {od14 an14 : Option Addr} {sl14 : Array (Option Value)} {oc14 kV14 dc14 pm14 cd14 ct14 : Value}
    (a0 : PySem.W.nsIn K mainGlobals "apart" = some (some (.ref f0)))
    (l0 : K.lookup f0 = some ⟨oc0, od0, .func (PySem.W.fnOf "apart" "apart" (defArgs s_apart) (defBody s_apart) (defScope s_apart) .none kV0 dc0 pm0 an0 cd0 ct0), sl0⟩)
    (c0 : PySem.W.codeIn K cd0 "apart" = true)
    (k0 : PySem.W.keepIn K (.ref f0) = true)
    (a1 : PySem.W.nsIn K mainGlobals "cost_of" = some (some (.ref f1)))
    (l1 : K.lookup f1 = some ⟨oc1, od1, .func (PySem.W.fnOf "cost_of" "cost_of" (defArgs s_cost_of) (defBody s_cost_of) (defScope s_cost_of) .none kV1 dc1 pm1 an1 cd1 ct1), sl1⟩)
    (c1 : PySem.W.codeIn K cd1 "cost_of" = true)
    (k1 : PySem.W.keepIn K (.ref f1) = true)
    (a2 : PySem.W.nsIn K mainGlobals "_law_left" = some (some (.ref f2)))
    (l2 : K.lookup f2 = some ⟨oc2, od2, .func (PySem.W.fnOf "_law_left" "_law_left" (defArgs s_law_left) (defBody s_law_left) (defScope s_law_left) .none kV2 dc2 pm2 an2 cd2 ct2), sl2⟩)
    (c2 : PySem.W.codeIn K cd2 "_law_left" = true)
    (k2 : PySem.W.keepIn K (.ref f2) = true)
    (a3 : PySem.W.nsIn K mainGlobals "_law_mix" = some (some (.ref f3)))
    (l3 : K.lookup f3 = some ⟨oc3, od3, .func (PySem.W.fnOf "_law_mix" "_law_mix" (defArgs s_law_mix) (defBody s_law_mix) (defScope s_law_mix) .none kV3 dc3 pm3 an3 cd3 ct3), sl3⟩)
    (c3 : PySem.W.codeIn K cd3 "_law_mix" = true)
    (k3 : PySem.W.keepIn K (.ref f3) = true)
    (a4 : PySem.W.nsIn K mainGlobals "_law_pick" = some (some (.ref f4)))
    (l4 : K.lookup f4 = some ⟨oc4, od4, .func (PySem.W.fnOf "_law_pick" "_law_pick" (defArgs s_law_pick) (defBody s_law_pick) (defScope s_law_pick) .none kV4 dc4 pm4 an4 cd4 ct4), sl4⟩)
    (c4 : PySem.W.codeIn K cd4 "_law_pick" = true)
    (k4 : PySem.W.keepIn K (.ref f4) = true)
    (a5 : PySem.W.nsIn K mainGlobals "_law_same" = some (some (.ref f5)))
    (l5 : K.lookup f5 = some ⟨oc5, od5, .func (PySem.W.fnOf "_law_same" "_law_same" (defArgs s_law_same) (defBody s_law_same) (defScope s_law_same) .none kV5 dc5 pm5 an5 cd5 ct5), sl5⟩)
    (c5 : PySem.W.codeIn K cd5 "_law_same" = true)
    (k5 : PySem.W.keepIn K (.ref f5) = true)
    (a6 : PySem.W.nsIn K mainGlobals "_law_kind" = some (some (.ref f6)))
    (l6 : K.lookup f6 = some ⟨oc6, od6, .func (PySem.W.fnOf "_law_kind" "_law_kind" (defArgs s_law_kind) (defBody s_law_kind) (defScope s_law_kind) .none kV6 dc6 pm6 an6 cd6 ct6), sl6⟩)
    (c6 : PySem.W.codeIn K cd6 "_law_kind" = true)
    (k6 : PySem.W.keepIn K (.ref f6) = true)
    (a7 : PySem.W.nsIn K mainGlobals "_law_colour" = some (some (.ref f7)))
    (l7 : K.lookup f7 = some ⟨oc7, od7, .func (PySem.W.fnOf "_law_colour" "_law_colour" (defArgs s_law_colour) (defBody s_law_colour) (defScope s_law_colour) .none kV7 dc7 pm7 an7 cd7 ct7), sl7⟩)
    (c7 : PySem.W.codeIn K cd7 "_law_colour" = true)
    (k7 : PySem.W.keepIn K (.ref f7) = true)
    (a8 : PySem.W.nsIn K mainGlobals "_law_few" = some (some (.ref f8)))
    (l8 : K.lookup f8 = some ⟨oc8, od8, .func (PySem.W.fnOf "_law_few" "_law_few" (defArgs s_law_few) (defBody s_law_few) (defScope s_law_few) .none kV8 dc8 pm8 an8 cd8 ct8), sl8⟩)
    (c8 : PySem.W.codeIn K cd8 "_law_few" = true)
    (k8 : PySem.W.keepIn K (.ref f8) = true)
    (a9 : PySem.W.nsIn K mainGlobals "_law_two" = some (some (.ref f9)))
    (l9 : K.lookup f9 = some ⟨oc9, od9, .func (PySem.W.fnOf "_law_two" "_law_two" (defArgs s_law_two) (defBody s_law_two) (defScope s_law_two) .none kV9 dc9 pm9 an9 cd9 ct9), sl9⟩)
    (c9 : PySem.W.codeIn K cd9 "_law_two" = true)
    (k9 : PySem.W.keepIn K (.ref f9) = true)
    (a10 : PySem.W.nsIn K mainGlobals "_law_apart" = some (some (.ref f10)))
    (l10 : K.lookup f10 = some ⟨oc10, od10, .func (PySem.W.fnOf "_law_apart" "_law_apart" (defArgs s_law_apart) (defBody s_law_apart) (defScope s_law_apart) .none kV10 dc10 pm10 an10 cd10 ct10), sl10⟩)
    (c10 : PySem.W.codeIn K cd10 "_law_apart" = true)
    (k10 : PySem.W.keepIn K (.ref f10) = true)
    (a11 : PySem.W.nsIn K mainGlobals "_law_price" = some (some (.ref f11)))
    (l11 : K.lookup f11 = some ⟨oc11, od11, .func (PySem.W.fnOf "_law_price" "_law_price" (defArgs s_law_price) (defBody s_law_price) (defScope s_law_price) .none kV11 dc11 pm11 an11 cd11 ct11), sl11⟩)
    (c11 : PySem.W.codeIn K cd11 "_law_price" = true)
    (k11 : PySem.W.keepIn K (.ref f11) = true)
    (a12 : PySem.W.nsIn K mainGlobals "_law_pairs" = some (some (.ref f12)))
    (l12 : K.lookup f12 = some ⟨oc12, od12, .func (PySem.W.fnOf "_law_pairs" "_law_pairs" (defArgs s_law_pairs) (defBody s_law_pairs) (defScope s_law_pairs) .none kV12 dc12 pm12 an12 cd12 ct12), sl12⟩)
    (c12 : PySem.W.codeIn K cd12 "_law_pairs" = true)
    (k12 : PySem.W.keepIn K (.ref f12) = true)
    (a13 : PySem.W.nsIn K mainGlobals "_law_cost" = some (some (.ref f13)))
    (l13 : K.lookup f13 = some ⟨oc13, od13, .func (PySem.W.fnOf "_law_cost" "_law_cost" (defArgs s_law_cost) (defBody s_law_cost) (defScope s_law_cost) .none kV13 dc13 pm13 an13 cd13 ct13), sl13⟩)
    (c13 : PySem.W.codeIn K cd13 "_law_cost" = true)
    (k13 : PySem.W.keepIn K (.ref f13) = true)
    (a14 : PySem.W.nsIn K mainGlobals "law" = some (some (.ref f14)))
    (l14 : K.lookup f14 = some ⟨oc14, od14, .func (PySem.W.fnOf "law" "law" (defArgs s_law_k68) (defBody s_law_k68) (defScope s_law_k68) .none kV14 dc14 pm14 an14 cd14 ct14), sl14⟩)
    (c14 : PySem.W.codeIn K cd14 "law" = true)
    (k14 : PySem.W.keepIn K (.ref f14) = true)
    (z_abs : PySem.W.nsIn K mainGlobals "abs" = some none)
    (z_all : PySem.W.nsIn K mainGlobals "all" = some none)
    (z_bool : PySem.W.nsIn K mainGlobals "bool" = some none)
    (z_int : PySem.W.nsIn K mainGlobals "int" = some none)
    (z_isinstance : PySem.W.nsIn K mainGlobals "isinstance" = some none)
    (z_len : PySem.W.nsIn K mainGlobals "len" = some none)
    (z_list : PySem.W.nsIn K mainGlobals "list" = some none)
    (z_max : PySem.W.nsIn K mainGlobals "max" = some none)
    (z_min : PySem.W.nsIn K mainGlobals "min" = some none)
    (z_range : PySem.W.nsIn K mainGlobals "range" = some none)
    (z_str : PySem.W.nsIn K mainGlobals "str" = some none)
    (z_sum : PySem.W.nsIn K mainGlobals "sum" = some none)
    (z_tuple : PySem.W.nsIn K mainGlobals "tuple" = some none)
    (z_zip : PySem.W.nsIn K mainGlobals "zip" = some none) :
    ∃ fd : FuncData, (∀ (s : Shared) (v : Value), BindsTo s fd ⟨[v], []⟩ [("script", v)]) ∧ ∀ base : Heap, K.In base → base.Ns mainGlobals mg → FnOk l.prog w K mg base CX0 10 fa fd ["script"] (sp_law_k68 K) := by
  have e := hfa.symm.trans (PySem.W.mg_of X G a14)
  cases e
  let ad : Nat → Addr := fun i => match i with | 0 => f0 | 1 => f1 | 2 => f2 | 3 => f3 | 4 => f4 | 5 => f5 | 6 => f6 | 7 => f7 | 8 => f8 | 9 => f9 | 10 => f10 | 11 => f11 | 12 => f12 | 13 => f13 | 14 => fa | _ => 0
  let fd : Nat → FuncData := fun i => match i with | 0 => (PySem.W.fnOf "apart" "apart" (defArgs s_apart) (defBody s_apart) (defScope s_apart) .none kV0 dc0 pm0 an0 cd0 ct0) | 1 => (PySem.W.fnOf "cost_of" "cost_of" (defArgs s_cost_of) (defBody s_cost_of) (defScope s_cost_of) .none kV1 dc1 pm1 an1 cd1 ct1) | 2 => (PySem.W.fnOf "_law_left" "_law_left" (defArgs s_law_left) (defBody s_law_left) (defScope s_law_left) .none kV2 dc2 pm2 an2 cd2 ct2) | 3 => (PySem.W.fnOf "_law_mix" "_law_mix" (defArgs s_law_mix) (defBody s_law_mix) (defScope s_law_mix) .none kV3 dc3 pm3 an3 cd3 ct3) | 4 => (PySem.W.fnOf "_law_pick" "_law_pick" (defArgs s_law_pick) (defBody s_law_pick) (defScope s_law_pick) .none kV4 dc4 pm4 an4 cd4 ct4) | 5 => (PySem.W.fnOf "_law_same" "_law_same" (defArgs s_law_same) (defBody s_law_same) (defScope s_law_same) .none kV5 dc5 pm5 an5 cd5 ct5) | 6 => (PySem.W.fnOf "_law_kind" "_law_kind" (defArgs s_law_kind) (defBody s_law_kind) (defScope s_law_kind) .none kV6 dc6 pm6 an6 cd6 ct6) | 7 => (PySem.W.fnOf "_law_colour" "_law_colour" (defArgs s_law_colour) (defBody s_law_colour) (defScope s_law_colour) .none kV7 dc7 pm7 an7 cd7 ct7) | 8 => (PySem.W.fnOf "_law_few" "_law_few" (defArgs s_law_few) (defBody s_law_few) (defScope s_law_few) .none kV8 dc8 pm8 an8 cd8 ct8) | 9 => (PySem.W.fnOf "_law_two" "_law_two" (defArgs s_law_two) (defBody s_law_two) (defScope s_law_two) .none kV9 dc9 pm9 an9 cd9 ct9) | 10 => (PySem.W.fnOf "_law_apart" "_law_apart" (defArgs s_law_apart) (defBody s_law_apart) (defScope s_law_apart) .none kV10 dc10 pm10 an10 cd10 ct10) | 11 => (PySem.W.fnOf "_law_price" "_law_price" (defArgs s_law_price) (defBody s_law_price) (defScope s_law_price) .none kV11 dc11 pm11 an11 cd11 ct11) | 12 => (PySem.W.fnOf "_law_pairs" "_law_pairs" (defArgs s_law_pairs) (defBody s_law_pairs) (defScope s_law_pairs) .none kV12 dc12 pm12 an12 cd12 ct12) | 13 => (PySem.W.fnOf "_law_cost" "_law_cost" (defArgs s_law_cost) (defBody s_law_cost) (defScope s_law_cost) .none kV13 dc13 pm13 an13 cd13 ct13) | 14 => (PySem.W.fnOf "law" "law" (defArgs s_law_k68) (defBody s_law_k68) (defScope s_law_k68) .none kV14 dc14 pm14 an14 cd14 ct14) | _ => (PySem.W.fnOf "apart" "apart" (defArgs s_apart) (defBody s_apart) (defScope s_apart) .none kV0 dc0 pm0 an0 cd0 ct0)
  have F0 := fun_mk (st := s_apart) l0 c0 k0
  have b0 := F0.binds (ps := ["one", "other"]) fun _ _ _ _ _ _ us hl => match us, hl with | [_, _], _ => rfl
  have F1 := fun_mk (st := s_cost_of) l1 c1 k1
  have b1 := F1.binds (ps := ["one", "other", "price", "pairs"]) fun _ _ _ _ _ _ us hl => match us, hl with | [_, _, _, _], _ => rfl
  have F2 := fun_mk (st := s_law_left) l2 c2 k2
  have b2 := F2.binds (ps := ["script", "k"]) fun _ _ _ _ _ _ us hl => match us, hl with | [_, _], _ => rfl
  have F3 := fun_mk (st := s_law_mix) l3 c3 k3
  have b3 := F3.binds (ps := ["cell", "k"]) fun _ _ _ _ _ _ us hl => match us, hl with | [_, _], _ => rfl
  have F4 := fun_mk (st := s_law_pick) l4 c4 k4
  have b4 := F4.binds (ps := ["left", "many"]) fun _ _ _ _ _ _ us hl => match us, hl with | [_, _], _ => rfl
  have F5 := fun_mk (st := s_law_same) l5 c5 k5
  have b5 := F5.binds (ps := ["found", "due"]) fun _ _ _ _ _ _ us hl => match us, hl with | [_, _], _ => rfl
  have F6 := fun_mk (st := s_law_kind) l6 c6 k6
  have b6 := F6.binds (ps := ["left"]) fun _ _ _ _ _ _ us hl => match us, hl with | [_], _ => rfl
  have F7 := fun_mk (st := s_law_colour) l7 c7 k7
  have b7 := F7.binds (ps := ["left", "kind"]) fun _ _ _ _ _ _ us hl => match us, hl with | [_, _], _ => rfl
  have F8 := fun_mk (st := s_law_few) l8 c8 k8
  have b8 := F8.binds (ps := ["left", "kind", "most"]) fun _ _ _ _ _ _ us hl => match us, hl with | [_, _, _], _ => rfl
  have F9 := fun_mk (st := s_law_two) l9 c9 k9
  have b9 := F9.binds (ps := ["left", "most"]) fun _ _ _ _ _ _ us hl => match us, hl with | [_, _], _ => rfl
  have F10 := fun_mk (st := s_law_apart) l10 c10 k10
  have b10 := F10.binds (ps := ["one", "other"]) fun _ _ _ _ _ _ us hl => match us, hl with | [_, _], _ => rfl
  have F11 := fun_mk (st := s_law_price) l11 c11 k11
  have b11 := F11.binds (ps := ["left", "one", "other"]) fun _ _ _ _ _ _ us hl => match us, hl with | [_, _, _], _ => rfl
  have F12 := fun_mk (st := s_law_pairs) l12 c12 k12
  have b12 := F12.binds (ps := ["left", "one", "other"]) fun _ _ _ _ _ _ us hl => match us, hl with | [_, _, _], _ => rfl
  have F13 := fun_mk (st := s_law_cost) l13 c13 k13
  have b13 := F13.binds (ps := ["one", "other", "price", "pairs"]) fun _ _ _ _ _ _ us hl => match us, hl with | [_, _, _, _], _ => rfl
  have F14 := fun_mk (st := s_law_k68) l14 c14 k14
  have b14 := F14.binds (ps := ["script"]) fun _ _ _ _ _ _ us hl => match us, hl with | [_], _ => rfl
  have T : Txt K mg ad fd := ⟨F0, b0, PySem.W.mg_of X G a0, F1, b1, PySem.W.mg_of X G a1, F2, b2, PySem.W.mg_of X G a2, F3, b3, PySem.W.mg_of X G a3, F4, b4, PySem.W.mg_of X G a4, F5, b5, PySem.W.mg_of X G a5, F6, b6, PySem.W.mg_of X G a6, F7, b7, PySem.W.mg_of X G a7, F8, b8, PySem.W.mg_of X G a8, F9, b9, PySem.W.mg_of X G a9, F10, b10, PySem.W.mg_of X G a10, F11, b11, PySem.W.mg_of X G a11, F12, b12, PySem.W.mg_of X G a12, F13, b13, PySem.W.mg_of X G a13, F14, b14, PySem.W.mg_of X G a14, PySem.W.mg_none_of X G z_abs, PySem.W.mg_none_of X G z_all, PySem.W.mg_none_of X G z_bool, PySem.W.mg_none_of X G z_int, PySem.W.mg_none_of X G z_isinstance, PySem.W.mg_none_of X G z_len, PySem.W.mg_none_of X G z_list, PySem.W.mg_none_of X G z_max, PySem.W.mg_none_of X G z_min, PySem.W.mg_none_of X G z_range, PySem.W.mg_none_of X G z_str, PySem.W.mg_none_of X G z_sum, PySem.W.mg_none_of X G z_tuple, PySem.W.mg_none_of X G z_zip⟩
  exact ⟨fd 14, fun s v => .of_eq rfl, fun base _ _ => ok_law_k68 T⟩
theorem walk {l : PySem.W.OpenLaw} {q : Program} {loose : List Str} {XP : (Str → Option Value) → Heap → Prop} {YP : World → Heap → Prop} {d : DefRec} {K : Params → PySem.W.Frag} (hn : l.most = some 63) (hdf : d.params.defaults = [])
    (hY : ∀ (w : World) (h : Heap), YP w h → (K w.params).In h)
    (F : ∀ (w : World) (mg : Str → Option Value) (fa : Addr) (h : Heap), (K w.params).In h → h.Ns mainGlobals mg → mg d.name = some (.ref fa) →
      ∃ fd : FuncData, (∀ (s : Shared) (u : Value), BindsTo s fd ⟨[u], []⟩ [("script", u)]) ∧ ∀ base : Heap, (K w.params).In base → base.Ns mainGlobals mg → FnOk l.prog w (K w.params) mg base CX0 10 fa fd ["script"] (sp_law_k68 (K w.params))) :
    PySem.W.WalkO q loose XP YP l.row.toRowW d [] (fun f vs => PySem.call f vs) :=
  L2.walk_of (n := 63) (k := 10) (x := "script") (CX := fun _ => CX0) (sp := fun w => sp_law_k68 (K w.params)) hn (by decide) hdf ⟨rfl, by decide, by decide⟩ hY F (fun _ _ a ns hl _ hS => ⟨_, rfl, a, ns, rfl, hS, hl, fun _ => rfl⟩) fun _ _ _ _ _ z => z
end Fc

open PySem PySem.W PyProof.Rows in
set_option maxRecDepth 100000 in
set_option maxHeartbeats 0 in
theorem PySem.Challenge.cw_fewcolours_k68_what_a_change_costs_holds : PySem.Challenge.rw_fewcolours_k68_what_a_change_costs.Holds := by
  w_on; o_law; k_head; (case hw => w_witness2)
  k_fill
  refine Fc.walk (l := PySem.Challenge.rw_fewcolours_k68_what_a_change_costs) rfl rfl (fun w h Y => PySem.W.kIn_of Y) ?F
  case F =>
    intro w mg fa h KX G hmg
    refine' Fc.all_mk KX G hmg ?a0 ?l0 ?c0 ?k0 ?a1 ?l1 ?c1 ?k1 ?a2 ?l2 ?c2 ?k2 ?a3 ?l3 ?c3 ?k3 ?a4 ?l4 ?c4 ?k4 ?a5 ?l5 ?c5 ?k5 ?a6 ?l6 ?c6 ?k6 ?a7 ?l7 ?c7 ?k7 ?a8 ?l8 ?c8 ?k8 ?a9 ?l9 ?c9 ?k9 ?a10 ?l10 ?c10 ?k10 ?a11 ?l11 ?c11 ?k11 ?a12 ?l12 ?c12 ?k12 ?a13 ?l13 ?c13 ?k13 ?a14 ?l14 ?c14 ?k14 ?z_abs ?z_all ?z_bool ?z_int ?z_isinstance ?z_len ?z_list ?z_max ?z_min ?z_range ?z_str ?z_sum ?z_tuple ?z_zip
    (case a0 => k_is)
    (case l0 => k_is)
    (case c0 => k_is)
    (case k0 => k_is)
    (case a1 => k_is)
    (case l1 => k_is)
    (case c1 => k_is)
    (case k1 => k_is)
    (case a2 => k_is)
    (case l2 => k_is)
    (case c2 => k_is)
    (case k2 => k_is)
    (case a3 => k_is)
    (case l3 => k_is)
    (case c3 => k_is)
    (case k3 => k_is)
    (case a4 => k_is)
    (case l4 => k_is)
    (case c4 => k_is)
    (case k4 => k_is)
    (case a5 => k_is)
    (case l5 => k_is)
    (case c5 => k_is)
    (case k5 => k_is)
    (case a6 => k_is)
    (case l6 => k_is)
    (case c6 => k_is)
    (case k6 => k_is)
    (case a7 => k_is)
    (case l7 => k_is)
    (case c7 => k_is)
    (case k7 => k_is)
    (case a8 => k_is)
    (case l8 => k_is)
    (case c8 => k_is)
    (case k8 => k_is)
    (case a9 => k_is)
    (case l9 => k_is)
    (case c9 => k_is)
    (case k9 => k_is)
    (case a10 => k_is)
    (case l10 => k_is)
    (case c10 => k_is)
    (case k10 => k_is)
    (case a11 => k_is)
    (case l11 => k_is)
    (case c11 => k_is)
    (case k11 => k_is)
    (case a12 => k_is)
    (case l12 => k_is)
    (case c12 => k_is)
    (case k12 => k_is)
    (case a13 => k_is)
    (case l13 => k_is)
    (case c13 => k_is)
    (case k13 => k_is)
    (case a14 => k_is)
    (case l14 => k_is)
    (case c14 => k_is)
    (case k14 => k_is)
    (case z_abs => k_is)
    (case z_all => k_is)
    (case z_bool => k_is)
    (case z_int => k_is)
    (case z_isinstance => k_is)
    (case z_len => k_is)
    (case z_list => k_is)
    (case z_max => k_is)
    (case z_min => k_is)
    (case z_range => k_is)
    (case z_str => k_is)
    (case z_sum => k_is)
    (case z_tuple => k_is)
    (case z_zip => k_is)
