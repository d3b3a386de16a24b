import PyProof.Rows.All
import Wide.All
import OpenK.AllK
import Wide.FinOn
import HandS.ForMost
import HandS.Zip
import HandS.IsInst
import HandS.SortRule
import HandS.SortInts
import HandS.Conv
import HandS.More
import HandS.TupMul
import HandS.Steps
import HandS.Evl
import KE.SortData
import KE.DataMinMax
import HandS.Exc
import HandS.TryOnly
import HandS.ExcOwn
import HandS.ExcIs
import HandS.WordsExc
import HandS.ExcValue
import HandS.Dict
import HandS.Deep
import HandS.DictComp
import HandS.DeepEq
import PySem.Challenge.RW_fewcolours_k62_a_painting_at_first
set_option Elab.async false
set_option linter.all false
set_option maxRecDepth 100000
set_option maxHeartbeats 4000000
namespace Fc
open PySem L2

/-! ### what stays -/
abbrev no : Addr → Prop := fun _ => False
abbrev at1 (l : Addr) : Addr → Prop := fun a => a = l
/-- a tuple, or a thing that is locked: it never changes -/
def fixO : HO → Bool
  | .tup _ => true
  | .frz _ _ => true
  | _ => false
/-- from H to H': what stood stands as it was, but at places in M, where another thing may stand -/
def Kp (M : Addr → Prop) (H H' : Hp) : Prop := ∀ a o, H a = some o → H' a = some o ∨ (M a ∧ fixO o = false ∧ ∃ o', H' a = some o' ∧ fixO o' = false)
theorem Kp.refl {M : Addr → Prop} {H : Hp} : Kp M H H := fun _ _ h => .inl h
theorem Kp.tr {M N : Addr → Prop} {H H1 H2 : Hp} (k : Kp M H H1) (j : Kp N H1 H2) (s : ∀ a, N a → M a ∨ H a = none) : Kp M H H2 := fun a o h => by
  rcases k a o h with h1 | ⟨m, f, o', h1, f'⟩
  · rcases j a o h1 with h2 | ⟨n, f, o2, h2, f2⟩
    · exact .inl h2
    · rcases s a n with m | e
      · exact .inr ⟨m, f, o2, h2, f2⟩
      · rw [e] at h; cases h
  · rcases j a o' h1 with h2 | ⟨n, f2, o2, h2, f3⟩
    · exact .inr ⟨m, f, o', h2, f'⟩
    · exact .inr ⟨m, f, o2, h2, f3⟩
theorem Kp.tr0 {M : Addr → Prop} {H H1 H2 : Hp} (k : Kp M H H1) (j : Kp no H1 H2) : Kp M H H2 := k.tr j fun _ z => z.elim
theorem Kp.tr' {M : Addr → Prop} {H H1 H2 : Hp} (k : Kp M H H1) (j : Kp M H1 H2) : Kp M H H2 := k.tr j fun _ z => .inl z
theorem Kp.mono {M N : Addr → Prop} {H H' : Hp} (k : Kp M H H') (s : ∀ a, M a → N a ∨ H a = none) : Kp N H H' := Kp.tr (M := N) Kp.refl k s
theorem Kp.of0 {N : Addr → Prop} {H H' : Hp} (k : Kp no H H') : Kp N H H' := k.mono fun _ z => z.elim
theorem Kp.new {M : Addr → Prop} {H : Hp} {p : Addr} {o : HO} (h : H p = none) : Kp M H (upd H p o) := fun a u e => .inl (by rw [upd_ne (ne_of_none e h)]; exact e)
theorem Kp.set {H : Hp} {l : Addr} {u o : HO} (h : H l = some u) (f : fixO u = false) (g : fixO o = false) : Kp (at1 l) H (upd H l o) := fun a v e => by
  by_cases q : a = l
  · subst q
    rw [h] at e; cases e
    exact .inr ⟨rfl, f, o, upd_same, g⟩
  · exact .inl (by rw [upd_ne q]; exact e)
theorem Kp.free {M : Addr → Prop} {H H' : Hp} (k : Kp M H H') {p : Addr} (h : H' p = none) : H p = none := by
  cases e : H p with
  | none => rfl
  | some o =>
    rcases k p o e with q | ⟨_, _, o', q, _⟩
    · rw [h] at q; cases q
    · rw [h] at q; cases q
theorem Kp.at {M : Addr → Prop} {H H' : Hp} (k : Kp M H H') {a : Addr} {o : HO} (m : ¬ M a) (h : H a = some o) : H' a = some o := by
  rcases k a o h with q | ⟨z, _⟩
  · exact q
  · exact absurd z m
theorem Kp.fix {M : Addr → Prop} {H H' : Hp} (k : Kp M H H') {a : Addr} {o : HO} (f : fixO o = true) (h : H a = some o) : H' a = some o := by
  rcases k a o h with q | ⟨_, z, _⟩
  · exact q
  · rw [f] at z; cases z
/-- a step that changes f, which H does not know -/
theorem Kp.own {M : Addr → Prop} {H H1 H2 : Hp} {f : Addr} (k : Kp M H H1) (h : H f = none) (j : Kp (at1 f) H1 H2) : Kp M H H2 := k.tr j fun a e => by
  cases e
  exact .inr h
theorem ne_none {H : Hp} {a b : Addr} {o : HO} (h : H a = some o) (h' : H b = none) : b ≠ a := (ne_of_none h h').symm

/-! ### data -/
mutual
/-- v is the data d; each list in it stands at a place in G -/
inductive Dg (G : Addr → Prop) (K : PySem.W.Frag) (H : Hp) : V → PyData → Prop
  | non : Dg G K H .non .none
  | bl (b : Bool) : Dg G K H (.bl b) (.bool b)
  | int (i : Int) : Dg G K H (.int i) (.int i)
  | str (x : Str) : Dg G K H (.str x) (.str x)
  | lst {a : Addr} {xs : List V} {ds : List PyData} : G a → SqL K H a xs → DA G K H xs ds → Dg G K H (.ref a) (.list ds)
  | tup {a : Addr} {xs : List V} {ds : List PyData} : SqT K H a xs → DA G K H xs ds → Dg G K H (.ref a) (.tuple ds)
inductive DA (G : Addr → Prop) (K : PySem.W.Frag) (H : Hp) : List V → List PyData → Prop
  | nil : DA G K H [] []
  | cons {v : V} {vs : List V} {d : PyData} {ds : List PyData} : Dg G K H v d → DA G K H vs ds → DA G K H (v :: vs) (d :: ds)
end
/-- data without lists -/
abbrev Dz (K : PySem.W.Frag) (H : Hp) (v : V) (d : PyData) : Prop := Dg no K H v d
section
variable {G G' M : Addr → Prop} {K : PySem.W.Frag} {H H' : Hp}
theorem SqT.kp {a : Addr} {xs : List V} (k : Kp M H H') (h : SqT K H a xs) : SqT K H' a xs := by
  rcases h with (h | ⟨o, h⟩) | h
  · exact .inl (.inl (k.fix rfl h))
  · exact .inl (.inr ⟨o, k.fix rfl h⟩)
  · exact .inr h
theorem SqL.kp {a : Addr} {xs : List V} (k : Kp M H H') (m : ¬ M a) (h : SqL K H a xs) : SqL K H' a xs := by
  rcases h with (h | ⟨o, h⟩) | h
  · exact .inl (.inl (k.at m h))
  · exact .inl (.inr ⟨o, k.fix rfl h⟩)
  · exact .inr h
mutual
theorem Dg.kp (k : Kp M H H') (s : ∀ a, G a → ¬ M a) : ∀ {d : PyData} {v : V}, Dg G K H v d → Dg G K H' v d
  | _, _, .non => .non
  | _, _, .bl b => .bl b
  | _, _, .int i => .int i
  | _, _, .str x => .str x
  | _, _, .lst g h t => .lst g (SqL.kp k (s _ g) h) (DA.kp k s t)
  | _, _, .tup h t => .tup (SqT.kp k h) (DA.kp k s t)
theorem DA.kp (k : Kp M H H') (s : ∀ a, G a → ¬ M a) : ∀ {ds : List PyData} {vs : List V}, DA G K H vs ds → DA G K H' vs ds
  | _, _, .nil => .nil
  | _, _, .cons h t => .cons (Dg.kp k s h) (DA.kp k s t)
end
mutual
theorem Dg.mono (s : ∀ a, G a → G' a) : ∀ {d : PyData} {v : V}, Dg G K H v d → Dg G' K H v d
  | _, _, .non => .non
  | _, _, .bl b => .bl b
  | _, _, .int i => .int i
  | _, _, .str x => .str x
  | _, _, .lst g h t => .lst (s _ g) h (DA.mono s t)
  | _, _, .tup h t => .tup h (DA.mono s t)
theorem DA.mono (s : ∀ a, G a → G' a) : ∀ {ds : List PyData} {vs : List V}, DA G K H vs ds → DA G' K H vs ds
  | _, _, .nil => .nil
  | _, _, .cons h t => .cons (Dg.mono s h) (DA.mono s t)
end
mutual
theorem Dg.dp : ∀ {d : PyData} {v : V}, Dg G K H v d → Dp K H v d
  | _, _, .non => .non
  | _, _, .bl b => .bl b
  | _, _, .int i => .int i
  | _, _, .str x => .str x
  | _, _, .lst g h t => .lst h (DA.dp t)
  | _, _, .tup h t => .tup h (DA.dp t)
theorem DA.dp : ∀ {ds : List PyData} {vs : List V}, DA G K H vs ds → DpAll K H vs ds
  | _, _, .nil => .nil
  | _, _, .cons h t => .cons (Dg.dp h) (DA.dp t)
end
theorem Dg.z (h : Dz K H v d) : Dg G K H v d := h.mono fun _ z => z.elim
theorem DA.z (h : DA no K H vs ds) : DA G K H vs ds := h.mono fun _ z => z.elim
theorem Dz.kp {v : V} {d : PyData} (k : Kp M H H') (h : Dz K H v d) : Dz K H' v d := Dg.kp k (fun _ z => z.elim) h
theorem DAz.kp {vs : List V} {ds : List PyData} (k : Kp M H H') (h : DA no K H vs ds) : DA no K H' vs ds := DA.kp k (fun _ z => z.elim) h

theorem DA.len : ∀ {vs : List V} {ds : List PyData}, DA G K H vs ds → vs.length = ds.length
  | _, _, .nil => rfl
  | _, _, .cons _ t => by rw [List.length_cons, List.length_cons, t.len]
theorem DA.get : ∀ {vs : List V} {ds : List PyData} {i : Nat} {d : PyData}, DA G K H vs ds → ds[i]? = some d → ∃ v, vs[i]? = some v ∧ Dg G K H v d
  | _, _, i, d, .nil, e => by simp at e
  | _, _, 0, d, .cons h _, e => by simp at e; subst e; exact ⟨_, rfl, h⟩
  | _, _, i + 1, d, .cons _ t, e => by
    obtain ⟨v, h1, h2⟩ := DA.get (i := i) (d := d) t (by simpa using e)
    exact ⟨v, by simpa using h1, h2⟩
theorem DA.getV : ∀ {vs : List V} {ds : List PyData} {i : Nat} {v : V}, DA G K H vs ds → vs[i]? = some v → ∃ d, ds[i]? = some d ∧ Dg G K H v d
  | _, _, i, d, .nil, e => by simp at e
  | _, _, 0, d, .cons h _, e => by simp at e; subst e; exact ⟨_, rfl, h⟩
  | _, _, i + 1, d, .cons _ t, e => by
    obtain ⟨v, h1, h2⟩ := DA.getV (i := i) (v := d) t (by simpa using e)
    exact ⟨v, by simpa using h1, h2⟩
theorem DA.app : ∀ {vs ws : List V} {ds es : List PyData}, DA G K H vs ds → DA G K H ws es → DA G K H (vs ++ ws) (ds ++ es)
  | _, _, _, _, .nil, s => s
  | _, _, _, _, .cons h t, s => .cons h (DA.app t s)
theorem DA.one {v : V} {d : PyData} (h : Dg G K H v d) : DA G K H [v] [d] := .cons h .nil
theorem DA.snoc {vs : List V} {ds : List PyData} {v : V} {d : PyData} (h : DA G K H vs ds) (g : Dg G K H v d) : DA G K H (vs ++ [v]) (ds ++ [d]) := h.app (.one g)
theorem DA.set : ∀ {vs : List V} {ds : List PyData} {v : V} {d : PyData} (i : Nat), DA G K H vs ds → Dg G K H v d → DA G K H (vs.set i v) (ds.set i d)
  | _, _, _, _, _, .nil, _ => .nil
  | _, _, _, _, 0, .cons _ t, g => .cons g t
  | _, _, _, _, i + 1, .cons h t, g => .cons h (DA.set i t g)
theorem DA.take : ∀ {vs : List V} {ds : List PyData} (n : Nat), DA G K H vs ds → DA G K H (vs.take n) (ds.take n)
  | _, _, 0, _ => .nil
  | _, _, _ + 1, .nil => .nil
  | _, _, n + 1, .cons r t => .cons r (DA.take n t)
theorem DA.drop : ∀ {vs : List V} {ds : List PyData} (n : Nat), DA G K H vs ds → DA G K H (vs.drop n) (ds.drop n)
  | _, _, 0, r => r
  | _, _, _ + 1, .nil => .nil
  | _, _, n + 1, .cons _ t => DA.drop n t
theorem DA.erase : ∀ {vs : List V} {ds : List PyData} (n : Nat), DA G K H vs ds → DA G K H (vs.eraseIdx n) (ds.eraseIdx n)
  | _, _, _, .nil => .nil
  | _, _, 0, .cons _ t => t
  | _, _, n + 1, .cons r t => .cons r (DA.erase n t)
theorem DA.rev {vs : List V} {ds : List PyData} (h : DA G K H vs ds) : DA G K H vs.reverse ds.reverse := by
  induction h using DA.rec (motive_1 := fun _ _ _ => True) with
  | nil => exact .nil
  | cons g t _ ih => rw [List.reverse_cons, List.reverse_cons]; exact ih.app (.one g)
  | non => trivial
  | bl => trivial
  | int => trivial
  | str => trivial
  | lst => trivial
  | tup => trivial
theorem DA.ints : ∀ (ns : List Int), DA G K H (ns.map V.int) (ns.map PyData.int)
  | [] => .nil
  | n :: ns => .cons (.int n) (DA.ints ns)
theorem DA.ints_of : ∀ {ns : List Int} {vs : List V}, DA G K H vs (ns.map PyData.int) → vs = ns.map V.int
  | [], _, h => by cases h; rfl
  | n :: ns, _, h => by
    cases h with
    | cons g t =>
      cases g
      rw [DA.ints_of t]
      rfl
theorem DA.bls_of : ∀ {ns : List Bool} {vs : List V}, DA G K H vs (ns.map PyData.bool) → vs = ns.map V.bl
  | [], _, h => by cases h; rfl
  | n :: ns, _, h => by
    cases h with
    | cons g t =>
      cases g
      rw [DA.bls_of t]
      rfl
theorem Dg.int_of {v : V} {i : Int} (h : Dg G K H v (.int i)) : v = .int i := by cases h; rfl
theorem Dg.bl_of {v : V} {i : Bool} (h : Dg G K H v (.bool i)) : v = .bl i := by cases h; rfl
theorem Dg.str_of {v : V} {i : Str} (h : Dg G K H v (.str i)) : v = .str i := by cases h; rfl
theorem Dg.non_of {v : V} (h : Dg G K H v .none) : v = .non := by cases h; rfl
theorem Dg.tup_of {v : V} {ds : List PyData} (h : Dg G K H v (.tuple ds)) : ∃ a xs, v = .ref a ∧ SqT K H a xs ∧ DA G K H xs ds := by
  cases h with
  | tup h t => exact ⟨_, _, rfl, h, t⟩
theorem Dg.lst_of {v : V} {ds : List PyData} (h : Dg G K H v (.list ds)) : ∃ a xs, v = .ref a ∧ G a ∧ SqL K H a xs ∧ DA G K H xs ds := by
  cases h with
  | lst g h t => exact ⟨_, _, rfl, g, h, t⟩
theorem Dg.tupI_of {v : V} {ns : List Int} (h : Dg G K H v (.tuple (ns.map PyData.int))) : ∃ a, v = .ref a ∧ SqT K H a (ns.map V.int) := by
  obtain ⟨a, xs, e, h1, h2⟩ := h.tup_of
  rw [h2.ints_of] at h1
  exact ⟨a, e, h1⟩
theorem Dg.tupI {a : Addr} {ns : List Int} (h : SqT K H a (ns.map V.int)) : Dg G K H (.ref a) (.tuple (ns.map PyData.int)) := .tup h (.ints ns)
end
end Fc

set_option Elab.async false
set_option linter.all false
set_option maxRecDepth 100000
set_option maxHeartbeats 4000000
namespace Fc
open PySem L2 RZ

/-! ### readings by names -/
def rAddI : R2 := rI0 fun i j => .int (i + j)
def rSubI : R2 := rI0 fun i j => .int (i - j)
def rMulI : R2 := rI CMul fun i j => .int (i * j)
def rDivI : R2 := rI CDiv fun i j => .int (i / j)
def rModI : R2 := rI (fun _ j => 0 < j) fun i j => .int (i % j)
def rPowI : R2 := rI CPow fun i j => .int (i ^ j.toNat)
def rShlI : R2 := rI CPow fun i j => .int (i * 2 ^ j.toNat)
def rShrI : R2 := rI (fun _ j => 0 ≤ j) fun i j => .int (i / 2 ^ j.toNat)
def rAndI : R2 := rI0 fun i j => .int (Builtin.bitAnd i j)
def rOrI : R2 := rI0 fun i j => .int (Builtin.bitOr i j)
def rXorI : R2 := rI0 fun i j => .int (Builtin.bitXor i j)
def rLtI : R2 := rI0 fun i j => .bl (decide (i < j))
def rLeI : R2 := rI0 fun i j => .bl (decide (i ≤ j))
def rGtI : R2 := rI0 fun i j => .bl (decide (j < i))
def rGeI : R2 := rI0 fun i j => .bl (decide (j ≤ i))
def rNegI : V → Hp → VK → Prop := rU fun i => .int (-i)
def rIpAdd : TIp := ipI fun i j => i + j
def rAbs : List V → Hp → VK → Prop := fun xs H Q => ∃ i, xs = [.int i] ∧ Q (.int (if i < 0 then -i else i)) H
def rMin2 : List V → Hp → VK → Prop := fun xs H Q => ∃ i j, xs = [.int i, .int j] ∧ Q (.int (if j < i then j else i)) H
def rMax2 : List V → Hp → VK → Prop := fun xs H Q => ∃ i j, xs = [.int i, .int j] ∧ Q (.int (if j > i then j else i)) H
def rInt1 : List V → Hp → VK → Prop := fun xs H Q => (∃ i, xs = [.int i] ∧ Q (.int i) H) ∨ ∃ k, xs = [.bl k] ∧ Q (.int (if k then 1 else 0)) H
def rLenQ (K : PySem.W.Frag) : List V → Hp → VK → Prop := fun xs H Q => ∃ p ys, xs = [.ref p] ∧ (SqL K H p ys ∨ SqT K H p ys) ∧ Q (.int ys.length) H
def rLenStr : List V → Hp → VK → Prop := fun xs H Q => ∃ z, xs = [.str z] ∧ z.length ≤ sizeLine ∧ Q (.int z.length) H
def rLenD : List V → Hp → VK → Prop := fun xs H Q => ∃ a kvs, xs = [V.ref a] ∧ H a = some (.dK kvs) ∧ Q (.int kvs.length) H
def rListOf (K : PySem.W.Frag) : List V → Hp → VK → Prop := fun xs H Q => ∃ p ys, xs = [.ref p] ∧ (SqL K H p ys ∨ SqT K H p ys) ∧ ∀ l, H l = none → Q (.ref l) (upd H l (.lst ys))
def rTupOf (K : PySem.W.Frag) : List V → Hp → VK → Prop := fun xs H Q => ∃ p ys, xs = [.ref p] ∧ ((SqL K H p ys ∧ ∀ l, H l = none → Q (.ref l) (upd H l (.tup ys))) ∨ (SqT K H p ys ∧ Q (.ref p) H))
def rInsert : V → List V → Hp → VK → Prop := fun x vs H Q => ∃ (l : Addr) (xs : List V) (i : Int) (y : V), x = .ref l ∧ vs = [.int i, y] ∧ H l = some (.lst xs) ∧ xs.length < sizeLine ∧ 0 ≤ i ∧ i < 2 ^ 63 ∧ Q .non (upd H l (.lst (xs.take i.toNat ++ y :: xs.drop i.toNat)))

/-! ### what follows, by names (the goal's first word chooses the step) -/
def kTest (Q : Bool → Hp → Prop) : VK := fun x H' => ∃ k, x = .bl k ∧ Q k H'
def kPar (a : L2.St → Hp → Prop) (i j : Nat) (σ : L2.St) : List V → Hp → Prop := fun vs H1 => ∃ v w, vs = [v, w] ∧ a ((σ.set i (some v)).set j (some w)) H1
def kTup (Q : VK) : List V → Hp → Prop := fun xs H1 => xs.length ≤ sizeLine ∧ ∀ p, H1 p = none → Q (.ref p) (upd H1 p (.tup xs))
def kLst (Q : VK) : List V → Hp → Prop := fun xs H1 => xs.length ≤ sizeLine ∧ ∀ p, H1 p = none → Q (.ref p) (upd H1 p (.lst xs))
def kRng1 (R : It → Hp → Prop) : List V → Hp → Prop := fun vs H1 => ∃ j : Int, vs = [.int j] ∧ -(2 ^ 62) ≤ j ∧ j < 2 ^ 62 ∧ R (Itr 0 j.toNat) H1
def kRng2 (R : It → Hp → Prop) : List V → Hp → Prop := fun vs H1 => ∃ i j : Int, vs = [.int i, .int j] ∧ (-(2 ^ 62) ≤ i ∧ i < 2 ^ 62 ∧ -(2 ^ 62) ≤ j ∧ j < 2 ^ 62) ∧ R (Itr i (j - i).toNat) H1
def kList (K : PySem.W.Frag) (R : It → Hp → Prop) : VK := fun x H1 => ∃ a, x = .ref a ∧ (∃ xs, SqL K H1 a xs) ∧ R (Itl K a) H1
def kTupI (K : PySem.W.Frag) (R : It → Hp → Prop) : VK := fun x H1 => ∃ a, x = .ref a ∧ (∃ xs, SqT K H1 a xs) ∧ R (Itt K a) H1
def kZip (K : PySem.W.Frag) (R : It → Hp → Prop) : List V → Hp → Prop := fun vs H1 => ∃ a b xs ys, vs = [.ref a, .ref b] ∧ ((SqL K H1 a xs ∧ SqL K H1 b ys ∧ R (Itz K a b) H1) ∨ (SqT K H1 a xs ∧ SqT K H1 b ys ∧ R (ItzT K a b) H1))
def kEnum (K : PySem.W.Frag) (R : It → Hp → Prop) : List V → Hp → Prop := fun vs H1 => ∃ a xs, vs = [.ref a] ∧ SqL K H1 a xs ∧ R (Ite K a) H1
def kFor (J : It) (g : TG) (tb : TS) (D : Ends) (σ : L2.St) (H1 : Hp) : Prop := ∃ W : Nat → Nat → L2.St → Hp → Prop, (∃ m, W 0 m σ H1) ∧ ∀ i m σ H, W i m σ H →
  (J.stop i H ∧ D.nx σ H) ∨ (J.go i H ∧ ∃ N : L2.St → Hp → Prop, (∀ σ' H', N σ' H' → ∃ m', m' < m ∧ W (i + 1) m' σ' H') ∧ ∀ x H', J.yld i H x H' → g x σ H' fun σ2 H2 => tb { D with nx := N, ct := N, bk := D.nx } σ2 H2)
def kLc (J : It) (g : TG) (tt : TT) (te : TE) (vs : List Nat) (σ : L2.St) (Q : VK) (H1 : Hp) : Prop := ∀ D, H1 D = none → ∃ W : Nat → Nat → Hp → Prop, (∃ m, W 0 m (upd H1 D (.lst []))) ∧ ∀ i m H, W i m H →
  (J.stop i H ∧ Q (.ref D) H) ∨ (J.go i H ∧ ∃ Nx : Hp → Prop, (∀ H', Nx H' → ∃ m', m' < m ∧ W (i + 1) m' H') ∧ ∀ x H', J.yld i H x H' → g x (wipe σ vs) H' fun σ2 H2 => wipe σ2 vs = wipe σ vs ∧ tt σ2 H2 fun b H3 =>
    if b = true then te σ2 H3 fun y H4 => ∃ acc, H4 D = some (.lst acc) ∧ acc.length < sizeLine ∧ Nx (upd H4 D (.lst (acc ++ [y]))) else Nx H3)
def kChain (r' : R2) (tc : TE) (y : V) (σ : L2.St) (Q : VK) : VK := fun z H3 => ∃ k, z = .bl k ∧ (if k = true then tc σ H3 fun w' H4 => r' y w' H4 Q else Q (.bl false) H3)
def kRg (Q : VK) : Int → Int → Hp → Prop := fun a b H1 => RgOk a b ∧ ∀ q, H1 q = none → Q (.ref q) (upd H1 q (.lst (rgV a b)))
def kRg1 (Q : Int → Int → Hp → Prop) : VK := fun x H1 => ∃ n, x = .int n ∧ Q 0 n H1
def kRg2 (Q : Int → Int → Hp → Prop) (x : V) : VK := fun y H2 => ∃ i j, x = .int i ∧ y = .int j ∧ Q i j H2
def kBM (K : PySem.W.Frag) (T : String) (r : V → List V → Hp → VK → Prop) (t : TA) (σ : L2.St) (Q : VK) : VK := fun x H1 => tyV K T x H1 ∧ t σ H1 fun xs H2 => r x xs H2 Q
def kBM0 (K : PySem.W.Frag) (T : String) (r : V → List V → Hp → VK → Prop) (Q : VK) : VK := fun x H1 => tyV K T x H1 ∧ r x [] H1 Q

/-! ### steps: from the reading to what follows. The words of the goal choose the lemma -/
section
variable {K : PySem.W.Frag} {σ : L2.St} {H : Hp} {Q : VK} {D : Ends} {ta tb tc te : TE} {t u : TS} {tt tu : TT} {a c d : L2.St → Hp → Prop} {b : VK}
theorem w_var {i : Nat} {v : V} (e : σ[i]? = some (some v)) (q : Q v H) : tVar i σ H Q := ⟨v, e, q⟩
theorem w_c {v : V} (q : Q v H) : tC v σ H Q := q
theorem w_op {r : R2} (q : ta σ H fun x H1 => tb σ H1 fun y H2 => r x y H2 Q) : tOp r ta tb σ H Q := q
theorem w_un {r : V → Hp → VK → Prop} (q : ta σ H fun x H1 => r x H1 Q) : tUn r ta σ H Q := q
theorem w_nil {Q : List V → Hp → Prop} (q : Q [] H) : tNil σ H Q := q
theorem w_cons {tr : TA} {Q : List V → Hp → Prop} (q : ta σ H fun x H1 => tr σ H1 fun xs H2 => Q (x :: xs) H2) : tCons ta tr σ H Q := q
theorem w_cb {r : List V → Hp → VK → Prop} {ts : TA} (q : ts σ H fun vs H1 => r vs H1 Q) : tCB r ts σ H Q := q
theorem w_call {sp : Sp} {dvs : List V} {E : XK} {ts : TA} (q : ts σ H fun vs H1 => sp (vs ++ dvs) H1 Q E) : tCall sp dvs E ts σ H Q := q
theorem w_seq (q : t ⟨u ⟨a, b, c, d⟩, b, c, d⟩ σ H) : tSeq t u ⟨a, b, c, d⟩ σ H := q
theorem w_next (q : a σ H) : tNext ⟨a, b, c, d⟩ σ H := q
theorem w_brk (q : c σ H) : tBreak ⟨a, b, c, d⟩ σ H := q
theorem w_cnt (q : d σ H) : tCont ⟨a, b, c, d⟩ σ H := q
theorem w_asg {g : TG} (q : te σ H fun x H1 => g x σ H1 a) : tAsg te g ⟨a, b, c, d⟩ σ H := q
theorem w_gname {i : Nat} {v : V} {Q : L2.St → Hp → Prop} (q : Q (σ.set i (some v)) H) : gName i v σ H Q := q
theorem w_gsub {to ti : TE} {s : TSet} {v : V} {Q : L2.St → Hp → Prop} (q : to σ H fun o H1 => ti σ H1 fun i H2 => s o i v H2 fun H3 => Q σ H3) : gSub to ti s v σ H Q := q
theorem w_drop (q : te σ H fun _ H1 => a σ H1) : tDrop te ⟨a, b, c, d⟩ σ H := q
theorem w_ret (q : te σ H b) : tRet te ⟨a, b, c, d⟩ σ H := q
theorem w_retN (q : b .non H) : tRetN ⟨a, b, c, d⟩ σ H := q
theorem w_ifs (q : tt σ H fun x H1 => if x = true then t D σ H1 else u D σ H1) : tIfS tt t u D σ H := q
theorem w_aug {i : Nat} {ti : TIp} {x : V} (e : σ[i]? = some (some x)) (q : te σ H fun y H1 => ti x y H1 fun z H2 => a (σ.set i (some z)) H2) : tAug i te ti ⟨a, b, c, d⟩ σ H := ⟨x, e, q⟩
theorem w_test {Q : Bool → Hp → Prop} (q : te σ H (kTest Q)) : tTest te σ H Q := q
theorem w_tb {Q : Bool → Hp → Prop} (q : te σ H (kTest Q)) : tB te σ H Q := q
theorem w_bl {b : Bool} {Q : Bool → Hp → Prop} (q : Q b H) : kTest Q (.bl b) H := ⟨b, rfl, q⟩
theorem w_and {Q : Bool → Hp → Prop} (q : tt σ H fun c H1 => if c = true then tu σ H1 Q else Q false H1) : tAnd tt tu σ H Q := q
theorem w_or {Q : Bool → Hp → Prop} (q : tt σ H fun c H1 => if c = true then Q true H1 else tu σ H1 Q) : tOr tt tu σ H Q := q
theorem w_not {Q : Bool → Hp → Prop} (q : tt σ H fun c H1 => Q (!c) H1) : tNot tt σ H Q := q
theorem w_andV (q : ta σ H (kTest fun c H1 => if c = true then tb σ H1 Q else Q (.bl false) H1)) : tAndV ta tb σ H Q := q
theorem w_orV (q : ta σ H (kTest fun c H1 => if c = true then Q (.bl true) H1 else tb σ H1 Q)) : tOrV ta tb σ H Q := q
theorem w_notV (q : ta σ H (kTest fun c H1 => Q (.bl (!c)) H1)) : tNotV ta σ H Q := q
theorem w_ifx (q : tt σ H fun c H1 => if c = true then ta σ H1 Q else tb σ H1 Q) : tIf tt ta tb σ H Q := q
theorem w_chain {r r' : R2} (q : ta σ H fun x H1 => tb σ H1 fun y H2 => r x y H2 (kChain r' tc y σ Q)) : tChain r r' ta tb tc σ H Q := q
theorem w_kchainF {r' : R2} {y : V} {k : Bool} (e : k = false) (h2 : Q (.bl false) H) : kChain r' tc y σ Q (.bl k) H := by subst e; exact ⟨false, rfl, h2⟩
theorem w_kchainT {r' : R2} {y : V} {k : Bool} (e : k = true) (h1 : tc σ H fun w' H4 => r' y w' H4 Q) : kChain r' tc y σ Q (.bl k) H := by subst e; exact ⟨true, rfl, h1⟩
theorem w_kchain {r' : R2} {y : V} {k : Bool} (h1 : k = true → tc σ H fun w' H4 => r' y w' H4 Q) (h2 : k = false → Q (.bl false) H) : kChain r' tc y σ Q (.bl k) H := ⟨k, rfl, by
  cases k with
  | true => exact h1 rfl
  | false => exact h2 rfl⟩
theorem w_par {i j : Nat} {ts : TA} (q : ts σ H (kPar a i j σ)) : tPar i j ts ⟨a, b, c, d⟩ σ H := q
theorem w_kpar {i j : Nat} {v w : V} (q : a ((σ.set i (some v)).set j (some w)) H) : kPar a i j σ [v, w] H := ⟨v, w, rfl, q⟩
theorem w_cut (M : L2.St → Hp → Prop) (h : t ⟨M, b, c, d⟩ σ H) (k : ∀ σ' H', M σ' H' → u ⟨a, b, c, d⟩ σ' H') : Evl.tCut t u ⟨a, b, c, d⟩ σ H := ⟨M, h, k⟩
theorem w_if {b : Bool} {A B : Prop} (h1 : b = true → A) (h2 : b = false → B) : if b = true then A else B := by
  cases b with
  | true => exact h1 rfl
  | false => exact h2 rfl
theorem w_ift {A B : Prop} (h : A) : if true = true then A else B := h
theorem w_ifT {b : Bool} {A B : Prop} (e : b = true) (h : A) : if b = true then A else B := by rw [if_pos e]; exact h
theorem w_ifF {b : Bool} {A B : Prop} (e : b = false) (h : B) : if b = true then A else B := by rw [e]; exact h
theorem w_iff {A B : Prop} (h : B) : if false = true then A else B := h

/-! ints -/
theorem w_add {i j : Int} (q : Q (.int (i + j)) H) : rAddI (.int i) (.int j) H Q := ⟨i, j, rfl, rfl, q⟩
theorem w_sub {i j : Int} (q : Q (.int (i - j)) H) : rSubI (.int i) (.int j) H Q := ⟨i, j, rfl, rfl, q⟩
theorem w_mul {i j : Int} (c : CMul i j) (q : Q (.int (i * j)) H) : rMulI (.int i) (.int j) H Q := ⟨i, j, rfl, rfl, c, q⟩
theorem w_div {i j : Int} (c : 0 < j ∧ j < 1073741824) (q : Q (.int (i / j)) H) : rDivI (.int i) (.int j) H Q := ⟨i, j, rfl, rfl, c, q⟩
theorem w_mod {i j : Int} (c : 0 < j) (q : Q (.int (i % j)) H) : rModI (.int i) (.int j) H Q := ⟨i, j, rfl, rfl, c, q⟩
theorem w_pow {i j : Int} (c : CPow i j) (q : Q (.int (i ^ j.toNat)) H) : rPowI (.int i) (.int j) H Q := ⟨i, j, rfl, rfl, c, q⟩
theorem w_shl {i j : Int} (c : CPow i j) (q : Q (.int (i * 2 ^ j.toNat)) H) : rShlI (.int i) (.int j) H Q := ⟨i, j, rfl, rfl, c, q⟩
theorem w_shr {i j : Int} (c : 0 ≤ j) (q : Q (.int (i / 2 ^ j.toNat)) H) : rShrI (.int i) (.int j) H Q := ⟨i, j, rfl, rfl, c, q⟩
theorem w_andI {i j : Int} (q : Q (.int (Builtin.bitAnd i j)) H) : rAndI (.int i) (.int j) H Q := ⟨i, j, rfl, rfl, q⟩
theorem w_orI {i j : Int} (q : Q (.int (Builtin.bitOr i j)) H) : rOrI (.int i) (.int j) H Q := ⟨i, j, rfl, rfl, q⟩
theorem w_xorI {i j : Int} (q : Q (.int (Builtin.bitXor i j)) H) : rXorI (.int i) (.int j) H Q := ⟨i, j, rfl, rfl, q⟩
theorem w_lt {i j : Int} (q : Q (.bl (decide (i < j))) H) : rLtI (.int i) (.int j) H Q := ⟨i, j, rfl, rfl, q⟩
theorem w_le {i j : Int} (q : Q (.bl (decide (i ≤ j))) H) : rLeI (.int i) (.int j) H Q := ⟨i, j, rfl, rfl, q⟩
theorem w_gt {i j : Int} (q : Q (.bl (decide (j < i))) H) : rGtI (.int i) (.int j) H Q := ⟨i, j, rfl, rfl, q⟩
theorem w_ge {i j : Int} (q : Q (.bl (decide (j ≤ i))) H) : rGeI (.int i) (.int j) H Q := ⟨i, j, rfl, rfl, q⟩
theorem w_neg {i : Int} (q : Q (.int (-i)) H) : rNegI (.int i) H Q := ⟨i, rfl, q⟩
theorem w_ipadd {i j : Int} (q : Q (.int (i + j)) H) : rIpAdd (.int i) (.int j) H Q := ⟨i, j, rfl, rfl, q⟩
theorem w_abs {i : Int} (q : Q (.int (if i < 0 then -i else i)) H) : rAbs [.int i] H Q := ⟨i, rfl, q⟩
theorem w_min2 {i j : Int} (q : Q (.int (if j < i then j else i)) H) : rMin2 [.int i, .int j] H Q := ⟨i, j, rfl, q⟩
theorem w_max2 {i j : Int} (q : Q (.int (if j > i then j else i)) H) : rMax2 [.int i, .int j] H Q := ⟨i, j, rfl, q⟩
theorem w_int1 {k : Bool} (q : Q (.int (if k then 1 else 0)) H) : rInt1 [.bl k] H Q := .inr ⟨k, rfl, q⟩
theorem w_int1i {i : Int} (q : Q (.int i) H) : rInt1 [.int i] H Q := .inl ⟨i, rfl, q⟩
theorem w_eqI {i j : Int} (q : Q (.bl (decide (i = j))) H) : rEq (.int i) (.int j) H Q := ⟨rfl, by
  have e : decide (V.int i = V.int j) = decide (i = j) := decide_eq_decide.mpr ⟨fun h => V.int.inj h, fun h => by rw [h]⟩
  rw [e]; exact q⟩
theorem w_neI {i j : Int} (q : Q (.bl (!decide (i = j))) H) : rNe (.int i) (.int j) H Q := ⟨rfl, by
  have e : decide (V.int i = V.int j) = decide (i = j) := decide_eq_decide.mpr ⟨fun h => V.int.inj h, fun h => by rw [h]⟩
  rw [e]; exact q⟩
theorem w_eqB {i j : Bool} (q : Q (.bl (decide (i = j))) H) : rEq (.bl i) (.bl j) H Q := ⟨rfl, by
  have e : decide (V.bl i = V.bl j) = decide (i = j) := decide_eq_decide.mpr ⟨fun h => V.bl.inj h, fun h => by rw [h]⟩
  rw [e]; exact q⟩
theorem w_neB {i j : Bool} (q : Q (.bl (!decide (i = j))) H) : rNe (.bl i) (.bl j) H Q := ⟨rfl, by
  have e : decide (V.bl i = V.bl j) = decide (i = j) := decide_eq_decide.mpr ⟨fun h => V.bl.inj h, fun h => by rw [h]⟩
  rw [e]; exact q⟩
theorem w_isN {x : V} (q : Q (.bl (decide (x = .non))) H) : rIsN x .non H Q := ⟨rfl, q⟩
theorem w_notN {x : V} (q : Q (.bl (!decide (x = .non))) H) : rNotN x .non H Q := ⟨rfl, q⟩

/-! things that are made: a new place, what stood stays -/
theorem w_tup {ts : TA} (q : ts σ H (kTup Q)) : tTup ts σ H Q := q
theorem w_lst {ts : TA} (q : ts σ H (kLst Q)) : tLst ts σ H Q := q
theorem w_ktup {xs : List V} (l : xs.length ≤ sizeLine) (q : ∀ p H', H p = none → Kp no H H' → H' p = some (.tup xs) → Q (.ref p) H') : kTup Q xs H :=
  ⟨l, fun p hp => q p _ hp (Kp.new hp) upd_same⟩
theorem w_klst {xs : List V} (l : xs.length ≤ sizeLine) (q : ∀ p H', H p = none → Kp no H H' → H' p = some (.lst xs) → Q (.ref p) H') : kLst Q xs H :=
  ⟨l, fun p hp => q p _ hp (Kp.new hp) upd_same⟩
theorem w_listOf {p : Addr} {ys : List V} (h : SqL K H p ys ∨ SqT K H p ys) (q : ∀ l H', H l = none → Kp no H H' → H' l = some (.lst ys) → Q (.ref l) H') : rListOf K [.ref p] H Q :=
  ⟨p, ys, rfl, h, fun l hl => q l _ hl (Kp.new hl) upd_same⟩
theorem w_tupOfL {p : Addr} {ys : List V} (h : SqL K H p ys) (q : ∀ l H', H l = none → Kp no H H' → H' l = some (.tup ys) → Q (.ref l) H') : rTupOf K [.ref p] H Q :=
  ⟨p, ys, rfl, .inl ⟨h, fun l hl => q l _ hl (Kp.new hl) upd_same⟩⟩
theorem w_tupOfT {p : Addr} {ys : List V} (h : SqT K H p ys) (q : Q (.ref p) H) : rTupOf K [.ref p] H Q := ⟨p, ys, rfl, .inr ⟨h, q⟩⟩
theorem w_cat {a b : Addr} {xs ys : List V} (h1 : H a = some (.lst xs)) (h2 : H b = some (.lst ys)) (l : xs.length + ys.length ≤ sizeLine) (q : ∀ p H', H p = none → Kp no H H' → H' p = some (.lst (xs ++ ys)) → Q (.ref p) H') : rCat (.ref a) (.ref b) H Q :=
  ⟨a, b, xs, ys, rfl, rfl, h1, h2, l, fun p hp => q p _ hp (Kp.new hp) upd_same⟩
theorem w_slL {a : Addr} {xs : List V} {lo hi : Option Int} (h : SqL K H a xs) (q : ∀ p H', H p = none → Kp no H H' → H' p = some (.lst (cutV xs lo hi)) → Q (.ref p) H') : rSlL K (.ref a) lo hi H Q :=
  ⟨a, xs, rfl, h, fun p hp => q p _ hp (Kp.new hp) upd_same⟩
theorem w_sl {r : V → Option Int → Option Int → Hp → VK → Prop} {tl th : TO} (q : te σ H fun x H1 => tl σ H1 fun l H2 => th σ H2 fun u H3 => r x l u H3 Q) : tSl r te tl th σ H Q := q
theorem w_nopart {Q : Option Int → Hp → Prop} (q : Q none H) : tNoPart σ H Q := q
def kPart (Q : Option Int → Hp → Prop) : VK := fun x H1 => ∃ i, x = .int i ∧ Q (some i) H1
theorem w_part {Q : Option Int → Hp → Prop} (q : te σ H (kPart Q)) : tPart te σ H Q := q
theorem w_kpart {Q : Option Int → Hp → Prop} {i : Int} (q : Q (some i) H) : kPart Q (.int i) H := ⟨i, rfl, q⟩
theorem w_lstRg {t : L2.St → Hp → (Int → Int → Hp → Prop) → Prop} (q : t σ H (kRg Q)) : tLstRg t σ H Q := q
theorem w_rg1 {Q : Int → Int → Hp → Prop} (q : ta σ H (kRg1 Q)) : tRg1 ta σ H Q := q
theorem w_rg2 {Q : Int → Int → Hp → Prop} (q : ta σ H fun x H1 => tb σ H1 (kRg2 Q x)) : tRg2 ta tb σ H Q := q
theorem w_krg1 {Q : Int → Int → Hp → Prop} {n : Int} (q : Q 0 n H) : kRg1 Q (.int n) H := ⟨n, rfl, q⟩
theorem w_krg2 {Q : Int → Int → Hp → Prop} {i n : Int} (q : Q i n H) : kRg2 Q (.int i) (.int n) H := ⟨i, n, rfl, rfl, q⟩
theorem w_krg {a b : Int} (ok : RgOk a b) (q : ∀ p H', H p = none → Kp no H H' → H' p = some (.lst (rgV a b)) → Q (.ref p) H') : kRg Q a b H :=
  ⟨ok, fun p hp => q p _ hp (Kp.new hp) upd_same⟩

/-! reading from lists and tuples -/
theorem w_ixL {p : Addr} {xs : List V} {i : Int} {v : V} (h : SqL K H p xs) (e : atI xs i = some v) (q : Q v H) : rIxL K (.ref p) (.int i) H Q := ⟨p, xs, i, v, rfl, rfl, h, e, q⟩
theorem w_ixT {p : Addr} {xs : List V} {i : Int} {v : V} (h : SqT K H p xs) (e : atI xs i = some v) (q : Q v H) : rIxT K (.ref p) (.int i) H Q := ⟨p, xs, i, v, rfl, rfl, h, e, q⟩
theorem w_ixLD {G : Addr → Prop} {p : Addr} {ds : List PyData} {i : Int} {j : Nat} {d : PyData} (h : Dg G K H (.ref p) (.list ds)) (e : i = (j : Int)) (g : ds[j]? = some d) (q : ∀ v, Dg G K H v d → Q v H) : rIxL K (.ref p) (.int i) H Q := by
  obtain ⟨a, xs, e1, _, hs, ha⟩ := h.lst_of
  cases e1
  obtain ⟨v, hv, dv⟩ := ha.get g
  subst e
  exact w_ixL hs (atI_nat hv) (q v dv)
theorem w_ixTD {G : Addr → Prop} {p : Addr} {ds : List PyData} {i : Int} {j : Nat} {d : PyData} (h : Dg G K H (.ref p) (.tuple ds)) (e : i = (j : Int)) (g : ds[j]? = some d) (q : ∀ v, Dg G K H v d → Q v H) : rIxT K (.ref p) (.int i) H Q := by
  obtain ⟨a, xs, e1, hs, ha⟩ := h.tup_of
  cases e1
  obtain ⟨v, hv, dv⟩ := ha.get g
  subst e
  exact w_ixT hs (atI_nat hv) (q v dv)
theorem w_len {p : Addr} {ys : List V} (h : SqL K H p ys ∨ SqT K H p ys) (q : Q (.int ys.length) H) : rLenQ K [.ref p] H Q := ⟨p, ys, rfl, h, q⟩
theorem w_lenL {p : Addr} {ys : List V} (h : SqL K H p ys) (q : Q (.int ys.length) H) : rLenQ K [.ref p] H Q := ⟨p, ys, rfl, .inl h, q⟩
theorem w_lenT {p : Addr} {ys : List V} (h : SqT K H p ys) (q : Q (.int ys.length) H) : rLenQ K [.ref p] H Q := ⟨p, ys, rfl, .inr h, q⟩
theorem w_lenD {G : Addr → Prop} {v : V} {ds : List PyData} (h : Dg G K H v (.list ds)) (q : Q (.int ds.length) H) : rLenQ K [v] H Q := by
  obtain ⟨a, xs, e1, _, hs, ha⟩ := h.lst_of
  cases e1
  exact ⟨a, xs, rfl, .inl hs, by rw [ha.len]; exact q⟩
theorem w_lenTD {G : Addr → Prop} {v : V} {ds : List PyData} (h : Dg G K H v (.tuple ds)) (q : Q (.int ds.length) H) : rLenQ K [v] H Q := by
  obtain ⟨a, xs, e1, hs, ha⟩ := h.tup_of
  cases e1
  exact ⟨a, xs, rfl, .inr hs, by rw [ha.len]; exact q⟩
theorem w_sum {p : Addr} {ns : List Int} (h : SqL K H p (ns.map V.int)) (q : Q (.int ns.sum) H) : rSum K [.ref p] H Q := ⟨p, ns, rfl, h, q⟩
theorem w_all {p : Addr} {bs : List Bool} (h : SqL K H p (bs.map V.bl)) (q : Q (.bl (bs.all id)) H) : rAll K [.ref p] H Q := ⟨p, bs, rfl, h, q⟩
theorem w_any {p : Addr} {bs : List Bool} (h : SqL K H p (bs.map V.bl)) (q : Q (.bl (bs.any id)) H) : rAny K [.ref p] H Q := ⟨p, bs, rfl, h, q⟩
/-! writing -/
theorem w_setL {Q : Hp → Prop} {p : Addr} {xs : List V} {i : Int} {j : Nat} {v : V} (h : H p = some (.lst xs)) (e : ixN xs.length i = some j) (q : ∀ H', Kp (at1 p) H H' → H' p = some (.lst (xs.set j v)) → Q H') : rSetL (.ref p) (.int i) v H Q :=
  ⟨p, xs, i, j, rfl, rfl, h, e, q _ (Kp.set h rfl rfl) upd_same⟩
theorem w_append {l : Addr} {xs : List V} {y : V} (h : H l = some (.lst xs)) (z : xs.length < sizeLine) (q : ∀ H', Kp (at1 l) H H' → H' l = some (.lst (xs ++ [y])) → Q .non H') : rAppend (.ref l) [y] H Q :=
  ⟨l, xs, y, rfl, rfl, h, z, q _ (Kp.set h rfl rfl) upd_same⟩
theorem w_extend {l b : Addr} {xs zs : List V} (h : H l = some (.lst xs)) (h2 : H b = some (.lst zs)) (z : xs.length + zs.length ≤ sizeLine) (q : ∀ H', Kp (at1 l) H H' → H' l = some (.lst (xs ++ zs)) → Q .non H') : rExtend (.ref l) [.ref b] H Q :=
  ⟨l, b, xs, zs, rfl, rfl, h, h2, z, q _ (Kp.set h rfl rfl) upd_same⟩
theorem w_popAt {l : Addr} {xs : List V} {i : Int} {k : Nat} {y : V} (h : H l = some (.lst xs)) (b : -(2 ^ 63) ≤ i ∧ i < 2 ^ 63) (e : seqIndex? i xs.length = some k) (g : xs[k]? = some y) (q : ∀ H', Kp (at1 l) H H' → H' l = some (.lst (xs.eraseIdx k)) → Q y H') : rPopAt (.ref l) [.int i] H Q :=
  ⟨l, xs, i, k, y, rfl, rfl, h, b.1, b.2, e, g, q _ (Kp.set h rfl rfl) upd_same⟩
theorem w_pop {l : Addr} {xs : List V} {y : V} (h : H l = some (.lst xs)) (g : xs[xs.length - 1]? = some y) (q : ∀ H', Kp (at1 l) H H' → H' l = some (.lst xs.dropLast) → Q y H') : rPop (.ref l) [] H Q :=
  ⟨l, xs, y, rfl, rfl, h, g, q _ (Kp.set h rfl rfl) upd_same⟩
theorem w_reverse {l : Addr} {xs : List V} (h : H l = some (.lst xs)) (q : ∀ H', Kp (at1 l) H H' → H' l = some (.lst xs.reverse) → Q .non H') : rReverse (.ref l) [] H Q :=
  ⟨l, xs, rfl, rfl, h, q _ (Kp.set h rfl rfl) upd_same⟩
theorem w_bm {r : V → List V → Hp → VK → Prop} {T : String} {ts : TA} (q : te σ H (kBM K T r ts σ Q)) : tBM K T r te ts σ H Q := q
theorem w_bm0 {r : V → List V → Hp → VK → Prop} {T : String} (q : te σ H (kBM0 K T r Q)) : tBM0 K T r te σ H Q := q
theorem w_kbmL {r : V → List V → Hp → VK → Prop} {ts : TA} {a : Addr} {xs : List V} (h : SqL K H a xs) (q : ts σ H fun ys H2 => r (.ref a) ys H2 Q) : kBM K "list" r ts σ Q (.ref a) H := ⟨.inl ⟨rfl, _, h⟩, q⟩
theorem w_kbmL0 {r : V → List V → Hp → VK → Prop} {a : Addr} {xs : List V} (h : SqL K H a xs) (q : r (.ref a) [] H Q) : kBM0 K "list" r Q (.ref a) H := ⟨.inl ⟨rfl, _, h⟩, q⟩
/-! kinds -/
def tyN : PyData → String
  | .none => "NoneType"
  | .bool _ => "bool"
  | .int _ => "int"
  | .str _ => "str"
  | .list _ => "list"
  | .tuple _ => "tuple"
  | .dict _ => "dict"
theorem tyX_of {G : Addr → Prop} {v : V} {d : PyData} (h : Dg G K H v d) : TyX K H v (.type (tyN d)) := by
  cases h with
  | non => exact .base .non
  | bl b => exact .base (.bl b)
  | int i => exact .base (.int i)
  | str x => exact .base (.str x)
  | lst g h _ =>
    rcases h with (h | ⟨o, h⟩) | ⟨o, its, n, h, c, _⟩
    · exact .base (.lst h)
    · exact .base (.frz h)
    · exact .kList h c
  | tup h _ =>
    rcases h with (h | ⟨o, h⟩) | ⟨o, its, n, h, c, _⟩
    · exact .base (.tup h)
    · exact .fTuple h
    · exact .kTuple h c
/-- isinstance(.., b), b one of the five -/
def isTy (b : String) : PyData → Bool
  | .int _ => b == "int"
  | .bool _ => b == "int" || b == "bool"
  | .str _ => b == "str"
  | .list _ => b == "list"
  | .tuple _ => b == "tuple"
  | _ => false
theorem kitB_is (b : String) (hb : b = "int" ∨ b = "bool" ∨ b = "str" ∨ b = "list" ∨ b = "tuple") (d : PyData) : kitB (tyN d) b = some (isTy b d) := by
  rcases hb with rfl | rfl | rfl | rfl | rfl <;> cases d <;> (simp only [tyN, isTy]; decide +kernel)
theorem w_isi {G : Addr → Prop} {v : V} {d : PyData} {b : String} (h : Dg G K H v d) (hb : b = "int" ∨ b = "bool" ∨ b = "str" ∨ b = "list" ∨ b = "tuple") (q : Q (.bl (isTy b d)) H) : rIsi K [v, .ty b] H Q :=
  ⟨v, .ty b, _, _, _, rfl, .ty b, tyX_of h, kit_ty (kitB_is b hb d), q⟩
theorem w_isi2 {G : Addr → Prop} {v : V} {d : PyData} {tp : Addr} {b c : String} (h : Dg G K H v d) (ht : H tp = some (.tup [.ty b, .ty c])) (hb : b = "int" ∨ b = "bool" ∨ b = "str" ∨ b = "list" ∨ b = "tuple") (hc : c = "int" ∨ c = "bool" ∨ c = "str" ∨ c = "list" ∨ c = "tuple")
    (q : Q (.bl (isTy b d || isTy c d)) H) : rIsiT K [v, .ref tp] H Q := by
  refine ⟨v, tp, _, _, [.type b, .type c], _, rfl, ht, .cons (.ty b) (.cons (.ty c) .nil), tyX_of h, ?_, q⟩
  refine kitAny_cons (kit_ty (kitB_is b hb d)) (fun e => ?_) (fun e => by rw [e]; rfl)
  refine kitAny_cons (kit_ty (kitB_is c hc d)) (fun e' => ?_) (fun e' => by rw [e']; cases isTy b d <;> rfl)
  rw [e, e']; exact kitAny_nil

/-! unpacking -/
theorem w_gtup {n : Nat} {t : TGs} {Q : L2.St → Hp → Prop} {p : Addr} {xs : List V} (h : SqT K H p xs) (l : xs.length = n) (q : t xs σ H Q) : gTup K n t (.ref p) σ H Q := ⟨p, xs, rfl, h, l, q⟩
theorem w_gnil {Q : L2.St → Hp → Prop} (q : Q σ H) : gNil [] σ H Q := ⟨rfl, q⟩
theorem w_gcons {g : TG} {u : TGs} {v : V} {r : List V} {Q : L2.St → Hp → Prop} (q : g v σ H fun σ' H' => u r σ' H' Q) : gCons g u (v :: r) σ H Q := ⟨v, r, rfl, q⟩
/-! == -/
theorem shaped_of {d : PyData} (h1 : d.canLay0 = true) (h2 : d.depth ≤ 64) : SeqAt.shaped d = true := by
  unfold SeqAt.shaped
  rw [h1, decide_eq_true h2]; rfl
theorem w_eqD {G G' : Addr → Prop} {x y : V} {d e : PyData} (h1 : Dg G K H x d) (h2 : Dg G' K H y e) (s1 : SeqAt.shaped d = true) (s2 : SeqAt.shaped e = true) (q : Q (.bl (PyData.eqv d e)) H) : rEqD K x y H Q := ⟨d, e, h1.dp, h2.dp, s1, s2, q⟩
theorem w_neD {G G' : Addr → Prop} {x y : V} {d e : PyData} (h1 : Dg G K H x d) (h2 : Dg G' K H y e) (s1 : SeqAt.shaped d = true) (s2 : SeqAt.shaped e = true) (q : Q (.bl (!PyData.eqv d e)) H) : rNeD K x y H Q := ⟨d, e, h1.dp, h2.dp, s1, s2, q⟩

/-! loops -/
theorem w_rng1 {R : It → Hp → Prop} {ts : TA} (q : ts σ H (kRng1 R)) : iRng1 ts σ H R := q
theorem w_rng2 {R : It → Hp → Prop} {ts : TA} (q : ts σ H (kRng2 R)) : iRng2 ts σ H R := q
theorem w_ilist {R : It → Hp → Prop} (q : te σ H (kList K R)) : iList K te σ H R := q
theorem w_itup {R : It → Hp → Prop} (q : te σ H (kTupI K R)) : iTup K te σ H R := q
theorem w_izip {R : It → Hp → Prop} {ts : TA} (q : ts σ H (kZip K R)) : iZipA K ts σ H R := q
theorem w_ienum {R : It → Hp → Prop} {ts : TA} (q : ts σ H (kEnum K R)) : iEnum K ts σ H R := q
theorem w_krng1 {R : It → Hp → Prop} {j : Int} (b : -(2 ^ 62) ≤ j ∧ j < 2 ^ 62) (q : R (Itr 0 j.toNat) H) : kRng1 R [.int j] H := ⟨j, rfl, b.1, b.2, q⟩
theorem w_krng2 {R : It → Hp → Prop} {i j : Int} (b : -(2 ^ 62) ≤ i ∧ i < 2 ^ 62 ∧ -(2 ^ 62) ≤ j ∧ j < 2 ^ 62) (q : R (Itr i (j - i).toNat) H) : kRng2 R [.int i, .int j] H := ⟨i, j, rfl, b, q⟩
theorem w_klist {R : It → Hp → Prop} {a : Addr} {xs : List V} (h : SqL K H a xs) (q : R (Itl K a) H) : kList K R (.ref a) H := ⟨a, rfl, ⟨xs, h⟩, q⟩
theorem w_ktupI {R : It → Hp → Prop} {a : Addr} {xs : List V} (h : SqT K H a xs) (q : R (Itt K a) H) : kTupI K R (.ref a) H := ⟨a, rfl, ⟨xs, h⟩, q⟩
theorem w_kzipL {R : It → Hp → Prop} {a b : Addr} {xs ys : List V} (h : SqL K H a xs) (h2 : SqL K H b ys) (q : R (Itz K a b) H) : kZip K R [.ref a, .ref b] H := ⟨a, b, xs, ys, rfl, .inl ⟨h, h2, q⟩⟩
theorem w_kzipT {R : It → Hp → Prop} {a b : Addr} {xs ys : List V} (h : SqT K H a xs) (h2 : SqT K H b ys) (q : R (ItzT K a b) H) : kZip K R [.ref a, .ref b] H := ⟨a, b, xs, ys, rfl, .inr ⟨h, h2, q⟩⟩
theorem w_kenum {R : It → Hp → Prop} {a : Addr} {xs : List V} (h : SqL K H a xs) (q : R (Ite K a) H) : kEnum K R [.ref a] H := ⟨a, xs, rfl, h, q⟩
theorem w_for {wi : TI} {g : TG} (q : wi σ H fun J H1 => kFor J g t ⟨a, b, c, d⟩ σ H1) : tFor wi g t ⟨a, b, c, d⟩ σ H := q
theorem w_lc {wi : TI} {g : TG} {vs : List Nat} (q : wi σ H fun J H1 => kLc J g tt te vs σ Q H1) : tLc wi g tt te vs σ H Q := q
theorem w_yes {Q : Bool → Hp → Prop} (q : Q true H) : tYes σ H Q := q
/-- what a walk does while its source stands: n turns, Y tells what the i-th brings -/
structure Wk (J : It) (n : Nat) (S : Hp → Prop) (Y : Nat → V → Hp → Prop) : Prop where
  go : ∀ i H, S H → i < n → J.go i H
  stop : ∀ H, S H → J.stop n H
  yld : ∀ i x H H', S H → i < n → J.yld i H x H' → Kp no H H' ∧ Y i x H'
theorem wk_rng {lo : Int} {n : Nat} : Wk (Itr lo n) n (fun _ => True) (fun i x _ => x = .int (lo + i)) :=
  ⟨fun _ _ _ h => h, fun _ _ => Nat.le_refl _, fun i x H H' _ _ y => ⟨by rw [y.1]; exact Kp.refl, y.2⟩⟩
theorem wk_list {a : Addr} {xs : List V} : Wk (Itl K a) xs.length (fun H => SqL K H a xs) (fun i x _ => xs[i]? = some x) :=
  ⟨fun i H s h => ⟨xs, xs[i], s, by simp [h]⟩, fun H s => ⟨xs, s, Nat.le_refl _⟩, fun i x H H' s _ y => ⟨by rw [y.1]; exact Kp.refl, y.2 xs s⟩⟩
theorem wk_tup {a : Addr} {xs : List V} : Wk (Itt K a) xs.length (fun H => SqT K H a xs) (fun i x _ => xs[i]? = some x) :=
  ⟨fun i H s h => ⟨xs, xs[i], s, by simp [h]⟩, fun H s => ⟨xs, s, Nat.le_refl _⟩, fun i x H H' s _ y => ⟨by rw [y.1]; exact Kp.refl, y.2 xs s⟩⟩
/-- a new pair -/
def PairY (K : PySem.W.Frag) (f g : Nat → Option V) : Nat → V → Hp → Prop := fun i x H' => ∃ T u v, x = .ref T ∧ SqT K H' T [u, v] ∧ f i = some u ∧ g i = some v
theorem wk_zipL {a b : Addr} {xs ys : List V} : Wk (Itz K a b) (min xs.length ys.length) (fun H => SqL K H a xs ∧ SqL K H b ys) (PairY K (xs[·]?) (ys[·]?)) := by
  refine ⟨fun i H s h => ?_, fun H s => ⟨xs, ys, s.1, s.2, by omega⟩, fun i x H H' s _ y => ?_⟩
  · have h1 : i < xs.length := by omega
    have h2 : i < ys.length := by omega
    exact ⟨xs, ys, xs[i], ys[i], s.1, s.2, by simp [h1], by simp [h2]⟩
  · obtain ⟨T, x', y', rfl, hT, rfl, f1, f2⟩ := y
    exact ⟨Kp.new hT, T, x', y', rfl, SqT.of upd_same, f1 xs s.1, f2 ys s.2⟩
theorem wk_zipT {a b : Addr} {xs ys : List V} : Wk (ItzT K a b) (min xs.length ys.length) (fun H => SqT K H a xs ∧ SqT K H b ys) (PairY K (xs[·]?) (ys[·]?)) := by
  refine ⟨fun i H s h => ?_, fun H s => ⟨xs, ys, s.1, s.2, by omega⟩, fun i x H H' s _ y => ?_⟩
  · have h1 : i < xs.length := by omega
    have h2 : i < ys.length := by omega
    exact ⟨xs, ys, xs[i], ys[i], s.1, s.2, by simp [h1], by simp [h2]⟩
  · obtain ⟨T, x', y', rfl, hT, rfl, f1, f2⟩ := y
    exact ⟨Kp.new hT, T, x', y', rfl, SqT.of upd_same, f1 xs s.1, f2 ys s.2⟩
theorem wk_enum {a : Addr} {xs : List V} : Wk (Ite K a) xs.length (fun H => SqL K H a xs) (PairY K (fun i => some (.int (i : Nat))) (xs[·]?)) := by
  refine ⟨fun i H s h => ⟨xs, xs[i], s, by simp [h]⟩, fun H s => ⟨xs, s, Nat.le_refl _⟩, fun i x H H' s _ y => ?_⟩
  obtain ⟨T, x', rfl, hT, rfl, f1⟩ := y
  exact ⟨Kp.new hT, T, _, x', rfl, SqT.of upd_same, rfl, f1 xs s⟩
theorem wk_rev {a : Addr} {xs : List V} : Wk (Itv K a xs.length) xs.length (fun H => SqL K H a xs) (fun i x _ => xs[xs.length - 1 - i]? = some x) := by
  refine ⟨fun i H s h => ⟨h, xs, xs[xs.length - 1 - i], s, List.getElem?_eq_getElem (by omega)⟩, fun H s => Nat.le_refl _, fun i x H H' s h y => ?_⟩
  exact ⟨by rw [y.1]; exact Kp.refl, y.2 xs s⟩
theorem w_forG {J : It} {n : Nat} {S : Hp → Prop} {Y : Nat → V → Hp → Prop} {g : TG} (wk : Wk J n S Y) (Pv : Nat → L2.St → Hp → Prop) (h0 : Pv 0 σ H) (hst : ∀ i σ H, i ≤ n → Pv i σ H → S H)
    (hs : ∀ i x σ H H', i < n → Pv i σ H → Kp no H H' → Y i x H' → g x σ H' fun σ2 H2 => t ⟨Pv (i + 1), b, a, Pv (i + 1)⟩ σ2 H2) (hd : ∀ σ H, Pv n σ H → a σ H) : kFor J g t ⟨a, b, c, d⟩ σ H := by
  refine ⟨fun i m σ H => m = n - i ∧ i ≤ n ∧ Pv i σ H, ⟨n, by simp, Nat.zero_le _, h0⟩, ?_⟩
  rintro i m σ H ⟨rfl, hi, p⟩
  have s := hst i σ H hi p
  by_cases hlt : i < n
  · refine .inr ⟨wk.go i H s hlt, Pv (i + 1), fun σ' H' p' => ⟨n - (i + 1), by omega, rfl, hlt, p'⟩, fun x H' y => ?_⟩
    obtain ⟨k, y⟩ := wk.yld i x H H' s hlt y
    exact hs i x σ H H' hlt p k y
  · have e : i = n := by omega
    subst e
    exact .inl ⟨wk.stop H s, hd σ H p⟩
/-- what a comprehension's turn is to reach: the item y is put behind the list at D -/
def kElt (D : Addr) (Nx : Hp → Prop) : VK := fun y H4 => ∃ acc, H4 D = some (.lst acc) ∧ acc.length < sizeLine ∧ Nx (upd H4 D (.lst (acc ++ [y])))
def PvD (D : Addr) (Pv : List V → Hp → Prop) : Hp → Prop := fun H => ∃ acc, H D = some (.lst acc) ∧ Pv acc H
theorem w_kelt {D : Addr} {Pv : List V → Hp → Prop} {y : V} {acc : List V} (hD : H D = some (.lst acc)) (hl : acc.length < sizeLine) (p : Pv (acc ++ [y]) H) (stab : ∀ acc H', Kp (at1 D) H H' → Pv acc H → Pv acc H') : kElt D (PvD D Pv) y H :=
  ⟨acc, hD, hl, acc ++ [y], upd_same, stab _ _ (Kp.set hD rfl rfl) p⟩
theorem w_lcG {J : It} {n : Nat} {S : Hp → Prop} {Y : Nat → V → Hp → Prop} {g : TG} {vs : List Nat} (wk : Wk J n S Y) (Pv : Nat → List V → Hp → Prop) (h0 : ∀ D H', H D = none → Kp no H H' → Pv 0 [] H') (hst : ∀ i acc H, i ≤ n → Pv i acc H → S H)
    (hs : ∀ i x acc D H2 H', i < n → H D = none → H' D = some (.lst acc) → Pv i acc H2 → Kp no H2 H' → Y i x H' → g x (wipe σ vs) H' fun σ2 H2 => wipe σ2 vs = wipe σ vs ∧ tt σ2 H2 fun b H3 =>
      if b = true then te σ2 H3 (kElt D (PvD D (Pv (i + 1)))) else PvD D (Pv (i + 1)) H3) (hd : ∀ acc D H', H D = none → H' D = some (.lst acc) → Pv n acc H' → Q (.ref D) H') : kLc J g tt te vs σ Q H := by
  intro D hD
  refine ⟨fun i m H' => m = n - i ∧ i ≤ n ∧ PvD D (Pv i) H', ⟨n, by simp, Nat.zero_le _, [], upd_same, h0 D _ hD (Kp.new hD)⟩, ?_⟩
  rintro i m H2 ⟨rfl, hi, acc, ha, p⟩
  have s := hst i acc H2 hi p
  by_cases hlt : i < n
  · refine .inr ⟨wk.go i H2 s hlt, PvD D (Pv (i + 1)), fun H' p' => ⟨n - (i + 1), by omega, rfl, hlt, p'⟩, fun x H' y => ?_⟩
    obtain ⟨k, y⟩ := wk.yld i x H2 H' s hlt y
    exact hs i x acc D H2 H' hlt hD (k.at (fun z => z) ha) p k y
  · have e : i = n := by omega
    subst e
    exact .inl ⟨wk.stop H2 s, hd acc D H2 hD ha p⟩
theorem filterMap_snoc {α : Type} (f : Nat → Option α) (n : Nat) : (List.range (n + 1)).filterMap f = (List.range n).filterMap f ++ (f n).toList := by
  rw [List.range_succ, List.filterMap_append]
  cases h : f n with
  | none => simp [h]
  | some a => simp [h]
theorem filterMap_len {α : Type} (f : Nat → Option α) (n : Nat) : ((List.range n).filterMap f).length ≤ n := by
  have := List.length_filterMap_le f (List.range n)
  rw [List.length_range] at this
  exact this
/-- a comprehension whose turns change nothing: f tells the i-th item, or that there is none -/
theorem w_lcP {J : It} {n : Nat} {S : Hp → Prop} {Y : Nat → V → Hp → Prop} {g : TG} {vs : List Nat} (wk : Wk J n S Y) (f : Nat → Option PyData) (hn : n ≤ 100000) (hst : ∀ H', Kp no H H' → S H')
    (hs : ∀ i x H', i < n → Kp no H H' → Y i x H' → ∀ (R : VK) (R0 : Hp → Prop), (∀ y d H2, Kp no H' H2 → f i = some d → Dz K H2 y d → R y H2) → (∀ H2, Kp no H' H2 → f i = none → R0 H2) →
      g x (wipe σ vs) H' fun σ2 H2 => wipe σ2 vs = wipe σ vs ∧ tt σ2 H2 fun b H3 => if b = true then te σ2 H3 R else R0 H3)
    (hd : ∀ p ws H', H p = none → Kp no H H' → H' p = some (.lst ws) → DA no K H' ws ((List.range n).filterMap f) → Q (.ref p) H') : kLc J g tt te vs σ Q H := by
  have own : ∀ {D H2 H'}, H D = none → Kp no H H2 → Kp (at1 D) H2 H' → Kp no H H' := fun hD k j => k.own hD j
  refine w_lcG wk (fun i acc H' => Kp no H H' ∧ DA no K H' acc ((List.range i).filterMap f)) (fun D H' _ k => ⟨k, .nil⟩) (fun i acc H' _ p => hst H' p.1) ?_ (fun acc D H' hD ha p => hd D acc H' hD p.1 ha p.2)
  intro i x acc D H2 H' hi hD ha p k y
  refine hs i x H' hi (p.1.tr0 k) y _ _ (fun y d H3 k3 e dy => ?_) (fun H3 k3 e => ?_)
  · refine w_kelt (k3.at (fun z => z) ha) ?_ ⟨(p.1.tr0 k).tr0 k3, ?_⟩ (fun acc H4 k4 q => ⟨own hD q.1 k4, q.2.kp k4 fun _ z => z.elim⟩)
    · rw [p.2.len]
      have h1 := filterMap_len f i
      have h2 : (100000 : Nat) < sizeLine := by decide
      omega
    · rw [filterMap_snoc, e]
      exact ((p.2.kp k fun _ z => z.elim).kp k3 fun _ z => z.elim).snoc dy
  · refine ⟨acc, k3.at (fun z => z) ha, (p.1.tr0 k).tr0 k3, ?_⟩
    rw [filterMap_snoc, e]
    have := (p.2.kp k fun _ z => z.elim).kp k3 fun _ z => z.elim
    simpa using this
theorem map_erase {α β : Type} (f : α → β) : ∀ (xs : List α) (j : Nat), (xs.eraseIdx j).map f = (xs.map f).eraseIdx j
  | [], _ => rfl
  | _ :: _, 0 => rfl
  | x :: xs, j + 1 => by rw [List.eraseIdx_cons_succ, List.map_cons, List.map_cons, List.eraseIdx_cons_succ, map_erase f xs j]
/-! a list of data without lists -/
def LstD (K : PySem.W.Frag) (H : Hp) (p : Addr) (ds : List PyData) : Prop := ∃ vs, H p = some (.lst vs) ∧ DA no K H vs ds
theorem LstD.kp {M : Addr → Prop} {H' : Hp} {p : Addr} {ds : List PyData} (k : Kp M H H') (m : ¬ M p) (h : LstD K H p ds) : LstD K H' p ds := by
  obtain ⟨vs, e, g⟩ := h
  exact ⟨vs, k.at m e, DAz.kp k g⟩
theorem LstD.dg {p : Addr} {ds : List PyData} (h : LstD K H p ds) : Dg (at1 p) K H (.ref p) (.list ds) := by
  obtain ⟨vs, e, g⟩ := h
  exact .lst rfl (SqL.of e) g.z
theorem LstD.ne {p q : Addr} {ds : List PyData} (h : LstD K H p ds) (e : H q = none) : q ≠ p := by
  obtain ⟨vs, e', g⟩ := h
  exact ne_none e' e
theorem w_lenLd {p : Addr} {ds : List PyData} (h : LstD K H p ds) (q : Q (.int ds.length) H) : rLenQ K [.ref p] H Q := w_lenD h.dg q
theorem w_ixR {α : Type} {f : α → PyData} {xs : List α} {p : Addr} {i : Int} (h : LstD K H p (xs.map f)) (b : 0 ≤ i ∧ i < xs.length) (q : ∀ v x, xs[i.toNat]? = some x → x ∈ xs → Dz K H v (f x) → Q v H) : rIxL K (.ref p) (.int i) H Q := by
  obtain ⟨vs, e, g⟩ := h
  obtain ⟨j, rfl⟩ : ∃ j : Nat, i = j := ⟨i.toNat, by omega⟩
  have hj : j < xs.length := by omega
  obtain ⟨v, hv, dv⟩ := g.get (i := j) (d := f xs[j]) (by rw [List.getElem?_map, List.getElem?_eq_getElem hj]; rfl)
  exact w_ixL (SqL.of e) (atI_nat hv) (q v _ (by rw [Int.toNat_natCast, List.getElem?_eq_getElem hj]) (List.getElem_mem hj) dv)
theorem w_appendLd {l : Addr} {ds : List PyData} {y : V} {d : PyData} (h : LstD K H l ds) (g : Dz K H y d) (z : ds.length < sizeLine) (q : ∀ H', Kp (at1 l) H H' → LstD K H' l (ds ++ [d]) → Q .non H') : rAppend (.ref l) [y] H Q := by
  obtain ⟨vs, e, ha⟩ := h
  exact w_append e (by rw [ha.len]; exact z) fun H' k e' => q H' k ⟨_, e', (DAz.kp k ha).snoc (Dz.kp k g)⟩
theorem w_setLd {Q : Hp → Prop} {p : Addr} {ds : List PyData} {i : Int} {v : V} {d : PyData} (h : LstD K H p ds) (b : 0 ≤ i ∧ i < ds.length) (g : Dz K H v d) (q : ∀ H', Kp (at1 p) H H' → LstD K H' p (ds.set i.toNat d) → Q H') : rSetL (.ref p) (.int i) v H Q := by
  obtain ⟨vs, e, ha⟩ := h
  have hl := ha.len
  refine w_setL e (j := i.toNat) ?_ fun H' k e' => q H' k ⟨_, e', DA.set _ (DAz.kp k ha) (Dz.kp k g)⟩
  unfold ixN
  rw [if_pos b.1, if_pos (by omega)]
theorem w_kbmLd {r : V → List V → Hp → VK → Prop} {ts : TA} {a : Addr} {ds : List PyData} (h : LstD K H a ds) (q : ts σ H fun ys H2 => r (.ref a) ys H2 Q) : kBM K "list" r ts σ Q (.ref a) H := by
  obtain ⟨vs, e, ha⟩ := h
  exact w_kbmL (SqL.of e) q
theorem w_kbmLd0 {r : V → List V → Hp → VK → Prop} {a : Addr} {ds : List PyData} (h : LstD K H a ds) (q : r (.ref a) [] H Q) : kBM0 K "list" r Q (.ref a) H := by
  obtain ⟨vs, e, ha⟩ := h
  exact w_kbmL0 (SqL.of e) q
theorem w_popAtLd {α : Type} {f : α → PyData} {xs : List α} {l : Addr} {i : Int} (h : LstD K H l (xs.map f)) (b : 0 ≤ i ∧ i < xs.length) (z : xs.length ≤ 100000) (q : ∀ H' v x, xs[i.toNat]? = some x → Kp (at1 l) H H' → LstD K H' l ((xs.eraseIdx i.toNat).map f) → Dz K H' v (f x) → Q v H') : rPopAt (.ref l) [.int i] H Q := by
  obtain ⟨vs, e, g⟩ := h
  obtain ⟨j, rfl⟩ : ∃ j : Nat, i = j := ⟨i.toNat, by omega⟩
  have hj : j < xs.length := by omega
  obtain ⟨v, hv, dv⟩ := g.get (i := j) (d := f xs[j]) (by rw [List.getElem?_map, List.getElem?_eq_getElem hj]; rfl)
  have hl := g.len
  rw [List.length_map] at hl
  have hs : (100000 : Int) < 2 ^ 63 := by decide
  refine w_popAt e ⟨by omega, by omega⟩ (k := j) ?_ hv fun H' k e' => q H' v _ (by rw [Int.toNat_natCast, List.getElem?_eq_getElem hj]) k ⟨_, e', ?_⟩ (Dz.kp k dv)
  · exact (ixN_seq (by unfold ixN; rw [if_pos (by omega), if_pos (by omega), Int.toNat_natCast])).1
  · rw [Int.toNat_natCast, map_erase]
    exact (DAz.kp k g).erase j
theorem w_listOfLd {p : Addr} {ds : List PyData} (h : LstD K H p ds) (q : ∀ l H', H l = none → Kp no H H' → LstD K H' l ds → Q (.ref l) H') : rListOf K [.ref p] H Q := by
  obtain ⟨vs, e, g⟩ := h
  exact w_listOf (.inl (SqL.of e)) fun l H' f k e' => q l H' f k ⟨vs, e', DAz.kp k g⟩
theorem w_neE {x y : Addr} {ds : List PyData} (h : LstD K H x ds) (ok : SeqAt.shaped (.list ds) = true) (h2 : H y = some (.lst [])) (q : Q (.bl (!ds.isEmpty)) H) : rNeD K (.ref x) (.ref y) H Q := by
  refine w_neD h.dg (G' := at1 y) (.lst rfl (SqL.of h2) .nil) ok (by decide +kernel) ?_
  cases ds with
  | nil => simpa [PyData.eqv, PyData.eqvAll] using q
  | cons d ds => simpa [PyData.eqv, PyData.eqvAll] using q
end
/-! ### the law's draws -/
/-- the list of three numbers at l from which is drawn; at most n draws so far -/
def Rand (H : Hp) (l : Addr) (n : Nat) : Prop := ∃ a b c : Int, H l = some (.lst [.int a, .int b, .int c]) ∧ 0 ≤ a ∧ 0 ≤ c ∧ c ≤ n
theorem Rand.kp {M : Addr → Prop} {H H' : Hp} {l : Addr} {n : Nat} (k : Kp M H H') (m : ¬ M l) (r : Rand H l n) : Rand H' l n := by
  obtain ⟨a, b, c, h, z⟩ := r
  exact ⟨a, b, c, k.at m h, z⟩
theorem Rand.mono {H : Hp} {l : Addr} {n m : Nat} (r : Rand H l n) (h : n ≤ m) : Rand H l m := by
  obtain ⟨a, b, c, e, z1, z2, z3⟩ := r
  exact ⟨a, b, c, e, z1, z2, by omega⟩
theorem Rand.ne {H : Hp} {l f : Addr} {n : Nat} (r : Rand H l n) (h : H f = none) : f ≠ l := by
  obtain ⟨a, b, c, e, _⟩ := r
  exact ne_none e h
def intsTo (n : Nat) : List Int := (List.range n).map fun (i : Nat) => (i : Int)
theorem rgV_0 (n : Nat) : rgV 0 (n : Int) = (intsTo n).map V.int := by
  unfold rgV intsTo
  rw [List.map_map]
  have e : ((n : Int) - 0).toNat = n := by omega
  rw [e]
  refine List.map_congr_left fun i _ => ?_
  show V.int (0 + (i : Int)) = V.int (i : Int)
  rw [Int.zero_add]
theorem mem_intsTo {n : Nat} {x : Int} (h : x ∈ intsTo n) : 0 ≤ x ∧ x < n := by
  obtain ⟨i, hi, rfl⟩ := List.mem_map.mp h
  have := List.mem_range.mp hi
  omega
theorem len_intsTo (n : Nat) : (intsTo n).length = n := by unfold intsTo; rw [List.length_map, List.length_range]
/-- a row of steps together, kept out of the looks' way -/
structure KZ (M : Addr → Prop) (H H' : Hp) : Prop where
  k : Kp M H H'
end Fc

set_option Elab.async false
set_option linter.all false
set_option maxRecDepth 100000
set_option maxHeartbeats 4000000
namespace Fc
open PySem PySem.Spec PyProof.Rows L2
/-! ### order of data -/
section
variable {X : Cx}
def rLtD (K : PySem.W.Frag) : R2 := fun x y H Q => ∃ d e, Dp K H x d ∧ Dp K H y e ∧ PySem.W.alike d e = true ∧ d ≠ .none ∧ d.depth ≤ 60 ∧ Q (.bl (PySem.W.dataLt d e)) H
theorem op_ltD (hu : X.A.units + 64 < cLine) : OpR X (compareOp .Lt) (rLtD X.K) := by
  intro pins s σ H x y v u Q I rx ry h
  obtain ⟨d, e, hd, he, al, nn, dp, q⟩ := h
  obtain ⟨as, r1⟩ := Dp.reads I d x v hd rx
  obtain ⟨bs, r2⟩ := Dp.reads I e y u he ry
  have hm : min d.depth e.depth ≤ d.depth := Nat.min_le_left _ _
  exact PySem.W.lt_data r1 r2 al nn (by omega) ⟨.bl _, H, I, rfl, q⟩
/-- min(xs) of alike data: the first of the least -/
def rMinD (K : PySem.W.Frag) : List V → Hp → VK → Prop := fun vs H Q => ∃ (a : Addr) (xs : List V) (d : PyData) (ds : List PyData), vs = [.ref a] ∧ SqL K H a xs ∧ DpAll K H xs (d :: ds) ∧ PySem.W.AlikeAll (d :: ds) ∧ PyData.depthAll (d :: ds) ≤ 60 ∧
  ∀ (i : Nat) (y : V), xs[i]? = some y → (d :: ds)[i]? = some (PySem.W.minD d ds) → Q y H
theorem readsAt {h : Heap} : ∀ {us : List Value} {ds : List PyData} {as : List Addr} {i : Nat} {v : Value}, ReadsAll h us ds as → us[i]? = some v → ∃ d bs, ds[i]? = some d ∧ Reads h v d bs
  | _, _, _, i, v, .nil, e => by simp at e
  | _, _, _, 0, v, .cons r _, e => by
    simp at e; subst e; exact ⟨_, _, rfl, r⟩
  | _, _, _, i + 1, v, .cons _ t, e => by
    obtain ⟨d, bs, h1, h2⟩ := readsAt (i := i) (v := v) t (by simpa using e)
    exact ⟨d, bs, by simpa using h1, h2⟩
theorem cr_minD (hc : X.calm = true) (hu : X.A.units + 64 < cLine) : CallR X (.builtin "min") (rMinD X.K) := by
  intro pins s σ H vs us Q I r h
  obtain ⟨a, xs, d, ds, rfl, hs, hd, al, dp, q⟩ := h
  obtain ⟨its, rv, hl, _⟩ := I.list hs
  rw [Vals.ref1 r]
  obtain ⟨as, hr⟩ := Dp.readsAll I _ _ its hd rv
  refine PySem.W.min_list_data (I.ok.hd hc) hl.isList hr al (by omega) fun i v h' tk bs hv hrd hk => ?_
  have hv' : its[i]? = some v := by simpa using hv
  obtain ⟨e, cs, he, hre⟩ := readsAt hr hv'
  have ee : e = PySem.W.minD d ds := (Reads.unique (PyProof.Rows.Reads.keeps hk hre) _ _ hrd).1
  obtain ⟨y, hy, ry⟩ : ∃ y, xs[i]? = some y ∧ RelV y v := by
    cases hx : xs[i]? with
    | none => rw [rv.none_of hx] at hv'; cases hv'
    | some y =>
      obtain ⟨u, e1, e2⟩ := rv.get hx
      rw [hv'] at e1; cases e1
      exact ⟨y, rfl, e2⟩
  exact ⟨y, H, I.kept hk, ry, q i y hy (by rw [he, ee])⟩
/-- sorted(xs) of alike data -/
def rSortedD (K : PySem.W.Frag) : List V → Hp → VK → Prop := fun vs H Q => ∃ (a : Addr) (xs : List V) (ds : List PyData), vs = [.ref a] ∧ SqL K H a xs ∧ DpAll K H xs ds ∧ PySem.W.AllAlike ds ∧ PySem.W.Sortable ds ∧ (∀ d ∈ ds, d.depth ≤ 60) ∧
  ∀ p, H p = none → Q (.ref p) (upd H p (.lst (((xs.zip ds).mergeSort (PySem.W.dataLe false Prod.snd)).map Prod.fst)))
theorem DpAll.len {K : PySem.W.Frag} {H : Hp} : ∀ {xs : List V} {ds : List PyData}, DpAll K H xs ds → xs.length = ds.length
  | _, _, .nil => rfl
  | _, _, .cons _ t => by rw [List.length_cons, List.length_cons, DpAll.len t]
theorem each_zip {h : Heap} : ∀ {xs : List V} {ds : List PyData} {us : List Value} {as : List Addr}, Vals xs us → ReadsAll h us ds as →
    PySem.W.EachIs (fun (v : Value) (p : V × PyData) => RelV p.1 v) us (xs.zip ds) ∧ PySem.W.EachIs (fun (v : Value) (p : V × PyData) => ∃ as, Reads h v p.2 as) us (xs.zip ds)
  | _, _, _, _, .nil, .nil => ⟨.nil, .nil⟩
  | _, _, _, _, .cons r t, .cons q u => by
    obtain ⟨h1, h2⟩ := each_zip t u
    exact ⟨.cons r h1, .cons ⟨_, q⟩ h2⟩
theorem vals_each : ∀ {us : List Value} {ps : List (V × PyData)}, PySem.W.EachIs (fun (v : Value) (p : V × PyData) => RelV p.1 v) us ps → Vals (ps.map Prod.fst) us
  | _, _, .nil => .nil
  | _, _, .cons r t => .cons r (vals_each t)
theorem cr_sortedD (hu : X.A.units + 64 < cLine) : CallR X (.builtin "sorted") (rSortedD X.K) := by
  intro pins s σ H vs us Q I r h
  obtain ⟨a, xs, ds, rfl, hs, hd, al, so, dp, q⟩ := h
  obtain ⟨its, rv, hl, hz⟩ := I.list hs
  rw [Vals.ref1 r]
  obtain ⟨as, hr⟩ := Dp.readsAll I _ _ its hd rv
  have hlen := DpAll.len hd
  have e2 : (xs.zip ds).map Prod.snd = ds := List.map_snd_zip (by omega)
  obtain ⟨z1, z2⟩ := each_zip rv hr
  refine PySem.W.sorted_data (enc := Prod.snd) hl.isList z1 z2 (by rw [e2]; exact al) (by rw [e2]; exact so) (by rw [List.length_zip]; omega) (fun p hp => by have := dp p.2 (List.of_mem_zip hp).2; omega) fun out ho he => ?_
  obtain ⟨ep, he'⟩ := PyProof.Rows.sortedAll_at s.heap its out.toArray
  have hv := vals_each he
  have hlen2 : (((xs.zip ds).mergeSort (PySem.W.dataLe false Prod.snd)).map Prod.fst).length ≤ sizeLine := by
    rw [List.length_map, List.length_mergeSort, List.length_zip]; omega
  exact ⟨.ref _, upd H (s.heap.objs.size + 1) (.lst (((xs.zip ds).mergeSort (PySem.W.dataLe false Prod.snd)).map Prod.fst)), I.laid (t' := s.toks) (fun _ _ => PyProof.Rows.sortedAll_old) (Nat.le_succ _) ⟨hlen2, out, ep, hv, by simpa using he'⟩, rfl, q _ (I.hok.fresh (Nat.le_succ _))⟩
end
end Fc

set_option Elab.async false
set_option linter.all false
set_option maxRecDepth 100000
set_option maxHeartbeats 4000000
namespace Fc
open PySem L2
/-! ### data whose lists are one's own: F tells all their places -/
mutual
inductive Ow (K : PySem.W.Frag) (H : Hp) : V → PyData → List Addr → Prop
  | z {v : V} {d : PyData} (h : Dz K H v d) : Ow K H v d []
  | lst {a : Addr} {vs : List V} {ds : List PyData} {F : List Addr} (h : H a = some (.lst vs)) (t : OA K H vs ds F) (n : a ∉ F) : Ow K H (.ref a) (.list ds) (a :: F)
  | tup {a : Addr} {vs : List V} {ds : List PyData} {F : List Addr} (h : SqT K H a vs) (t : OA K H vs ds F) : Ow K H (.ref a) (.tuple ds) F
inductive OA (K : PySem.W.Frag) (H : Hp) : List V → List PyData → List Addr → Prop
  | nil : OA K H [] [] []
  | cons {v : V} {vs : List V} {d : PyData} {ds : List PyData} {F G : List Addr} (h : Ow K H v d F) (t : OA K H vs ds G) (n : ∀ a, a ∈ F → a ∉ G) : OA K H (v :: vs) (d :: ds) (F ++ G)
end
section
variable {K : PySem.W.Frag} {H H' : Hp} {M : Addr → Prop}
mutual
theorem Ow.kp (k : Kp M H H') : ∀ {d : PyData} {v : V} {F : List Addr}, (∀ a ∈ F, ¬ M a) → Ow K H v d F → Ow K H' v d F
  | _, _, _, _, .z h => .z (Dz.kp k h)
  | _, _, _, s, .lst h t n => .lst (k.at (s _ (List.mem_cons_self ..)) h) (OA.kp k (fun a ha => s a (List.mem_cons_of_mem _ ha)) t) n
  | _, _, _, s, .tup h t => .tup (SqT.kp k h) (OA.kp k s t)
theorem OA.kp (k : Kp M H H') : ∀ {ds : List PyData} {vs : List V} {F : List Addr}, (∀ a ∈ F, ¬ M a) → OA K H vs ds F → OA K H' vs ds F
  | _, _, _, _, .nil => .nil
  | _, _, _, s, .cons h t n => .cons (Ow.kp k (fun a ha => s a (List.mem_append_left _ ha)) h) (OA.kp k (fun a ha => s a (List.mem_append_right _ ha)) t) n
end
mutual
theorem Ow.dg : ∀ {d : PyData} {v : V} {F : List Addr}, Ow K H v d F → Dg (· ∈ F) K H v d
  | _, _, _, .z h => h.mono fun _ z => z.elim
  | _, _, _, .lst h t n => .lst (List.mem_cons_self ..) (SqL.of h) (DA.mono (fun a ha => List.mem_cons_of_mem _ ha) (OA.da t))
  | _, _, _, .tup h t => .tup h (OA.da t)
theorem OA.da : ∀ {ds : List PyData} {vs : List V} {F : List Addr}, OA K H vs ds F → DA (· ∈ F) K H vs ds
  | _, _, _, .nil => .nil
  | _, _, _, .cons h t n => .cons (Dg.mono (fun a ha => List.mem_append_left _ ha) (Ow.dg h)) (DA.mono (fun a ha => List.mem_append_right _ ha) (OA.da t))
end
mutual
/-- its places are taken -/
theorem Ow.there : ∀ {d : PyData} {v : V} {F : List Addr}, Ow K H v d F → ∀ a ∈ F, ∃ xs, H a = some (.lst xs)
  | _, _, _, .z h => fun a ha => by cases ha
  | _, _, _, .lst h t n => fun a ha => by
    rcases List.mem_cons.mp ha with e | ha
    · rw [e]; exact ⟨_, h⟩
    · exact OA.there t a ha
  | _, _, _, .tup h t => OA.there t
theorem OA.there : ∀ {ds : List PyData} {vs : List V} {F : List Addr}, OA K H vs ds F → ∀ a ∈ F, ∃ xs, H a = some (.lst xs)
  | _, _, _, .nil => fun a ha => by cases ha
  | _, _, _, .cons h t n => fun a ha => by
    rcases List.mem_append.mp ha with ha | ha
    · exact Ow.there h a ha
    · exact OA.there t a ha
end
theorem Ow.fresh {v : V} {d : PyData} {F : List Addr} (h : Ow K H v d F) {p : Addr} (e : H p = none) : p ∉ F := fun hp => by
  obtain ⟨xs, q⟩ := h.there p hp
  rw [e] at q; cases q
theorem OA.fresh {vs : List V} {ds : List PyData} {F : List Addr} (h : OA K H vs ds F) {p : Addr} (e : H p = none) : p ∉ F := fun hp => by
  obtain ⟨xs, q⟩ := h.there p hp
  rw [e] at q; cases q
theorem OA.len {vs : List V} {ds : List PyData} {F : List Addr} (h : OA K H vs ds F) : vs.length = ds.length := h.da.len
theorem OA.z : ∀ {ds : List PyData} {vs : List V}, DA no K H vs ds → OA K H vs ds []
  | _, _, .nil => .nil
  | _, _, .cons h t => OA.cons (F := []) (G := []) (.z h) (OA.z t) (fun _ z => nomatch z)
theorem LstD.ow {p : Addr} {ds : List PyData} (h : LstD K H p ds) : Ow K H (.ref p) (.list ds) [p] := by
  obtain ⟨vs, e, g⟩ := h
  exact .lst e (OA.z g) (by simp)
theorem OA.snoc : ∀ {ds : List PyData} {vs : List V} {F : List Addr} {v : V} {d : PyData} {G : List Addr}, OA K H vs ds F → Ow K H v d G → (∀ a, a ∈ F → a ∉ G) → OA K H (vs ++ [v]) (ds ++ [d]) (F ++ G)
  | _, _, _, v, d, G, .nil, h, n => by
    have := OA.cons h OA.nil (fun _ _ z => nomatch z)
    simpa using this
  | _, _, _, v, d, G, .cons (F := F1) (G := G1) h1 t n1, h, n => by
    have ih := OA.snoc t h fun a ha => n a (List.mem_append_right _ ha)
    have := OA.cons h1 ih fun a ha hb => by
      rcases List.mem_append.mp hb with hb | hb
      · exact n1 a ha hb
      · exact n a (List.mem_append_left _ ha) hb
    rw [← List.append_assoc] at this
    exact this
/-- the item at a place, and what the whole is when that item is another one -/
theorem OA.at : ∀ {ds : List PyData} {vs : List V} {F : List Addr} {i : Nat} {d : PyData}, OA K H vs ds F → ds[i]? = some d →
    ∃ (v : V) (G : List Addr), vs[i]? = some v ∧ Ow K H v d G ∧ (∀ a ∈ G, a ∈ F) ∧
      ∀ (H' : Hp) (w : V) (e : PyData), Kp (· ∈ G) H H' → Ow K H' w e G → OA K H' (vs.set i w) (ds.set i e) F
  | _, _, _, i, d, .nil, e => by simp at e
  | _, _, _, 0, d, .cons (F := F1) (G := G1) h t n, e => by
    simp at e; subst e
    exact ⟨_, F1, rfl, h, fun a ha => List.mem_append_left _ ha, fun H' w e k o => .cons o (t.kp k fun a ha z => n a z ha) n⟩
  | _, _, _, i + 1, d, .cons (F := F1) (G := G1) h t n, e => by
    obtain ⟨v, G, h1, h2, h3, h4⟩ := OA.at (i := i) (d := d) t (by simpa using e)
    exact ⟨v, G, by simpa using h1, h2, fun a ha => List.mem_append_right _ (h3 a ha), fun H' w e k o => .cons (h.kp k fun a ha z => n a ha (h3 a z)) (h4 H' w e k o) n⟩
theorem Ow.lst_of {v : V} {ds : List PyData} {F : List Addr} (h : Ow K H v (.list ds) F) : ∃ a vs G, v = .ref a ∧ F = a :: G ∧ H a = some (.lst vs) ∧ OA K H vs ds G ∧ a ∉ G := by
  cases h with
  | z h => cases h with | lst g _ _ => exact g.elim
  | lst h t n => exact ⟨_, _, _, rfl, rfl, h, t, n⟩
theorem Ow.z_of {v : V} {d : PyData} {F : List Addr} (h : Ow K H v d F) (e : F = []) : Dz K H v d := by
  have := h.dg
  subst e
  exact this.mono fun a ha => by cases ha
theorem OA.da0 {vs : List V} {ds : List PyData} (h : OA K H vs ds []) : DA no K H vs ds := h.da.mono fun a ha => by cases ha
end
end Fc

set_option Elab.async false
set_option linter.all false
set_option maxRecDepth 100000
set_option maxHeartbeats 4000000
namespace Fc
open PySem L2 RZ

/-! ### an error that is kept behind the suite that caught it -/
/-- the error at a, of the class cls, with nothing of its own beside (no dict) -/
def ExN (cls : Value) (a : Addr) : HO := .ext fun h => ∃ oe vs, h.get? a = some oe ∧ Zc cls none oe ∧ oe.data = Data.fields vs
theorem exN_ok {P : Program} {w : World} {H : Hp} {h : Heap} {a : Addr} {cls : Value} {oe : Obj} {vs : Array Value} (e : h.get? a = some oe) (z : Zc cls none oe) (f : oe.data = Data.fields vs) : ObjOk P w H h a (ExN cls a) :=
  ⟨⟨oe, vs, e, z, f⟩, ⟨oe, e⟩, fun h1 h2 ⟨o, vs, e, z, f⟩ k => ⟨o, vs, k o e, z, f⟩⟩
theorem exN_at {P : Program} {w : World} {H : Hp} {h : Heap} {a : Addr} {cls : Value} (k : ObjOk P w H h a (ExN cls a)) : ∃ oe vs, h.get? a = some oe ∧ Zc cls none oe ∧ oe.data = Data.fields vs := k.1
theorem exN_inst {P : Program} {w : World} {H : Hp} {h : Heap} {a D : Addr} (k : ObjOk P w H h a (ExN (.ref D) a)) : ∃ oe, W.InstAt h a oe D none := by
  obtain ⟨⟨oc, od, oda, osl⟩, vs, e, ⟨z1, z2⟩, f⟩ := exN_at k
  cases z1
  cases z2
  cases f
  exact ⟨_, e, rfl, rfl, trivial⟩
/-- isinstance of a kept error -/
def rIsX (K : PySem.W.Frag) : List V → Hp → VK → Prop := fun xs H Q => ∃ (a D : Addr) (c : V) (u : Value) (b : Bool), xs = [.ref a, c] ∧ ClsV c u ∧ ExcC K D ∧ H a = some (ExN (.ref D) a) ∧ PySem.W.kitOne K (.ref D) u = some b ∧ Q (.bl b) H
theorem call_isX {X : Cx} : CallR X (.builtin "isinstance") (rIsX X.K) := by
  intro pins s σ H xs us Q I r h
  obtain ⟨a, D, c, u, b, rfl, k, C, hH, e, q⟩ := h
  obtain ⟨u1, u2, rfl, r1, r2⟩ := vals2 r
  have e2 := ClsV.eq k r2
  subst e2
  obtain rfl : u1 = Value.ref a := r1
  obtain ⟨oe, J⟩ := exN_inst (I.hok a _ hH)
  exact W.kia_one (W.handS_kitx_exc C.hg C.hk C.hs C.hd C.ha C.hn C.ht C.hm) (Inv.kIn I) J e (fun z => nomatch z) fun tk => ⟨V.bl b, H, Inv.tok I tk, rfl, q⟩
def rIsXT (K : PySem.W.Frag) : List V → Hp → VK → Prop := fun xs H Q => ∃ (a tp D : Addr) (cs : List V) (us : List Value) (b : Bool), xs = [.ref a, .ref tp] ∧ H tp = some (HO.tup cs) ∧ Paired ClsV cs us ∧ ExcC K D ∧ H a = some (ExN (.ref D) a) ∧ PySem.W.kitAny K (.ref D) us = some b ∧ Q (.bl b) H
theorem call_isXT {X : Cx} : CallR X (.builtin "isinstance") (rIsXT X.K) := by
  intro pins s σ H xs us Q I r h
  obtain ⟨a, tp, D, cs, ws, b, rfl, hT, k, C, hH, e, q⟩ := h
  obtain ⟨u1, u2, rfl, r1, r2⟩ := vals2 r
  obtain rfl : u1 = Value.ref a := r1
  obtain rfl : u2 = Value.ref tp := r2
  obtain ⟨oe, J⟩ := exN_inst (I.hok a _ hH)
  obtain ⟨_, its, rv, ⟨oc, od, dt, sl⟩, h1, h2, n, h3⟩ := I.hok tp _ hT
  have e3 := ClsV.all k rv
  subst e3
  cases h2
  cases h3
  exact W.kia_tup (W.handS_kitx_exc C.hg C.hk C.hs C.hd C.ha C.hn C.ht C.hm) (Inv.kIn I) J h1 e (fun z => nomatch z) fun tk => ⟨V.bl b, H, Inv.tok I tk, rfl, q⟩
/-- what is caught is tracked from the suite on -/
def wKeep (K : PySem.W.Frag) (c : Value) (i : Nat) (ts : TS) (Wout : WX) (D : Ends) : WX := fun cls d σ H => ∃ b, PySem.W.exmOne K cls c = some b ∧
  (b = true → d = none ∧ ∀ a, H a = none → ts { nx := fun σ' H' => D.nx (σ'.set i none) H', rt := D.rt, bk := fun σ' H' => D.bk (σ'.set i none) H', ct := fun σ' H' => D.ct (σ'.set i none) H' } (σ.set i (some (.ref a))) (upd H a (ExN cls a))) ∧
  (b = false → Wout cls d σ H)
/-- a new thing is tracked at a place that was not there at sI -/
theorem inv_track {X : Cx} {pins : List (Addr × Obj)} {σ : L2.St} {H : Hp} {sI s : Shared} {a : Addr} {oe : Obj} {vs : Array Value} {o : HO} (J : L2.Inv X pins σ H sI) (I : L2.Inv X pins σ H s) (hI : sI.heap.get? a = none) (he : s.heap.get? a = some oe) (hd : oe.data = Data.fields vs)
    (na : H a = none) (nL : a ≠ X.env.locals) (ob : ObjOk X.prog X.w (upd H a o) s.heap a o) : L2.Inv X pins σ (upd H a o) s := by
  have n0 : ∀ u, X.s_0.heap.get? a = some u → a ∈ X.ex := fun u hu => by
    by_cases m : a ∈ X.ex
    · exact m
    · obtain ⟨o', q⟩ := J.base.there a u hu m
      rw [hI] at q; cases q
  refine ⟨I.ok, I.os, I.bare, ⟨I.base.keep, I.base.slot, fun b u q n x => ?_, I.base.there, fun b xs q => ?_, fun b u xs q => ?_, fun b ps q => ?_⟩, I.loc, I.cell, ?_, fun x c hc => ?_, fun p hp => ?_, HOk.laidN I.hok (fun _ _ z => z) na ob, I.len⟩
  · by_cases z : b = a
    · subst z
      exact absurd (n0 u q) x
    · rw [upd_ne z]; exact I.base.free b u q n x
  · have e := I.base.tups b xs q
    rw [upd_ne (ne_of_none e na)]; exact e
  · have e := I.base.frzs b u xs q
    rw [upd_ne (ne_of_none e na)]; exact e
  · obtain ⟨m, e⟩ := I.base.tbls b ps q
    exact ⟨m, by rw [upd_ne (ne_of_none e na)]; exact e⟩
  · rw [upd_ne nL.symm]; exact I.free
  · have z : c ≠ a := fun z => by
      subst z
      obtain ⟨v, o', e1, e2⟩ := I.cell x c hc
      rw [he] at e1; cases e1
      rw [hd] at e2; cases e2
    rw [upd_ne z]; exact I.freeC x c hc
  · obtain ⟨h1, h2, h3⟩ := I.pin p hp
    have z : p.1 ≠ a := fun z => by
      have q := (J.pin p hp).1
      rw [z, hI] at q; cases q
    exact ⟨h1, by rw [upd_ne z]; exact h2, h3⟩
theorem inv_suiteN {X : Cx} {pins : List (Addr × Obj)} {σ : L2.St} {H : Hp} {s : Shared} {a : Addr} {q : List (Addr × Obj)} (ok : (X.suite a q).Ok) (I : L2.Inv X pins σ H s) : L2.Inv (X.suite a (X.pn ++ pins)) [] σ H s :=
  ⟨⟨ok.mod, ok.kind, ok.glob, ok.blt, ok.above, ok.inj, ok.has, ok.cab, ok.hd, ok.frames, ok.stk, ok.exf, ok.bs, ok.bsz, ok.noex, ok.exfs, ok.funs, ok.frf⟩, I.os, I.bare, I.base, I.loc, I.cell, I.free, I.freeC, fun p hp => I.pin p (by simpa using hp), I.hok, I.len⟩
theorem inv_unsuiteN {X : Cx} {pins pn' : List (Addr × Obj)} {σ : L2.St} {H : Hp} {s : Shared} {a : Addr} (ok : X.Ok) (I : L2.Inv (X.suite a (X.pn ++ pins)) pn' σ H s) : L2.Inv X pins σ H s :=
  ⟨ok, I.os, I.bare, I.base, I.loc, I.cell, I.free, I.freeC, fun p hp => I.pin p (List.mem_append_left _ hp), I.hok, I.len⟩
theorem ps_try_keep {X : Cx} {x n : Str} {c : Value} {i : Nat} {body suite : List Stmt} {b₀ : Stmt} {np pos pos' : Pos} {tb : WX → TS} {ts : TS} {Wout : WX} (hs : X.stack = X.env :: X.outer) (hf : X.env.frame = some X.env.locals) (hN : X.N.Nodup) (hi : X.N[i]? = some n) (hln : X.env.kindOf n = some NameKind.local)
    (hc : Names X x c) (tk : Takes X Wout) (hb : ∀ (W : WX) (pn : List (Addr × Obj)) (xe : Value → Shared → Prop), Takes (X.tr pn xe) W → PassesOwn (model X.prog X.w) X.A X.env xe → PSs (X.tr pn xe) body (tb W))
    (hsu : ∀ (a : Addr) (pn : List (Addr × Obj)), PSs (X.suite a pn) (b₀ :: suite) ts) :
    PS X (.Try body [.ExceptHandler (some (.Name x np)) (some n) (b₀ :: suite) pos'] [] [] pos) fun D σ H => tb (wKeep X.K c i ts Wout D) D σ H := by
  refine ⟨fun pins s σ H D I h => ?_⟩
  have ok := I.ok
  have hfr : X.A.frames = some (X.env :: X.outer) := by rw [ok.frames, hs]
  have hloc : L2.Loc X.env.scope n := Or.inl hln
  refine wpAny_Try_except (wpAny_mono ((hb (wKeep X.K c i ts Wout D) (X.pn ++ pins) _ ?tk PassesOwn.looking).run [] s σ H D (I.toTry _) h) ?nx fun e s1 he => he)
  case nx =>
    intro f s1 hsp
    cases f with
    | next =>
      obtain ⟨σ', H', J', q⟩ := hsp
      exact wpAny_execs_nil ⟨σ', H', J'.ofTry ok, q⟩
    | brk =>
      obtain ⟨σ', H', J', q⟩ := hsp
      exact ⟨σ', H', J'.ofTry ok, q⟩
    | cont =>
      obtain ⟨σ', H', J', q⟩ := hsp
      exact ⟨σ', H', J'.ofTry ok, q⟩
    | ret u =>
      obtain ⟨v, σ', H', J', r, q⟩ := hsp
      exact ⟨v, σ', H', J'.ofTry ok, r, q⟩
  case tk =>
    intro u s' xx
    obtain ⟨a, B, sI, pins', σ', H', cls, d, rfl, J', nb, up, sky, na, os, ag, b, hb1, hyes, hno⟩ := xx
    have J : L2.Inv X pins σ' H' sI := J'.ofTry ok
    have sky' : Sky B (X.env :: X.outer) a (Zc cls d) X.env.locals s'.heap := by rw [← hs]; exact sky
    refine Sky.land Zc.steady hfr hf sky' fun h3 fl3 up3 => ?_
    have J3 : L2.Inv X pins σ' H' ⟨h3, s'.gens, s'.drawn, s'.toks, s'.os⟩ := Inv.landed J nb fl3.1 (Heap.UpToSlots.trans up up3) os ag
    obtain ⟨oe3, vs3, he3, hz3, hd3⟩ := HandSPX.FlyingZ.there fl3
    have nfr : a ∉ List.filterMap (fun x => x.frame) (X.env :: X.outer) := fun hm => by
      obtain ⟨_, o', e', hnf⟩ := Heap.FunFrames.mem fl3.2.2.1 hm
      have e'' : h3.get? a = some o' := e'
      rw [he3] at e''
      cases e''
      exact hnf _ hd3
    have nL : a ≠ X.env.locals := fun z => nfr (List.mem_filterMap.mpr ⟨X.env, List.mem_cons_self, by rw [hf, z]⟩)
    have nF : a ∉ X.fs := fun hm => by
      obtain ⟨e, he, q⟩ := List.mem_filterMap.mp hm
      exact nfr (List.mem_filterMap.mpr ⟨e, List.mem_cons_of_mem _ he, q⟩)
    have hI : sI.heap.get? a = none := by
      cases e : sI.heap.get? a with
      | none => rfl
      | some o =>
        have q := nb a o e (by rw [hs]; exact nfr)
        rw [fl3.2.1] at q; cases q
    have S3 := Inv.suite J3 he3 hd3 na nL nF
    refine wpAny_handleBy_cons (codeAny_handlers_test ?_) fun q => nomatch q
    have LT : W.Looks (model X.prog X.w) h3 (typeOf (Value.ref a)) cls := fun A Q E s k q => wpAny_typeOf_ref (k a oe3 he3) (by rw [hz3.1]; exact q)
    have LM := W.exm_one (Inv.kIn J3) LT hb1
    have test : ∀ {Q : Value → Shared → Prop} {E : Value → Shared → Prop}, Q c _ → wpAny (model X.prog X.w) (X.A.mark (some (Value.ref a))) (eval (.Name x np) X.env) Q E _ := fun q => by
      obtain ⟨hg, hdbg, hm⟩ := hc
      rcases hm with hm | ⟨hm, hv, hnn⟩
      · exact ld_glob S3 hg hm q hdbg
      · exact ld_blt S3 hg hm hv q hnn hdbg
    refine test (W.Looks.here LM ?_)
    cases b with
    | false =>
      show wpAny _ _ (handleBy _ _ []) _ _ _
      refine wpAny_handleBy_nil ?_
      obtain ⟨k1, k2, k3, oe, vs, T, oT, ts', he, hz, hd, h1, hr⟩ := id fl3
      have fin : wpAny (model X.prog X.w) X.A (setFlight (Value.ref a) X.env.frame) (fun x s4 => wpAny (model X.prog X.w) X.A (throw (Value.ref a)) (SP X pins D) X.xe s4) X.xe ⟨h3, s'.gens, s'.drawn, s'.toks, s'.os⟩ := by
        rw [hf]
        refine HandSPX.setFlight_upZ fl3 fun h4 hh4 up4 => wpAny_throw (tk _ _ ⟨a, B, sI, pins, σ', H', cls, d, rfl, J, nb, Heap.UpToSlots.trans (Heap.UpToSlots.trans up up3) up4, .inr (.inr ?_), na, os, ag, hno rfl⟩)
        rw [hs]
        exact hh4
      refine wpAny_bind (wpAny_field he hd h1 ?_)
      rw [if_neg (by simp)]
      exact wpAny_bind fin
    | true =>
      show codeAny _ _ _ _ _
      obtain ⟨hdn, hrun⟩ := hyes rfl
      cases hdn
      refine codeAny_handlers_suite_as (HandSPX.lands_againZ fl3 fun h4 fl4 up4 => ?_)
      have J4 : L2.Inv X pins σ' H' ⟨h4, s'.gens, s'.drawn, s'.toks, s'.os⟩ := Inv.landed J nb fl4.1 (Heap.UpToSlots.trans (Heap.UpToSlots.trans up up3) up4) os ag
      obtain ⟨oe4, vs4, he4, hz4, hd4⟩ := HandSPX.FlyingZ.there fl4
      have T4 := inv_track J J4 hI he4 hd4 na nL (exN_ok he4 hz4 hd4)
      have S4 := inv_suiteN (Inv.suite J4 he4 hd4 na nL nF).ok T4
      refine store_ok (X := X.suite a (X.pn ++ pins)) S4 hN hi hloc (show RelV (V.ref a) (Value.ref a) from rfl) (fun s5 S5 => wpAny_mono ((hsu a (X.pn ++ pins)).run [] s5 _ _ _ S5 (hrun a na)) (fun f s6 hsp => ?_) fun x x_1 z => z.elim) (Or.inr hln)
      have end_ : ∀ {σ6 : L2.St} {H6 : Hp} {Q : Unit → Shared → Prop}, L2.Inv (X.suite a (X.pn ++ pins)) [] σ6 H6 s6 → (∀ s7, L2.Inv X pins (σ6.set i none) H6 s7 → Q () s7) → wpAny (model X.prog X.w) X.A (do
          bindName X.env n Value.none
          unbindBehindTheSuite X.env n pos') Q X.xe s6 := fun S6 hq => gone_ok (inv_unsuiteN ok S6) hN hi hln hq
      cases f with
      | next =>
        obtain ⟨σ6, H6, S6, q6⟩ := hsp
        exact end_ S6 fun s7 J7 => ⟨_, _, J7, q6⟩
      | brk =>
        obtain ⟨σ6, H6, S6, q6⟩ := hsp
        exact end_ S6 fun s7 J7 => ⟨_, _, J7, q6⟩
      | cont =>
        obtain ⟨σ6, H6, S6, q6⟩ := hsp
        exact end_ S6 fun s7 J7 => ⟨_, _, J7, q6⟩
      | ret u =>
        obtain ⟨v6, σ6, H6, S6, r6, q6⟩ := hsp
        exact end_ S6 fun s7 J7 => ⟨_, _, _, J7, r6, q6⟩
/-! ### a method that may raise, called in a try -/
def tMethS (C : Addr) (m : Str) (sp : Sp) (E : L2.St → XK) (ta : TE) (t : TA) : TE := fun σ H Q => ta σ H fun x H1 => ∃ a dx fs, x = V.ref a ∧ H1 a = some (HO.ins C dx fs) ∧ List.lookup m fs = none ∧ t σ H1 fun vs H2 => sp (x :: vs) H2 Q (E σ)
theorem pe_methS {X : Cx} {CX : CXT} {k : Nat} {f C : Addr} {fd : FuncData} {ps : List Str} {sp : Sp} {E : L2.St → XK} {m : Str} {pos apos : Pos} {e o : Expr} {es : List Expr} {ta : TE} {t : TA} {pl : Sem Bool} (he : PE X o ta) (c : Cls X.K C) (hm : Meth X.K C m f) (F : FnOk X.prog X.w X.K X.mg X.base CX k f fd ps sp)
    (hr : Room k X.A) (hb : Binds X.K fd ps []) (hx : ∀ σ, PassesAt CX X σ (E σ)) (ha : PA X (e :: es) t)
    (hst : starEach (e :: es) X.env = (false, eval e X.env) :: starEach es X.env := by rfl) (hpl : (backTo pos (starEach es X.env)).any (·.1) = false := by rfl)
    (ht : (eval (.Call (.Attribute o m apos) (e :: es) [] pos) X.env = do
      let ov ← eval o X.env
      standAt apos.atName
      let __x ← holding [ov] (getMethod ov m pl)
      match __x with
        | (f, first) => callWith pos f first (backTo pos (starEach (e :: es) X.env)) (backToKw pos (keywordEach [] X.env))) := by rfl) :
    PE X (.Call (.Attribute o m apos) (e :: es) [] pos) (tMethS C m sp E ta t) := by
  refine ⟨fun pins s σ H Q I h => W.methodCall_KW (thn (he.run pins s σ H _ I h) fun u s1 xx => ?_) ht⟩
  obtain ⟨x, H1, I1, rx, a, dx, fs, rfl, ea, l, q⟩ := xx
  obtain rfl : u = Value.ref a := rx
  refine getmeth_ok I1 ea c hm l (W.callWith_K I.ok.mod.kin hm.kp (thn (ha.run pos pins s1 σ H1 _ I1 q) fun us s2 yy => ?_) hst hpl)
  obtain ⟨vs, H2, I2, r, q2⟩ := yy
  exact ⟨Inv.kIn I2, run_fnS F hr hb (hx σ) I2 (Paired.cons (show RelV (V.ref a) (Value.ref a) from rfl) r) q2⟩
def tTryK (K : PySem.W.Frag) (c : Value) (i : Nat) (tb : WX → TS) (ts : TS) : TS := fun D σ H => tb (wKeep K c i ts (fun _ _ _ _ => False) D) D σ H
def tTryO (K : PySem.W.Frag) (c : Value) (tb : WX → TS) (ts : TS) : TS := fun D σ H => tb (wOnly K c (fun _ _ _ => ts) (fun _ _ _ _ => False) D) D σ H
def tRaiseO (C : Addr) (E : XK) : TS := fun _ _ H => E (.ref C) none H
/-! ### what an error is, and is not -/
section
variable {K : PySem.W.Frag} {C D : Addr} {b : Bool}
theorem kc_sub (i : PySem.W.isClsIn K D = true) (t : PySem.W.typeIn K (.ref D) = some (.type "type")) : PySem.W.kitCls K (.ref C) (.ref D) = PySem.W.subIn K (.ref C) (.ref D) := by
  have i' : (PySem.W.clsIn K D).isSome = true := i
  show (if ((PySem.W.clsIn K D).isSome && PySem.W.typeIn K (.ref D) == some (.type "type")) = true then PySem.W.subIn K (.ref C) (.ref D) else none) = _
  rw [if_pos (by rw [i', t]; rfl)]
theorem kc_exm (h : PySem.W.subIn K (.ref D) (.type "BaseException") = some true) (i : PySem.W.isClsIn K D = true) (t : PySem.W.typeIn K (.ref D) = some (.type "type")) (s : PySem.W.subIn K (.ref C) (.ref D) = some b) : PySem.W.exmOne K (.ref C) (.ref D) = some b := by
  show (if (PySem.W.subIn K (.ref D) (.type "BaseException") == some true) = true then PySem.W.kitCls K (.ref C) (.ref D) else none) = _
  rw [if_pos (by rw [h]; rfl), kc_sub i t, s]
theorem kc_t (i : PySem.W.isClsIn K D = true) (t : PySem.W.typeIn K (.ref D) = some (.type "type")) (s : PySem.W.subIn K (.ref C) (.ref D) = some true) : PySem.W.kitOne K (.ref C) (.ref D) = some true := by
  show (if ((Value.ref C) == (Value.ref D)) = true then some true else PySem.W.kitCls K (.ref C) (.ref D)) = _
  rw [kc_sub i t, s]
  split <;> rfl
theorem kc_f (i : PySem.W.isClsIn K D = true) (t : PySem.W.typeIn K (.ref D) = some (.type "type")) (s : PySem.W.subIn K (.ref C) (.ref D) = some false) (s0 : PySem.W.subIn K (.ref C) (.ref C) = some true) : PySem.W.kitOne K (.ref C) (.ref D) = some false := by
  have n : ¬ ((Value.ref C) == (Value.ref D)) = true := fun e => by
    have e2 : Value.ref C = Value.ref D := eq_of_beq e
    rw [← e2, s0] at s
    cases s
  show (if ((Value.ref C) == (Value.ref D)) = true then some true else PySem.W.kitCls K (.ref C) (.ref D)) = _
  rw [if_neg n, kc_sub i t, s]
theorem kc_v (s : PySem.W.subIn K (.ref C) (.type "ValueError") = some b) : PySem.W.kitOne K (.ref C) (.type "ValueError") = some b := by
  show (if ((Value.ref C) == (Value.type "ValueError")) = true then some true else (if PySem.W.kitMeta "ValueError" = true then PySem.W.subIn K (.ref C) (.type "ValueError") else none)) = _
  rw [if_neg (fun e => nomatch (eq_of_beq e : Value.ref C = Value.type "ValueError")), if_pos (by decide +kernel), s]
theorem kc_nil {t : Value} : PySem.W.kitAny K t [] = some false := rfl
theorem kc_no {t c : Value} {r : List Value} (h : PySem.W.kitOne K t c = some false) (g : PySem.W.kitAny K t r = some b) : PySem.W.kitAny K t (c :: r) = some b := by
  show (match PySem.W.kitOne K t c with | some true => some true | some false => PySem.W.kitAny K t r | none => none) = _
  rw [h]
  exact g
theorem kc_yes {t c : Value} {r : List Value} (h : PySem.W.kitOne K t c = some true) : PySem.W.kitAny K t (c :: r) = some true := by
  show (match PySem.W.kitOne K t c with | some true => some true | some false => PySem.W.kitAny K t r | none => none) = _
  rw [h]
end
end Fc

set_option Elab.async false
set_option linter.all false
set_option maxRecDepth 100000
set_option maxHeartbeats 4000000
namespace Fc
open PySem L2 RZ

theorem u65 {k : Nat} {A : Around} (hr : Room k A) : A.units + 65 < cLine := by
  have := hr.un
  omega
section
variable {K : PySem.W.Frag} {σ : L2.St} {H : Hp} {Q : VK}
/-! ### fields, methods, dicts -/
def kFld (K : PySem.W.Frag) (f : Str) (Q : VK) : VK := fun x H1 => ∃ a C dx fs v, x = V.ref a ∧ H1 a = some (HO.ins C dx fs) ∧ Cls K C ∧ NoAttr K C f ∧ List.lookup f fs = some v ∧ Q v H1
theorem w_fld {ta : TE} {f : Str} (q : ta σ H (kFld K f Q)) : tFld K ta f σ H Q := q
theorem w_kfld {f : Str} {a C dx : Addr} {fs : List (Str × V)} {v : V} (h : H a = some (.ins C dx fs)) (c : Cls K C) (n : NoAttr K C f) (l : fs.lookup f = some v) (q : Q v H) : kFld K f Q (.ref a) H := ⟨a, C, dx, fs, v, rfl, h, c, n, l, q⟩
def kMeth (C : Addr) (m : Str) (sp : Sp) (E : XK) (t : TA) (σ : L2.St) (Q : VK) : VK := fun x H1 => ∃ a dx fs, x = V.ref a ∧ H1 a = some (HO.ins C dx fs) ∧ List.lookup m fs = none ∧ t σ H1 fun vs H2 => sp (x :: vs) H2 Q E
theorem w_meth {C : Addr} {m : Str} {sp : Sp} {E : XK} {ta : TE} {t : TA} (q : ta σ H (kMeth C m sp E t σ Q)) : tMeth C m sp [] E ta t σ H Q := by
  have e : kMeth C m sp E t σ Q = fun x H1 => ∃ a dx fs, x = V.ref a ∧ H1 a = some (HO.ins C dx fs) ∧ List.lookup m fs = none ∧ t σ H1 fun vs H2 => sp (x :: (vs ++ [])) H2 Q E := by
    unfold kMeth
    simp only [List.append_nil]
  rw [e] at q
  exact q
theorem w_methS {C : Addr} {m : Str} {sp : Sp} {E : L2.St → XK} {ta : TE} {t : TA} (q : ta σ H (kMeth C m sp (E σ) t σ Q)) : tMethS C m sp E ta t σ H Q := q
theorem w_kmeth {C a dx : Addr} {m : Str} {fs : List (Str × V)} {sp : Sp} {E : XK} {t : TA} (h : H a = some (.ins C dx fs)) (l : fs.lookup m = none) (q : t σ H fun vs H2 => sp (.ref a :: vs) H2 Q E) : kMeth C m sp E t σ Q (.ref a) H := ⟨a, dx, fs, rfl, h, l, q⟩
def kMake (C : Addr) (sp : Sp) (E : XK) (Q : VK) : List V → Hp → Prop := fun vs H1 => ∀ (x dx : Addr), H1 x = none → H1 dx = none → dx ≠ x → sp (.ref x :: vs) (upd (upd H1 dx (.own x)) x (.ins C dx [])) (fun v H2 => v = .non ∧ Q (.ref x) H2) E
theorem w_make {C : Addr} {sp : Sp} {E : XK} {t : TA} (q : t σ H (kMake C sp E Q)) : tMake C sp [] E t σ H Q := by
  have e : kMake C sp E Q = fun vs H1 => ∀ (x dx : Addr), H1 x = none → H1 dx = none → dx ≠ x → sp (.ref x :: (vs ++ [])) (upd (upd H1 dx (.own x)) x (.ins C dx [])) (fun v H2 => v = .non ∧ Q (.ref x) H2) E := by
    unfold kMake
    simp only [List.append_nil]
  rw [e] at q
  exact q
def kSFld (K : PySem.W.Frag) (f : Str) (y : V) (σ : L2.St) (Q : L2.St → Hp → Prop) : VK := fun x H2 => ∃ a C dx fs, x = V.ref a ∧ H2 a = some (HO.ins C dx fs) ∧ Cls K C ∧ NoAttr K C f ∧ List.length fs < 1000 ∧ Q σ (upd H2 a (HO.ins C dx (putF f y fs)))
theorem w_sfld {ta tv : TE} {f : Str} {a : L2.St → Hp → Prop} {b : VK} {c d : L2.St → Hp → Prop} (q : tv σ H fun y H1 => ta σ H1 (kSFld K f y σ a)) : sFld K ta tv f ⟨a, b, c, d⟩ σ H := q
theorem w_ksfld {R : L2.St → Hp → Prop} {f : Str} {y : V} {a C dx : Addr} {fs gs : List (Str × V)} (h : H a = some (.ins C dx fs)) (c : Cls K C) (n : NoAttr K C f) (l : fs.length < 1000) (e : putF f y fs = gs) (q : ∀ H', Kp (at1 a) H H' → H' a = some (.ins C dx gs) → R σ H') : kSFld K f y σ R (.ref a) H :=
  ⟨a, C, dx, fs, rfl, h, c, n, l, by rw [e]; exact q _ (Kp.set h rfl rfl) upd_same⟩
def kDGet (Q : VK) (x : V) : VK := fun y H2 => ∃ a v, x = V.ref a ∧ DGet H2 a y (some v) ∧ Q v H2
theorem w_dget {td ty : TE} (q : td σ H fun x H1 => ty σ H1 (kDGet Q x)) : tDGet td ty σ H Q := q
theorem w_kdget {a : Addr} {kvs : List (Key × V)} {x : Str} {v : V} (h : H a = some (.dK kvs)) (e : valV kvs (.inr x) = some v) (q : Q v H) : kDGet Q (.ref a) (.str x) H := ⟨a, v, rfl, .inl ⟨kvs, .inr x, .inl h, rfl, e.symm⟩, q⟩
/-! ### a comprehension whose invariant names the list that it fills -/
theorem w_keltD {D : Addr} {Pv : List V → Hp → Prop} {y : V} {acc : List V} (hD : H D = some (.lst acc)) (hl : acc.length < sizeLine) (p : ∀ H', Kp (at1 D) H H' → Pv (acc ++ [y]) H') : kElt D (PvD D Pv) y H :=
  ⟨acc, hD, hl, acc ++ [y], upd_same, p _ (Kp.set hD rfl rfl)⟩
theorem w_lcGD {J : It} {n : Nat} {S : Hp → Prop} {Y : Nat → V → Hp → Prop} {g : TG} {tt : TT} {te : TE} {vs : List Nat} (wk : Wk J n S Y) (Pv : Addr → Nat → List V → Hp → Prop) (h0 : ∀ D H', H D = none → Kp no H H' → Pv D 0 [] H') (hst : ∀ D i acc H', H D = none → i ≤ n → Pv D i acc H' → S H')
    (hs : ∀ i x acc D H2 H', i < n → H D = none → H2 D = some (.lst acc) → Pv D i acc H2 → Kp no H2 H' → Y i x H' → g x (wipe σ vs) H' fun σ2 H2 => wipe σ2 vs = wipe σ vs ∧ tt σ2 H2 fun b H3 =>
      if b = true then te σ2 H3 (kElt D (PvD D (Pv D (i + 1)))) else PvD D (Pv D (i + 1)) H3) (hd : ∀ acc D H', H D = none → H' D = some (.lst acc) → Pv D n acc H' → Q (.ref D) H') : kLc J g tt te vs σ Q H := by
  intro D hD
  refine ⟨fun i m H' => m = n - i ∧ i ≤ n ∧ PvD D (Pv D i) H', ⟨n, by simp, Nat.zero_le _, [], upd_same, h0 D _ hD (Kp.new hD)⟩, ?_⟩
  rintro i m H2 ⟨rfl, hi, acc, ha, p⟩
  have s := hst D i acc H2 hD hi p
  by_cases hlt : i < n
  · refine .inr ⟨wk.go i H2 s hlt, PvD D (Pv D (i + 1)), fun H' p' => ⟨n - (i + 1), by omega, rfl, hlt, p'⟩, fun x H' y => ?_⟩
    obtain ⟨k, y⟩ := wk.yld i x H2 H' s hlt y
    exact hs i x acc D H2 H' hlt hD ha p k y
  · have e : i = n := by omega
    subst e
    exact .inl ⟨wk.stop H2 s, hd acc D H2 hD ha p⟩
/-! ### a list of lists of data -/
/-- at a the list of the lists at rs, each its own, that hold rows -/
structure Grid (K : PySem.W.Frag) (H : Hp) (a : Addr) (rs : List Addr) (rows : List (List PyData)) : Prop where
  at_ : H a = some (.lst (rs.map V.ref))
  len : rs.length = rows.length
  row : ∀ (i : Nat) (r : Addr) (ds : List PyData), rs[i]? = some r → rows[i]? = some ds → LstD K H r ds
theorem Grid.kp {M : Addr → Prop} {H' : Hp} {a : Addr} {rs : List Addr} {rows : List (List PyData)} (k : Kp M H H') (m : ¬ M a) (ms : ∀ r ∈ rs, ¬ M r) (h : Grid K H a rs rows) : Grid K H' a rs rows :=
  ⟨k.at m h.at_, h.len, fun i r ds e1 e2 => (h.row i r ds e1 e2).kp k (ms r (List.mem_of_getElem? e1))⟩
theorem Grid.there {a : Addr} {rs : List Addr} {rows : List (List PyData)} (h : Grid K H a rs rows) : ∀ r ∈ rs, ∃ xs, H r = some (.lst xs) := fun r hr => by
  obtain ⟨i, hi, rfl⟩ := List.getElem_of_mem hr
  obtain ⟨vs, e, _⟩ := h.row i rs[i] (rows[i]'(by rw [← h.len]; exact hi)) (List.getElem?_eq_getElem hi) (List.getElem?_eq_getElem _)
  exact ⟨vs, e⟩
theorem Grid.ne {a p : Addr} {rs : List Addr} {rows : List (List PyData)} (h : Grid K H a rs rows) (e : H p = none) : p ≠ a ∧ p ∉ rs := ⟨ne_none h.at_ e, fun hp => by
  obtain ⟨xs, q⟩ := h.there p hp
  rw [e] at q; cases q⟩
theorem Grid.dg {a : Addr} {rs : List Addr} {rows : List (List PyData)} (h : Grid K H a rs rows) : Dg (fun x => x = a ∨ x ∈ rs) K H (.ref a) (.list (rows.map PyData.list)) := by
  refine .lst (.inl rfl) (SqL.of h.at_) ?_
  have : ∀ (ss : List Addr) (qs : List (List PyData)), (∀ r ∈ ss, r ∈ rs) → ss.length = qs.length → (∀ (i : Nat) (r : Addr) (ds : List PyData), ss[i]? = some r → qs[i]? = some ds → LstD K H r ds) → DA (fun x => x = a ∨ x ∈ rs) K H (ss.map V.ref) (qs.map PyData.list) := by
    intro ss
    induction ss with
    | nil =>
      intro qs _ l _
      cases qs with
      | nil => exact .nil
      | cons => simp at l
    | cons s ss ih =>
      intro qs hm l hr
      cases qs with
      | nil => simp at l
      | cons d qs =>
        refine .cons (((hr 0 s d rfl rfl).dg).mono fun x e => .inr (by rw [e]; exact hm s (List.mem_cons_self ..))) (ih qs (fun r h => hm r (List.mem_cons_of_mem _ h)) (by simpa using l) fun i r ds e1 e2 => hr (i + 1) r ds (by simpa using e1) (by simpa using e2))
  exact this rs rows (fun r h => h) h.len h.row
/-- the i-th list holds another row -/
theorem Grid.set {H' : Hp} {a r : Addr} {rs : List Addr} {rows : List (List PyData)} {i : Nat} {ds : List PyData} (h : Grid K H a rs rows) (nd : rs.Nodup) (na : a ∉ rs) (e : rs[i]? = some r) (k : Kp (at1 r) H H') (g : LstD K H' r ds) : Grid K H' a rs (rows.set i ds) := by
  have hr := List.mem_of_getElem? e
  refine ⟨k.at (fun z => na (by rw [z]; exact hr)) h.at_, by rw [List.length_set]; exact h.len, fun j s es e1 e2 => ?_⟩
  by_cases hj : j = i
  · subst hj
    rw [e] at e1; cases e1
    have hi : j < rows.length := by
      have := (List.getElem?_eq_some_iff.mp e).1
      have := h.len
      omega
    rw [List.getElem?_set_self hi] at e2; cases e2
    exact g
  · rw [List.getElem?_set_ne (Ne.symm hj)] at e2
    refine (h.row j s es e1 e2).kp k fun z => hj ?_
    have z' : s = r := z
    subst z'
    have h1 := List.getElem?_eq_some_iff.mp e1
    have h2 := List.getElem?_eq_some_iff.mp e
    exact (List.getElem_inj nd).mp (h1.2.trans h2.2.symm)
/-- a comprehension that makes a list of new lists -/
theorem w_lcGr {J : It} {n : Nat} {S : Hp → Prop} {Y : Nat → V → Hp → Prop} {g : TG} {te : TE} {vs : List Nat} (wk : Wk J n S Y) (f : Nat → List PyData) (hn : n ≤ 100000) (hst : ∀ H', Kp no H H' → S H')
    (hs : ∀ i x H', i < n → Kp no H H' → Y i x H' → ∀ R : VK, (∀ r H2, H' r = none → Kp no H' H2 → LstD K H2 r (f i) → R (.ref r) H2) → g x (wipe σ vs) H' fun σ2 H2 => wipe σ2 vs = wipe σ vs ∧ te σ2 H2 R)
    (hd : ∀ p rs H', H p = none → Kp no H H' → Grid K H' p rs ((List.range n).map f) → (p :: rs).Nodup → (∀ r ∈ rs, H r = none) → Q (.ref p) H') : kLc J g tYes te vs σ Q H := by
  refine w_lcGD wk (fun D i acc H' => ∃ rs, acc = rs.map V.ref ∧ rs.length = i ∧ Kp no H H' ∧ (∀ j r, rs[j]? = some r → LstD K H' r (f j)) ∧ (D :: rs).Nodup ∧ ∀ r ∈ rs, H r = none) (fun D H' _ k => ⟨[], rfl, rfl, k, fun j r e => by simp at e, by simp, by simp⟩) (fun D i acc H' _ _ ⟨_, _, _, k, _⟩ => hst H' k) ?_ ?_
  · rintro i x acc D H2 H' hi hD ha ⟨rs, rfl, rfl, k2, hr, nd, fr⟩ k y
    have tr := hs rs.length x H' hi (k2.tr0 k) y (kElt D (PvD D fun acc H' => ∃ rs', acc = rs'.map V.ref ∧ rs'.length = rs.length + 1 ∧ Kp no H H' ∧ (∀ j r, rs'[j]? = some r → LstD K H' r (f j)) ∧ (D :: rs').Nodup ∧ ∀ r ∈ rs', H r = none)) fun r H3 fr3 k3 L3 => ?_
    · have yes : ∀ σ2 H3 (R : VK) (R0 : Hp → Prop), te σ2 H3 R → tYes σ2 H3 fun b H4 => if b = true then te σ2 H4 R else R0 H4 := fun σ2 H3 R R0 h => w_yes (by rw [if_pos rfl]; exact h)
      have tr' : g x (wipe σ vs) H' fun σ2 H3 => wipe σ2 vs = wipe σ vs ∧ te σ2 H3 (kElt D (PvD D fun acc H' => ∃ rs', acc = rs'.map V.ref ∧ rs'.length = rs.length + 1 ∧ Kp no H H' ∧ (∀ j r, rs'[j]? = some r → LstD K H' r (f j)) ∧ (D :: rs').Nodup ∧ ∀ r ∈ rs', H r = none)) := tr
      exact tr'
    · have hD3 : H3 D = some (.lst (rs.map V.ref)) := k3.at (fun z => z) (k.at (fun z => z) ha)
      have rD : r ≠ D := ne_none (k.at (fun z => z) ha) fr3
      have fr0 : H r = none := (k2.tr0 k).free fr3
      have rrs : r ∉ rs := fun hm => by
        obtain ⟨j, hj, e⟩ := List.getElem_of_mem hm
        obtain ⟨ws, q, _⟩ := hr j rs[j] (List.getElem?_eq_getElem hj)
        rw [e] at q
        have q' := k.at (fun z => z) q
        rw [fr3] at q'; cases q'
      refine w_keltD hD3 (by rw [List.length_map, sizeLine_eq]; omega) fun H4 k4 => ⟨rs ++ [r], by simp, by simp, ((k2.tr0 k).tr0 k3).own hD k4, fun j s e => ?_, ?_, fun s hs => ?_⟩
      · by_cases hj : j < rs.length
        · rw [List.getElem?_append_left hj] at e
          have sD : s ≠ D := fun z => (List.nodup_cons.mp nd).1 (by rw [← z]; exact List.mem_of_getElem? e)
          exact (((hr j s e).kp k fun z => z).kp k3 fun z => z).kp k4 sD
        · rw [List.getElem?_append_right (by omega)] at e
          have e0 : j - rs.length = 0 := by
            cases h : j - rs.length with
            | zero => rfl
            | succ m => rw [h] at e; simp at e
          rw [e0] at e
          simp at e
          subst e
          have : j = rs.length := by omega
          subst this
          exact L3.kp k4 rD
      · obtain ⟨n1, n2⟩ := List.nodup_cons.mp nd
        refine List.nodup_cons.mpr ⟨fun hm => ?_, ?_⟩
        · rcases List.mem_append.mp hm with h | h
          · exact n1 h
          · exact rD (List.mem_singleton.mp h).symm
        · exact List.nodup_append.mpr ⟨n2, by simp, fun a ha b hb => by
            rw [List.mem_singleton.mp hb]
            exact fun z => rrs (by rw [← z]; exact ha)⟩
      · rcases List.mem_append.mp hs with h | h
        · exact fr s h
        · rw [List.mem_singleton.mp h]; exact fr0
  · rintro acc D H' hD ha ⟨rs, rfl, hl, k, hr, nd, fr⟩
    refine hd D rs H' hD k ⟨ha, by simpa using hl, fun i r ds e1 e2 => ?_⟩ nd fr
    have hi : i < n := by
      have := (List.getElem?_eq_some_iff.mp e1).1
      omega
    rw [List.getElem?_map, List.getElem?_range hi] at e2
    cases e2
    exact hr i r e1
end
end Fc

set_option Elab.async false
set_option linter.all false
set_option maxRecDepth 100000
set_option maxHeartbeats 4000000
namespace Fc
open PySem L2 RZ
/-! ### != of two dicts that hold the same data: False -/
theorem hits_data {κ : Type} [DecidableEq κ] {A : Around} {s : Shared} {kvs : List (κ × V)} {vb : List (κ × Value)} (hu : A.in1.units + 64 < cLine) (rb : KV kvs vb) : ∀ {ks : List (κ × V)} {va : List (κ × Value)}, KV ks va →
    (∀ p ∈ ks, ∃ (u : V) (d : PyData), valV kvs p.1 = some u ∧ (∀ v y : Value, RelV p.2 v → RelV u y → ∃ as bs, Reads s.heap v d as ∧ Reads s.heap y d bs) ∧ SeqAt.shaped d = true ∧ PyData.eqv d d = true) → W.KeqHits A.in1 s vb va true
  | _, _, .nil, _ => .nil
  | p :: ks, (k, v) :: va, .cons h t, hp => by
    obtain ⟨u, d, e, rd, sd, ed⟩ := hp p (List.mem_cons_self ..)
    have rr : RelO (some u) (valueAt vb p.1) := by rw [← e]; exact KV.val rb p.1
    obtain ⟨y, hy, ry⟩ := RelO.some_of rr
    obtain ⟨h1, h2⟩ := h
    have h1' : p.1 = k := h1
    subst h1'
    obtain ⟨as, bs, r1, r2⟩ := rd v y h2 ry
    have q := W.keq_at (A := A) r1 r2 sd sd hu
    rw [ed] at q
    exact W.KeqHits.hit (e := true) (b := true) hy q (hits_data hu rb t fun p' hm => hp p' (List.mem_cons_of_mem _ hm))
def rNeDD (K : PySem.W.Frag) : R2 := fun x y H Q => ∃ (a b : Addr) (ks ls : List (Key × V)), x = .ref a ∧ y = .ref b ∧ H a = some (.dK ks) ∧ H b = some (.dK ls) ∧ ks.length = ls.length ∧ (∀ p ∈ ks, ∃ (u : V) (d : PyData), valV ls p.1 = some u ∧ Dp K H p.2 d ∧ Dp K H u d ∧ SeqAt.shaped d = true ∧ PyData.eqv d d = true) ∧ Q (.bl false) H
theorem op_neDD {X : Cx} (hu : X.A.units + 65 < cLine) : OpR X (compareOp .NotEq) (rNeDD X.K) := by
  intro pins s σ H x y v u Q I rx ry h
  obtain ⟨a, b, ks, ls, rfl, rfl, ea, eb, hl, hp, q⟩ := h
  obtain rfl : v = Value.ref a := rx
  obtain rfl : u = Value.ref b := ry
  obtain ⟨_, ya, va, ra, da⟩ := I.hok a _ ea
  obtain ⟨_, yb, vb, rb, db⟩ := I.hok b _ eb
  have hl' : va.length = vb.length := by rw [← KV.length ra, ← KV.length rb]; exact hl
  refine W.keq_ne (r := true) ya yb da db (by omega) (fun _ => hits_data (by show X.A.units + 1 + 64 < cLine; omega) rb ra fun p hm => ?_) ?_
  · obtain ⟨w, d, e1, d1, d2, sd, ed⟩ := hp p hm
    refine ⟨w, d, e1, fun v y rv ry => ?_, sd, ed⟩
    obtain ⟨as, h1⟩ := Dp.reads I d p.2 v d1 rv
    obtain ⟨bs, h2⟩ := Dp.reads I d w y d2 ry
    exact ⟨as, bs, h1, h2⟩
  · have e : (!(va.length == vb.length && true)) = false := by rw [hl']; simp
    rw [e]
    exact ⟨.bl false, H, I, rfl, q⟩
/-! ### statements that are never reached -/
def tNever : TS := fun _ _ _ => False
theorem pss_never {X : Cx} {st : List Stmt} : PSs X st tNever := ⟨fun _ _ _ _ _ _ h => h.elim⟩
end Fc

set_option Elab.async false
set_option linter.all false
set_option maxRecDepth 100000
set_option maxHeartbeats 4000000
namespace Fc
open PySem L2 RZ

local macro_rules | `(tactic| walk_at "sz") => `(tactic| first | (with_reducible assumption) | (show _ ≤ sizeLine; decide) | (show _ < sizeLine; decide) | (rw [sizeLine_eq]; omega) | (simp only [List.length_append, List.length_cons, List.length_nil, List.length_map]; rw [sizeLine_eq]; omega))
local macro_rules | `(tactic| walk_at "ne") => `(tactic| first | assumption | exact Ne.symm (by assumption) | (intro z; exact z))
local macro_rules | `(tactic| walk_at "at") => `(tactic| first | assumption | ((refine' Kp.at (by assumption) ?m ?h); (case m => walk_at "ne"); (case h => walk_at "at")))
local macro_rules | `(tactic| walk_at "reg") => `(tactic| first | exact fun _ z => z.elim | exact fun _ _ z => z | (intro a e z; cases e; revert z; walk_at "ne") | (intro a e; cases e; walk_at "ne"))
local macro_rules | `(tactic| walk_at "dz") => `(tactic| first | assumption | exact .int _ | exact .bl _ | exact .str _ | exact .non | ((refine' Dz.kp (by assumption) ?h); (case h => walk_at "dz")))
local macro_rules | `(tactic| walk_at "dg") => `(tactic| first | assumption | exact Dg.int (G := no) _ | exact Dg.bl (G := no) _ | exact Dg.str (G := no) _ | exact Dg.non (G := no) | exact .int _ | exact .bl _ | exact .str _ | exact .non | ((refine' Dg.kp (by assumption) ?m ?h); (case h => walk_at "dg"); (case m => walk_at "reg")) | ((refine' Dg.z ?h); (case h => walk_at "dz")))
local macro_rules | `(tactic| walk_at "dgt") => `(tactic| first | walk_at "dg" | ((refine' Dg.tup ?h ?g); (case h => walk_at "sqt"); (case g => walk_at "da")))
local macro_rules | `(tactic| walk_at "da") => `(tactic| first | assumption | exact .nil | ((refine' DA.cons ?h ?g); (case h => walk_at "dgt"); (case g => walk_at "da")) | ((refine' DAz.kp (by assumption) ?h); (case h => walk_at "da")))
local macro_rules | `(tactic| walk_at "tup") => `(tactic| first | assumption | ((refine' Kp.fix (by assumption) rfl ?h); (case h => walk_at "tup")))
local macro_rules | `(tactic| walk_at "sqt") => `(tactic| first | assumption | ((refine' SqT.of ?h); (case h => walk_at "tup")) | ((refine' SqT.kp (by assumption) ?h); (case h => walk_at "sqt")))
local macro_rules | `(tactic| walk_at "sql") => `(tactic| first | assumption | ((refine' SqL.of ?h); (case h => walk_at "at")) | ((refine' SqL.kp (by assumption) ?m ?h); (case m => walk_at "ne"); (case h => walk_at "sql")))
local macro_rules | `(tactic| walk_at "ld") => `(tactic| first | assumption | ((refine' LstD.kp (by assumption) ?m ?h); (case h => walk_at "ld"); (case m => walk_at "ne")))
local macro_rules | `(tactic| walk_at "kp") => `(tactic| first | assumption | exact Kp.refl | ((refine' Kp.tr0 ?h (by assumption)); (case h => walk_at "kp")) | ((refine' Kp.tr' ?h (by assumption)); (case h => walk_at "kp")) | ((refine' Kp.own ?h ?f (by assumption)); (case f => walk_at "free"); (case h => walk_at "kp")) | ((refine' Kp.of0 ?h); (case h => walk_at "kp")))
local macro_rules | `(tactic| walk_at "free") => `(tactic| first | assumption | ((refine' Kp.free (by assumption) ?h); (case h => assumption)) | ((refine' Kp.free ?k ?h); (case h => assumption); (case k => walk_at "kp")))
local macro_rules | `(tactic| walk_at "rand") => `(tactic| first | assumption | ((refine' Rand.kp (by assumption) ?m ?h); (case m => walk_at "ne"); (case h => walk_at "rand")))
local macro_rules | `(tactic| walk_at "s1") => `(tactic| first
  | ((with_reducible refine' w_var ?k1 ?_); (case k1 => rfl))
  | with_reducible refine' w_c ?_
  | with_reducible refine' w_op ?_
  | with_reducible refine' w_cons ?_
  | with_reducible refine' w_nil ?_
  | with_reducible refine' w_cb ?_
  | with_reducible refine' w_seq ?_
  | with_reducible refine' w_asg ?_
  | with_reducible refine' w_gname ?_
  | with_reducible refine' w_ret ?_
  | with_reducible refine' w_drop ?_
  | with_reducible refine' w_retN ?_
  | with_reducible refine' w_add ?_
  | with_reducible refine' w_sub ?_
  | ((with_reducible refine' w_mod ?k1 ?_); (case k1 => first | decide | omega))
  | ((with_reducible refine' w_div ?k1 ?_); (case k1 => first | decide | omega))
  | ((with_reducible refine' w_mul ?k1 ?_); (case k1 => first | exact .inl (by omega) | exact .inr (by omega)))
  | ((with_reducible refine' w_pow ?k1 ?_); (case k1 => exact ⟨by decide, by decide, by decide⟩))
  | with_reducible refine' w_lt ?_
  | with_reducible refine' w_le ?_
  | with_reducible refine' w_gt ?_
  | with_reducible refine' w_ge ?_
  | with_reducible refine' w_neg ?_
  | with_reducible refine' w_eqI ?_
  | with_reducible refine' w_neI ?_
  | with_reducible refine' w_eqB ?_
  | with_reducible refine' w_neB ?_
  | with_reducible refine' w_isN ?_
  | with_reducible refine' w_notN ?_
  | with_reducible refine' w_abs ?_
  | with_reducible refine' w_min2 ?_
  | with_reducible refine' w_max2 ?_
  | with_reducible refine' w_int1 ?_
  | with_reducible refine' w_int1i ?_
  | with_reducible refine' w_un ?_
  | with_reducible refine' w_ifs ?_
  | with_reducible refine' w_ifx ?_
  | with_reducible refine' w_ift ?_
  | with_reducible refine' w_iff ?_
  | ((with_reducible refine' w_ifT ?k1 ?_); (case k1 => first | rfl | exact decide_eq_true rfl))
  | ((with_reducible refine' w_ifF ?k1 ?_); (case k1 => rfl))
  | with_reducible refine' w_test ?_
  | with_reducible refine' w_tb ?_
  | with_reducible refine' w_bl ?_
  | with_reducible refine' w_and ?_
  | with_reducible refine' w_or ?_
  | with_reducible refine' w_not ?_
  | with_reducible refine' w_andV ?_
  | with_reducible refine' w_orV ?_
  | with_reducible refine' w_notV ?_
  | with_reducible refine' w_chain ?_
  | with_reducible refine' w_call ?_
  | with_reducible refine' w_next ?_
  | with_reducible refine' w_brk ?_
  | with_reducible refine' w_cnt ?_
  | with_reducible refine' w_par ?_
  | with_reducible refine' w_kpar ?_
  | with_reducible refine' w_tup ?_
  | with_reducible refine' w_lst ?_
  | ((with_reducible refine' w_ktup ?k1 ?_); (case k1 => walk_at "sz"))
  | ((with_reducible refine' w_klst ?k1 ?_); (case k1 => walk_at "sz"))
  | with_reducible refine' w_sl ?_
  | with_reducible refine' w_nopart ?_
  | with_reducible refine' w_part ?_
  | with_reducible refine' w_kpart ?_
  | with_reducible refine' w_lstRg ?_
  | with_reducible refine' w_rg1 ?_
  | with_reducible refine' w_rg2 ?_
  | with_reducible refine' w_krg1 ?_
  | with_reducible refine' w_krg2 ?_
  | with_reducible refine' w_bm ?_
  | with_reducible refine' w_bm0 ?_
  | with_reducible refine' w_gsub ?_
  | with_reducible refine' w_gcons ?_
  | with_reducible refine' w_gnil ?_
  | with_reducible refine' w_for ?_
  | with_reducible refine' w_lc ?_
  | with_reducible refine' w_yes ?_
  | with_reducible refine' w_rng1 ?_
  | with_reducible refine' w_rng2 ?_
  | with_reducible refine' w_ilist ?_
  | with_reducible refine' w_itup ?_
  | with_reducible refine' w_izip ?_
  | with_reducible refine' w_ienum ?_
  | ((with_reducible refine' w_isi ?k1 ?k2 ?_); (case k1 => walk_at "dg"); (case k2 => decide))
  | ((with_reducible refine' w_isi2 ?k1 ?k2 ?k3 ?k4 ?_); (case k1 => walk_at "dg"); (case k2 => walk_at "tup"); (case k3 => decide); (case k4 => decide))
  | ((with_reducible refine' w_krng1 ?k1 ?_); (case k1 => first | (constructor <;> omega) | (simp only [List.length_map]; constructor <;> omega)))
  | ((with_reducible refine' w_krng2 ?k1 ?_); (case k1 => exact ⟨by omega, by omega, by omega, by omega⟩))
  | ((with_reducible refine' w_ixL ?k1 ?k2 ?_); (case k1 => walk_at "sql"); (case k2 => rfl))
  | ((with_reducible refine' w_ixT ?k1 ?k2 ?_); (case k1 => walk_at "sqt"); (case k2 => rfl))
  | ((with_reducible refine' w_gtup ?k1 ?k2 ?_); (case k1 => walk_at "sqt"); (case k2 => rfl))
  | ((with_reducible refine' w_setL ?k1 ?k2 ?_); (case k1 => walk_at "at"); (case k2 => rfl))
  | ((with_reducible refine' w_append ?k1 ?k2 ?_); (case k1 => walk_at "at"); (case k2 => walk_at "sz"))
  | ((with_reducible refine' w_kbmL ?k1 ?_); (case k1 => walk_at "sql"))
  | ((with_reducible refine' w_kbmL0 ?k1 ?_); (case k1 => walk_at "sql"))
  | ((with_reducible refine' w_lenLd ?k1 ?_); (case k1 => walk_at "ld"))
  | ((with_reducible refine' w_lenL ?k1 ?_); (case k1 => walk_at "sql"))
  | ((with_reducible refine' w_lenT ?k1 ?_); (case k1 => walk_at "sqt"))
  | ((with_reducible refine' w_kbmLd ?k1 ?_); (case k1 => walk_at "ld"))
  | ((with_reducible refine' w_kbmLd0 ?k1 ?_); (case k1 => walk_at "ld"))
  | ((with_reducible refine' w_lenD ?k1 ?_); (case k1 => walk_at "dg"))
  | ((with_reducible refine' w_lenTD ?k1 ?_); (case k1 => walk_at "dg")))
local macro_rules | `(tactic| walk_at "s") => `(tactic| repeat (walk_at "s1"))


def rd_law_mix (K : PySem.W.Frag) : TS :=
 (tSeq (tAsg (tOp rModI (tOp rMulI (tOp rAddI (tOp rAddI (tOp rModI (tVar 0) (tC (.int 2147483629))) (tOp rMulI (tOp rMulI (tVar 1) (tVar 1)) (tC (.int 7919)))) (tC (.int 11))) (tC (.int 48271))) (tC (.int 2147483647))) (gName 2))
 (tRet (tOp rModI (tOp rMulI (tVar 2) (tVar 2)) (tC (.int 1999999973)))))
def sp_law_mix (K : PySem.W.Frag) : Sp := fun vs H Q _ => ∃ v0 v1, vs = [v0, v1] ∧ ∃ (c k : Int), v0 = .int c ∧ v1 = .int k ∧ 0 ≤ k ∧ k < 4294967296 ∧ ∀ r : Int, 0 ≤ r → r < 1999999973 → Q (.int r) H
theorem sm_law_mix {K : PySem.W.Frag} {vs : List V} {H : Hp} {Q : VK} {E : XK} (h : sp_law_mix K vs H Q E) : rd_law_mix K { nx := fun _ H' => Q .non H', rt := Q } (start ["cell", "k", "m"] vs) H := by
  obtain ⟨v0, v1, rfl, c, k, rfl, rfl, k0, k1, q⟩ := h
  show rd_law_mix K _ [some (.int c), some (.int k), none] H
  unfold rd_law_mix
  walk_at "s"
  exact q _ (Int.emod_nonneg _ (by decide)) (Int.emod_lt_of_pos _ (by decide))

def rd_law_pick (K : PySem.W.Frag) : TS :=
 (tSeq (tAsg (tOp rAddI (tOp (rIxL K) (tVar 0) (tC (.int 2))) (tC (.int 1))) (gSub (tVar 0) (tC (.int 2)) rSetL))
 (tSeq (tIfS (tTest (tOp rGtI (tOp (rIxL K) (tVar 0) (tC (.int 0))) (tC (.int 0)))) (tSeq (tAsg (tOp rModI (tOp (rIxL K) (tVar 0) (tC (.int 0))) (tVar 1)) (gName 2))
 (tSeq (tAsg (tOp rDivI (tOp (rIxL K) (tVar 0) (tC (.int 0))) (tVar 1)) (gSub (tVar 0) (tC (.int 0)) rSetL))
 (tRet (tVar 2)))) tNext)
 (tRet (tOp rModI (tOp rDivI (tCall (sp_law_mix K) [] E0 (tCons (tCall (sp_law_mix K) [] E0 (tCons (tOp (rIxL K) (tVar 0) (tC (.int 1))) (tCons (tOp (rIxL K) (tVar 0) (tC (.int 2))) tNil))) (tCons (tOp rAddI (tOp (rIxL K) (tVar 0) (tC (.int 2))) (tC (.int 64))) tNil))) (tC (.int 64))) (tVar 1)))))
def sp_law_pick (K : PySem.W.Frag) : Sp := fun vs H Q _ => ∃ v0 v1, vs = [v0, v1] ∧ ∃ (l : Addr) (n : Nat) (m : Int), v0 = .ref l ∧ v1 = .int m ∧ Rand H l n ∧ n < 2147483648 ∧ 0 < m ∧ m < 1073741824 ∧
  ∀ (r : Int) (H' : Hp), 0 ≤ r → r < m → Kp (at1 l) H H' → Rand H' l (n + 1) → Q (.int r) H'
theorem sm_law_pick {K : PySem.W.Frag} {vs : List V} {H : Hp} {Q : VK} {E : XK} (h : sp_law_pick K vs H Q E) : rd_law_pick K { nx := fun _ H' => Q .non H', rt := Q } (start ["left", "many", "digit"] vs) H := by
  obtain ⟨v0, v1, rfl, l, n, m, rfl, rfl, ⟨a, b, c, hl, a0, c0, cn⟩, hn, m0, m1, q⟩ := h
  show rd_law_pick K _ [some (.ref l), some (.int m), none] H
  unfold rd_law_pick
  walk_at "s"
  intro H1 k1 h1
  walk_at "s"
  refine w_if (fun _ => ?_) (fun _ => ?_)
  · walk_at "s"
    intro H2 k2 h2
    walk_at "s"
    refine q _ H2 (Int.emod_nonneg _ (by omega)) (Int.emod_lt_of_pos _ m0) (k1.tr' k2) ⟨_, _, _, h2, Int.ediv_nonneg a0 (by omega), by omega, by omega⟩
  · walk_at "s"
    refine ⟨_, _, rfl, _, _, rfl, rfl, by omega, by omega, fun r r0 r1 => ?_⟩
    walk_at "s"
    refine ⟨_, _, rfl, _, _, rfl, rfl, by omega, by omega, fun r' r0' r1' => ?_⟩
    walk_at "s"
    refine q _ H1 (Int.emod_nonneg _ (by omega)) (Int.emod_lt_of_pos _ m0) k1 ⟨_, _, _, h1, a0, by omega, by omega⟩

def rd_law_left (K : PySem.W.Frag) : TS :=
 (tSeq (tAsg (tIf (tTest (tOp rLtI (tVar 1) (tCB (rLenQ K) (tCons (tVar 0) tNil)))) (tOp (rIxL K) (tVar 0) (tVar 1)) (tC (.int 0))) (gName 2))
 (tRet (tLst (tCons (tOp rMulI (tCB rAbs (tCons (tVar 2) tNil)) (tCB rInt1 (tCons (tOp rGeI (tCB rAbs (tCons (tVar 2) tNil)) (tOp rPowI (tC (.int 10)) (tC (.int 18)))) tNil))) (tCons (tOp rAddI (tVar 2) (tOp rMulI (tC (.int 1000003)) (tVar 1))) (tCons (tC (.int 0)) tNil))))))
def sp_law_left (K : PySem.W.Frag) : Sp := fun vs H Q _ => ∃ v0 v1, vs = [v0, v1] ∧ ∃ (a : Addr) (ns : List Int) (k : Nat), v0 = .ref a ∧ v1 = .int k ∧ SqL K H a (ns.map V.int) ∧
  ∀ (l : Addr) (H' : Hp), H l = none → Kp no H H' → Rand H' l 0 → Q (.ref l) H'
theorem sm_law_left {K : PySem.W.Frag} {vs : List V} {H : Hp} {Q : VK} {E : XK} (h : sp_law_left K vs H Q E) : rd_law_left K { nx := fun _ H' => Q .non H', rt := Q } (start ["script", "k", "cell"] vs) H := by
  obtain ⟨v0, v1, rfl, a, ns, k, rfl, rfl, hs, q⟩ := h
  show rd_law_left K _ [some (.ref a), some (.int k), none] H
  unfold rd_law_left
  walk_at "s"
  have fin : ∀ (c d e : Int) (p : Addr) (H' : Hp), H p = none → Kp no H H' → H' p = some (.lst [.int ((if c < 0 then -c else c) * (if decide (d ≤ if c < 0 then -c else c) = true then 1 else 0)), .int e, .int 0]) → Q (.ref p) H' := by
    intro c d e p H' hp kp hh
    refine q p H' hp kp ⟨_, _, _, hh, ?_, Int.le_refl _, Int.le_refl _⟩
    refine Int.mul_nonneg ?_ ?_
    · split <;> omega
    · split <;> omega
  refine w_if (fun h => ?_) (fun _ => ?_)
  · have hk : k < ns.length := by
      have := of_decide_eq_true h
      rw [List.length_map] at this
      omega
    walk_at "s"
    refine w_ixL hs (atI_nat (v := .int ns[k]) (by simp [hk])) ?_
    walk_at "s"
    exact fin _ _ _
  · walk_at "s"
    exact fin _ _ _

def rd_law_kind (K : PySem.W.Frag) : TS :=
 (tRet (tTup (tCons (tOp (rIxL K) (tLst (tCons (tC (.int 1)) (tCons (tC (.int 2)) (tCons (tC (.int 3)) (tCons (tC (.int 3)) (tCons (tC (.int 3)) (tCons (tC (.int 4)) (tCons (tC (.int 5)) (tCons (tC (.int 2)) tNil))))))))) (tCall (sp_law_pick K) [] E0 (tCons (tVar 0) (tCons (tC (.int 8)) tNil)))) (tCons (tOp (rIxL K) (tLst (tCons (tC (.int 3)) (tCons (tC (.int 6)) (tCons (tC (.int 20)) (tCons (tC (.int 256)) (tCons (tC (.int 1000)) (tCons (tC (.int 10)) tNil))))))) (tCall (sp_law_pick K) [] E0 (tCons (tVar 0) (tCons (tC (.int 6)) tNil)))) tNil))))
/-- a width and how many unlike numbers there are -/
def KindD (K : PySem.W.Frag) (H : Hp) (v : V) (wide span : Int) : Prop := Dz K H v (.tuple [.int wide, .int span])
theorem KindD.of {K : PySem.W.Frag} {H : Hp} {v : V} {w s : Int} (h : KindD K H v w s) : ∃ a, v = .ref a ∧ SqT K H a [.int w, .int s] := Dg.tupI_of (ns := [w, s]) h
def sp_law_kind (K : PySem.W.Frag) : Sp := fun vs H Q _ => ∃ v0, vs = [v0] ∧ ∃ (l : Addr) (n : Nat), v0 = .ref l ∧ Rand H l n ∧ n < 2147483000 ∧
  ∀ (v : V) (wide span : Int) (H' : Hp), 1 ≤ wide → wide ≤ 5 → 3 ≤ span → span ≤ 1000 → KindD K H' v wide span → Kp (at1 l) H H' → Rand H' l (n + 2) → Q v H'
theorem ixI {xs : List V} {P : Int → Prop} {r : Int} (r0 : 0 ≤ r) (r1 : r < xs.length) (h : ∀ x ∈ xs, ∃ z, x = V.int z ∧ P z) : ∃ z, atI xs r = some (V.int z) ∧ P z := by
  obtain ⟨j, rfl⟩ : ∃ j : Nat, r = j := ⟨r.toNat, by omega⟩
  have hj : j < xs.length := by omega
  obtain ⟨z, e, p⟩ := h xs[j] (List.getElem_mem hj)
  refine ⟨z, atI_nat ?_, p⟩
  rw [List.getElem?_eq_getElem hj, e]
theorem sm_law_kind {K : PySem.W.Frag} {vs : List V} {H : Hp} {Q : VK} {E : XK} (h : sp_law_kind K vs H Q E) : rd_law_kind K { nx := fun _ H' => Q .non H', rt := Q } (start ["left"] vs) H := by
  obtain ⟨v0, rfl, l, n, rfl, R, hn, q⟩ := h
  show rd_law_kind K _ [some (.ref l)] H
  unfold rd_law_kind
  walk_at "s"
  intro p H1 f1 k1 h1
  have n1 : p ≠ l := R.ne f1
  walk_at "s"
  refine ⟨_, _, rfl, l, n, 8, rfl, rfl, by walk_at "rand", by omega, by decide, by decide, fun r H2 r0 r1 k2 R2 => ?_⟩
  obtain ⟨z, e, z0, z1⟩ := ixI (P := fun z => 1 ≤ z ∧ z ≤ 5) (xs := [V.int 1, .int 2, .int 3, .int 3, .int 3, .int 4, .int 5, .int 2]) r0 r1 (by
    intro x hx
    simp only [List.mem_cons, List.not_mem_nil, or_false] at hx
    rcases hx with rfl | rfl | rfl | rfl | rfl | rfl | rfl | rfl <;> exact ⟨_, rfl, by decide, by decide⟩)
  refine w_ixL (by walk_at "sql") e ?_
  walk_at "s"
  intro p' H3 f3 k3 h3
  have n3 : p' ≠ l := R2.ne f3
  walk_at "s"
  refine ⟨_, _, rfl, l, n + 1, 6, rfl, rfl, by walk_at "rand", by omega, by decide, by decide, fun r H4 r0 r1 k4 R4 => ?_⟩
  obtain ⟨z', e', z0', z1'⟩ := ixI (P := fun z => 3 ≤ z ∧ z ≤ 1000) (xs := [V.int 3, .int 6, .int 20, .int 256, .int 1000, .int 10]) r0 r1 (by
    intro x hx
    simp only [List.mem_cons, List.not_mem_nil, or_false] at hx
    rcases hx with rfl | rfl | rfl | rfl | rfl | rfl <;> exact ⟨_, rfl, by decide, by decide⟩)
  refine w_ixL (by walk_at "sql") e' ?_
  walk_at "s"
  intro p5 H5 f5 k5 h5
  refine q _ z z' H5 z0 z1 z0' z1' (.tup (SqT.of h5) (by walk_at "da")) (by walk_at "kp") (by walk_at "rand")

/-! ### colours -/
abbrev colD (c : List Int) : PyData := .tuple (c.map .int)
def ColOk (w : Int) (c : List Int) : Prop := (c.length : Int) = w ∧ ∀ x ∈ c, 0 ≤ x ∧ x ≤ 999
def rd_law_colour (K : PySem.W.Frag) : TS :=
 (tSeq (tAsg (tVar 1) (gTup K 2 (gCons (gName 2) (gCons (gName 3) gNil))))
 (tRet (tCB (rTupOf K) (tCons (tLc (iRng1 (tCons (tVar 2) tNil)) (gName 4) tYes (tOp (rIxL K) (tLst (tCons (tCall (sp_law_pick K) [] E0 (tCons (tVar 0) (tCons (tVar 3) tNil))) (tCons (tC (.int 999)) tNil))) (tCB rInt1 (tCons (tOp rEq (tCall (sp_law_pick K) [] E0 (tCons (tVar 0) (tCons (tC (.int 8)) tNil))) (tC (.int 0))) tNil))) [4]) tNil))))
def sp_law_colour (K : PySem.W.Frag) : Sp := fun vs H Q _ => ∃ v0 v1, vs = [v0, v1] ∧ ∃ (l : Addr) (n : Nat) (wide span : Int), v0 = .ref l ∧ Rand H l n ∧ n < 2147480000 ∧ KindD K H v1 wide span ∧ 1 ≤ wide ∧ wide ≤ 5 ∧ 3 ≤ span ∧ span ≤ 1000 ∧
  ∀ (v : V) (c : List Int) (H' : Hp), ColOk wide c → Dz K H' v (colD c) → Kp (at1 l) H H' → Rand H' l (n + 10) → Q v H'
theorem sm_law_colour {K : PySem.W.Frag} {vs : List V} {H : Hp} {Q : VK} {E : XK} (h : sp_law_colour K vs H Q E) : rd_law_colour K { nx := fun _ H' => Q .non H', rt := Q } (start ["left", "kind", "wide", "span", "place"] vs) H := by
  obtain ⟨v0, v1, rfl, l, n, wide, span, rfl, R, hn, hk, w1, w5, s3, s1000, q⟩ := h
  show rd_law_colour K _ [some (.ref l), some v1, none, none, none] H
  unfold rd_law_colour
  obtain ⟨a, rfl, ht⟩ := hk.of
  walk_at "s"
  refine w_lcG wk_rng (fun i acc H' => ∃ c : List Int, Kp (at1 l) H H' ∧ Rand H' l (n + 2 * i) ∧ c.length = i ∧ (∀ x ∈ c, 0 ≤ x ∧ x ≤ 999) ∧ acc = c.map V.int) ?_ (fun _ _ _ _ _ => trivial) ?_ ?_
  · intro D H' hD k
    exact ⟨[], k.of0, by walk_at "rand", rfl, by simp, rfl⟩
  · rintro i x acc D H2 H3 hi hD ha ⟨c, k2, R2, cl, cx, rfl⟩ k3 rfl
    have R3 : Rand H3 l (n + 2 * i) := by walk_at "rand"
    have nD : D ≠ l := R.ne hD
    walk_at "s"
    refine ⟨rfl, ?_⟩
    walk_at "s"
    refine ⟨_, _, rfl, l, n + 2 * i, span, rfl, rfl, R3, by omega, by omega, by omega, fun r H4 r0 r1 k4 R4 => ?_⟩
    walk_at "s"
    intro p H5 f5 k5 h5
    have n5 : p ≠ l := R4.ne f5
    walk_at "s"
    refine ⟨_, _, rfl, l, n + 2 * i + 1, 8, rfl, rfl, by walk_at "rand", by omega, by omega, by omega, fun r' H6 r0' r1' k6 R6 => ?_⟩
    walk_at "s"
    have fin : ∀ z : Int, 0 ≤ z ∧ z ≤ 999 → kElt D (PvD D fun acc H' => ∃ c : List Int, Kp (at1 l) H H' ∧ Rand H' l (n + 2 * (i + 1)) ∧ c.length = i + 1 ∧ (∀ x ∈ c, 0 ≤ x ∧ x ≤ 999) ∧ acc = c.map V.int) (.int z) H6 := by
      intro z hz
      refine w_kelt (acc := c.map V.int) (by walk_at "at") (by rw [List.length_map, sizeLine_eq]; omega) ⟨c ++ [z], (((k2.tr0 k3).tr' k4).tr0 k5).tr' k6, R6, by simp [cl], ?_, by simp⟩ ?_
      · intro x hx
        rcases List.mem_append.mp hx with hx | hx
        · exact cx x hx
        · rw [List.mem_singleton.mp hx]; exact hz
      · rintro acc H7 k7 ⟨c, b1, b2, b3⟩
        exact ⟨c, b1.own hD k7, b2.kp k7 (fun z => nD z.symm), b3⟩
    by_cases hr : r' = 0
    · rw [decide_eq_true hr, if_pos rfl]
      refine w_ixL (by walk_at "sql") (by rfl) ?_
      exact fin _ ⟨by omega, by omega⟩
    · rw [decide_eq_false hr, if_neg (by decide)]
      refine w_ixL (by walk_at "sql") (by rfl) ?_
      exact fin _ ⟨by omega, by omega⟩
  · rintro acc D H' hD ha ⟨c, k2, R2, cl, cx, rfl⟩
    refine w_tupOfL (SqL.of ha) ?_
    intro p H3 f3 k3 h3
    refine q _ c H3 ⟨by omega, cx⟩ (.tupI (SqT.of h3)) (k2.tr0 k3) ((R2.kp k3 fun z => z).mono (by omega))

/-! ### how far apart -/
theorem filterMap_get {α β : Type} (g : α → Option β) : ∀ xs : List α, (List.range xs.length).filterMap (fun i => (xs[i]?).bind g) = xs.filterMap g := by
  intro xs
  induction xs with
  | nil => rfl
  | cons x xs ih =>
    rw [List.length_cons, List.range_succ_eq_map, List.filterMap_cons, List.filterMap_map]
    have e : (((fun i => ((x :: xs)[i]?).bind g) ∘ Nat.succ)) = (fun i => (xs[i]?).bind g) := by
      funext i
      simp
    rw [e, ih]
    rw [List.filterMap_cons]
    simp
theorem filterMap_map {α β : Type} (g : α → β) (xs : List α) : (List.range xs.length).filterMap (fun i => (xs[i]?).map g) = xs.map g := by
  have h := filterMap_get (fun a => some (g a)) xs
  rw [List.filterMap_eq_map'] at h
  rw [← h]
  congr 1
  funext i
  cases xs[i]? <;> rfl
def Sm (c : List Int) : Prop := ∀ x ∈ c, -2000000 ≤ x ∧ x ≤ 2000000
theorem ColOk.sm {w : Int} {c : List Int} (h : ColOk w c) : Sm c := fun x hx => by
  have := h.2 x hx
  omega
def apartI (c d : List Int) : Int := ((c.zip d).map fun p => (p.1 - p.2) * (p.1 - p.2)).sum
def ps_apart (K : PySem.W.Frag) (vs : List V) (H : Hp) (Q : VK) : Prop := ∃ v0 v1, vs = [v0, v1] ∧ ∃ (c d : List Int), Dz K H v0 (colD c) ∧ Dz K H v1 (colD d) ∧ Sm c ∧ Sm d ∧ c.length ≤ 100 ∧ ∀ H', Kp no H H' → Q (.int (apartI c d)) H'
def sp_law_apart (K : PySem.W.Frag) : Sp := fun vs H Q _ => ps_apart K vs H Q
def sp_apart (K : PySem.W.Frag) : Sp := fun vs H Q _ => ps_apart K vs H Q
def rd_law_apart (K : PySem.W.Frag) : TS :=
 (tRet (tCB (rSum K) (tCons (tLc (iZipA K (tCons (tVar 0) (tCons (tVar 1) tNil))) (gTup K 2 (gCons (gName 2) (gCons (gName 3) gNil))) tYes (tOp rMulI (tOp rSubI (tVar 2) (tVar 3)) (tOp rSubI (tVar 2) (tVar 3))) [2, 3]) tNil)))
def rd_apart (K : PySem.W.Frag) : TS :=
 (tRet (tCB (rSum K) (tCons (tLc (iZipA K (tCons (tVar 0) (tCons (tVar 1) tNil))) (gTup K 2 (gCons (gName 2) (gCons (gName 3) gNil))) tYes (tOp rMulI (tOp rSubI (tVar 2) (tVar 3)) (tOp rSubI (tVar 2) (tVar 3))) [2, 3]) tNil)))
theorem sm_law_apart {K : PySem.W.Frag} {vs : List V} {H : Hp} {Q : VK} {E : XK} (h : sp_law_apart K vs H Q E) : rd_law_apart K { nx := fun _ H' => Q .non H', rt := Q } (start ["one", "other", "a", "b"] vs) H := by
  obtain ⟨v0, v1, rfl, c, d, hc, hd, sc, sd, lc, q⟩ := h
  obtain ⟨a, rfl, ha⟩ := hc.tupI_of
  obtain ⟨b, rfl, hb⟩ := hd.tupI_of
  show rd_law_apart K _ [some (.ref a), some (.ref b), none, none] H
  unfold rd_law_apart
  walk_at "s"
  refine w_kzipT ha hb ?_
  refine w_lcP (K := K) wk_zipT (fun i => ((c.zip d)[i]?).map fun p => .int ((p.1 - p.2) * (p.1 - p.2))) ?_ (fun H' k => ⟨SqT.kp k ha, SqT.kp k hb⟩) ?_ ?_
  · simp only [List.length_map]; omega
  · rintro i x H' hi k ⟨T, u, v, rfl, hT, hu, hv⟩ R R0 r _
    simp only [List.getElem?_map, Option.map_eq_some_iff] at hu hv
    obtain ⟨u', hu, rfl⟩ := hu
    obtain ⟨v', hv, rfl⟩ := hv
    have bu := sc u' (List.mem_of_getElem? hu)
    have bv := sd v' (List.mem_of_getElem? hv)
    walk_at "s"
    refine ⟨rfl, ?_⟩
    walk_at "s"
    refine r _ _ _ Kp.refl ?_ (.int _)
    rw [List.getElem?_zip_eq_some (z := (u', v')).mpr ⟨hu, hv⟩]
    rfl
  · intro p ws H' hp k h1 h2
    have e : min (c.map V.int).length (d.map V.int).length = (c.zip d).length := by rw [List.length_zip, List.length_map, List.length_map]
    rw [e, filterMap_map] at h2
    have h3 : ws = ((c.zip d).map fun p => (p.1 - p.2) * (p.1 - p.2)).map V.int := DA.ints_of (by rw [List.map_map]; exact h2)
    subst h3
    walk_at "s"
    refine w_sum (SqL.of h1) ?_
    exact q H' k
theorem sm_apart {K : PySem.W.Frag} {vs : List V} {H : Hp} {Q : VK} {E : XK} (h : sp_apart K vs H Q E) : rd_apart K { nx := fun _ H' => Q .non H', rt := Q } (start ["one", "other", "a", "b"] vs) H := by
  exact sm_law_apart (E := E) h

/-! ### data that may be compared -/
/-- less than n deep, of no great length -/
inductive Ok : Nat → PyData → Prop
  | non {n : Nat} : Ok (n + 1) .none
  | bl {n : Nat} (b : Bool) : Ok (n + 1) (.bool b)
  | int {n : Nat} (i : Int) : Ok (n + 1) (.int i)
  | str {n : Nat} {x : Str} (h : PySem.PyData.strOk x = true) : Ok (n + 1) (.str x)
  | lst {n : Nat} {ds : List PyData} (l : ds.length ≤ 100000) (h : ∀ d ∈ ds, Ok n d) : Ok (n + 1) (.list ds)
  | tup {n : Nat} {ds : List PyData} (l : ds.length ≤ 100000) (h : ∀ d ∈ ds, Ok n d) : Ok (n + 1) (.tuple ds)
theorem canAll : ∀ {ds : List PyData}, (∀ d ∈ ds, d.canLay0 = true) → PyData.canLayAll0 ds = true
  | [], _ => by simp [PyData.canLayAll0]
  | d :: ds, h => by
    rw [PyData.canLayAll0, h d (List.mem_cons_self ..), canAll fun e he => h e (List.mem_cons_of_mem _ he)]
    rfl
theorem depAll {n : Nat} : ∀ {ds : List PyData}, (∀ d ∈ ds, d.depth ≤ n) → PyData.depthAll ds ≤ n
  | [], _ => by simp [PyData.depthAll]
  | d :: ds, h => by
    rw [PyData.depthAll]
    exact Nat.max_le.mpr ⟨h d (List.mem_cons_self ..), depAll fun e he => h e (List.mem_cons_of_mem _ he)⟩
theorem Ok.both : ∀ {n : Nat} {d : PyData}, Ok n d → d.canLay0 = true ∧ d.depth ≤ n
  | _, _, .non => ⟨by simp [PyData.canLay0], by simp [PyData.depth]⟩
  | _, _, .bl b => ⟨by simp [PyData.canLay0], by simp [PyData.depth]⟩
  | _, _, .int b => ⟨by simp [PyData.canLay0], by simp [PyData.depth]⟩
  | _, _, .str h => ⟨by simpa [PyData.canLay0] using h, by simp [PyData.depth]⟩
  | n + 1, _, .lst l h => ⟨by rw [PyData.canLay0]; exact canAll fun d hd => (h d hd).both.1, by
    rw [PyData.depth]
    exact Nat.succ_le_succ (depAll fun d hd => (h d hd).both.2)⟩
  | n + 1, _, .tup l h => ⟨by rw [PyData.canLay0]; exact canAll fun d hd => (h d hd).both.1, by
    rw [PyData.depth]
    exact Nat.succ_le_succ (depAll fun d hd => (h d hd).both.2)⟩
theorem Ok.shaped {n : Nat} {d : PyData} (h : Ok n d) (hn : n ≤ 64) : SeqAt.shaped d = true := shaped_of h.both.1 (by have := h.both.2; omega)
theorem Ok.refl {n : Nat} {d : PyData} (h : Ok n d) : PyData.eqv d d = true := SeqAt.eqv_refl d h.both.1
theorem Ok.mono : ∀ {n m : Nat} {d : PyData}, Ok n d → n ≤ m → Ok m d
  | _ + 1, _ + 1, _, .non, _ => .non
  | _ + 1, _ + 1, _, .bl b, _ => .bl b
  | _ + 1, _ + 1, _, .int b, _ => .int b
  | _ + 1, _ + 1, _, .str h, _ => .str h
  | n + 1, m + 1, _, .lst l h, le => .lst l fun d hd => (h d hd).mono (by omega)
  | n + 1, m + 1, _, .tup l h, le => .tup l fun d hd => (h d hd).mono (by omega)
theorem Ok.ints {n : Nat} (ns : List Int) : ∀ d ∈ ns.map PyData.int, Ok (n + 1) d := fun d hd => by
  obtain ⟨i, _, rfl⟩ := List.mem_map.mp hd
  exact .int i
theorem Ok.col {n : Nat} {c : List Int} (l : c.length ≤ 100000) : Ok (n + 2) (colD c) := .tup (by rw [List.length_map]; exact l) (Ok.ints c)
/-- == of the same data -/
theorem w_eqS {K : PySem.W.Frag} {G G' : Addr → Prop} {H : Hp} {Q : VK} {x y : V} {d : PyData} {n : Nat} (h1 : Dg G K H x d) (h2 : Dg G' K H y d) (ok : Ok n d) (hn : n ≤ 64) (q : Q (.bl true) H) : rEqD K x y H Q :=
  w_eqD h1 h2 (ok.shaped hn) (ok.shaped hn) (by rw [ok.refl]; exact q)
theorem w_neS {K : PySem.W.Frag} {G G' : Addr → Prop} {H : Hp} {Q : VK} {x y : V} {d : PyData} {n : Nat} (h1 : Dg G K H x d) (h2 : Dg G' K H y d) (ok : Ok n d) (hn : n ≤ 64) (q : Q (.bl false) H) : rNeD K x y H Q :=
  w_neD h1 h2 (ok.shaped hn) (ok.shaped hn) (by rw [ok.refl]; exact q)

def rd_law_same (K : PySem.W.Frag) (sp_rec : Sp) : TS :=
 (tSeq (tIfS (tB (tCB (rIsiT K) (tCons (tVar 1) (tCons (tTup (tCons (tC (.ty "list")) (tCons (tC (.ty "tuple")) tNil))) tNil)))) (tSeq (tIfS (tOr (tTest (tOp rNe (tCB (rIsi K) (tCons (tVar 0) (tCons (tC (.ty "list")) tNil))) (tCB (rIsi K) (tCons (tVar 1) (tCons (tC (.ty "list")) tNil))))) (tTest (tOp rNe (tCB (rIsi K) (tCons (tVar 0) (tCons (tC (.ty "tuple")) tNil))) (tCB (rIsi K) (tCons (tVar 1) (tCons (tC (.ty "tuple")) tNil)))))) (tRet (tC (.bl false))) tNext)
 (tRet (tAndV (tOp rEq (tCB (rLenQ K) (tCons (tVar 0) tNil)) (tCB (rLenQ K) (tCons (tVar 1) tNil))) (tCB (rAll K) (tCons (tLc (iZipA K (tCons (tVar 0) (tCons (tVar 1) tNil))) (gTup K 2 (gCons (gName 2) (gCons (gName 3) gNil))) tYes (tCall sp_rec [] E0 (tCons (tVar 2) (tCons (tVar 3) tNil))) [2, 3]) tNil))))) tNext)
 (tSeq (tIfS (tOr (tTest (tOp rIsN (tVar 1) (tC .non))) (tB (tCB (rIsi K) (tCons (tVar 1) (tCons (tC (.ty "str")) tNil))))) (tRet (tAndV (tOp (rEqD K) (tVar 0) (tVar 1)) (tOp rEq (tCB (rIsi K) (tCons (tVar 0) (tCons (tC (.ty "str")) tNil))) (tCB (rIsi K) (tCons (tVar 1) (tCons (tC (.ty "str")) tNil)))))) tNext)
 (tSeq (tIfS (tB (tCB (rIsi K) (tCons (tVar 1) (tCons (tC (.ty "bool")) tNil)))) (tRet (tAndV (tCB (rIsi K) (tCons (tVar 0) (tCons (tC (.ty "bool")) tNil))) (tOp (rEqD K) (tVar 0) (tVar 1)))) tNext)
 (tRet (tAndV (tCB (rIsi K) (tCons (tVar 0) (tCons (tC (.ty "int")) tNil))) (tAndV (tNotV (tCB (rIsi K) (tCons (tVar 0) (tCons (tC (.ty "bool")) tNil)))) (tOp (rEqD K) (tVar 0) (tVar 1))))))))
def spn_law_same (K : PySem.W.Frag) (n : Nat) : Sp := fun vs H Q _ => ∃ v0 v1, vs = [v0, v1] ∧ ∃ (G G' : Addr → Prop) (d : PyData), Dg G K H v0 d ∧ Dg G' K H v1 d ∧ Ok n d ∧ n ≤ 50 ∧ ∀ H', Kp no H H' → Q (.bl true) H'
def sp_law_same (K : PySem.W.Frag) : Sp := spn_law_same K 8
theorem sm_law_same {K : PySem.W.Frag} (n : Nat) {vs : List V} {H : Hp} {Q : VK} {E : XK} (h : spn_law_same K (n + 1) vs H Q E) : rd_law_same K (spn_law_same K n) { nx := fun _ H' => Q .non H', rt := Q } (start ["found", "due", "one", "other"] vs) H := by
  obtain ⟨v0, v1, rfl, G, G', d, h0, h1, ok, hn, q⟩ := h
  show rd_law_same K _ _ [some v0, some v1, none, none] H
  unfold rd_law_same
  walk_at "s"
  intro p H1 f1 k1 hp
  walk_at "s"
  cases ok with
  | non =>
    cases h0; cases h1
    walk_at "s"
    refine w_eqS (G := no) (G' := no) .non .non (Ok.non (n := 0)) (by decide) ?_
    walk_at "s"
    exact q _ k1
  | bl b =>
    cases h0; cases h1
    walk_at "s"
    refine w_eqS (G := no) (G' := no) (.bl b) (.bl b) (Ok.bl (n := 0) b) (by decide) ?_
    exact q _ k1
  | int b =>
    cases h0; cases h1
    walk_at "s"
    refine w_eqS (G := no) (G' := no) (.int b) (.int b) (Ok.int (n := 0) b) (by decide) ?_
    exact q _ k1
  | str hs =>
    cases h0; cases h1
    walk_at "s"
    refine w_eqS (G := no) (G' := no) (.str _) (.str _) (Ok.str (n := 0) hs) (by decide) ?_
    walk_at "s"
    exact q _ k1
  | lst l hs =>
    rename_i ds
    obtain ⟨a, xs, rfl, _, s0, da⟩ := id h0.lst_of
    obtain ⟨b, ys, rfl, _, s1, db⟩ := id h1.lst_of
    have lx := da.len
    have ly := db.len
    have t0 := SqL.kp k1 (fun z => z) s0
    have t1 := SqL.kp k1 (fun z => z) s1
    walk_at "s"
    refine w_ifT (decide_eq_true (by omega)) ?_
    walk_at "s"
    refine w_kzipL t0 t1 ?_
    refine w_lcP (K := K) wk_zipL (fun i => (ds[i]?).map fun _ => .bool true) (by omega) (fun H' k => ⟨SqL.kp k (fun z => z) t0, SqL.kp k (fun z => z) t1⟩) ?_ ?_
    · rintro i x H' hi k ⟨T, u, v, rfl, hT, hu, hv⟩ R R0 r _
      obtain ⟨d, hd, du⟩ := da.getV hu
      obtain ⟨d', hd', dv⟩ := db.getV hv
      rw [hd] at hd'
      cases hd'
      walk_at "s"
      refine ⟨rfl, ?_⟩
      walk_at "s"
      refine ⟨u, v, rfl, G, G', d, Dg.kp (k1.tr0 k) (fun _ _ z => z) du, Dg.kp (k1.tr0 k) (fun _ _ z => z) dv, hs d (List.mem_of_getElem? hd), by omega, fun H2 k2 => ?_⟩
      refine r _ _ _ k2 ?_ (.bl true)
      rw [hd]; rfl
    · intro p ws H' hp k h1 h2
      have e : min xs.length ys.length = ds.length := by omega
      rw [e, filterMap_map] at h2
      have h3 : ws = (ds.map fun _ => true).map V.bl := DA.bls_of (by rw [List.map_map]; exact h2)
      subst h3
      walk_at "s"
      refine w_all (SqL.of h1) ?_
      have e2 : (ds.map fun _ => true).all id = true := by rw [List.all_map]; simp
      rw [e2]
      exact q _ (k1.tr0 k)
  | tup l hs =>
    rename_i ds
    obtain ⟨a, xs, rfl, s0, da⟩ := id h0.tup_of
    obtain ⟨b, ys, rfl, s1, db⟩ := id h1.tup_of
    have lx := da.len
    have ly := db.len
    have t0 := SqT.kp k1 s0
    have t1 := SqT.kp k1 s1
    walk_at "s"
    refine w_ifT (decide_eq_true (by omega)) ?_
    walk_at "s"
    refine w_kzipT t0 t1 ?_
    refine w_lcP (K := K) wk_zipT (fun i => (ds[i]?).map fun _ => .bool true) (by omega) (fun H' k => ⟨SqT.kp k t0, SqT.kp k t1⟩) ?_ ?_
    · rintro i x H' hi k ⟨T, u, v, rfl, hT, hu, hv⟩ R R0 r _
      obtain ⟨d, hd, du⟩ := da.getV hu
      obtain ⟨d', hd', dv⟩ := db.getV hv
      rw [hd] at hd'
      cases hd'
      walk_at "s"
      refine ⟨rfl, ?_⟩
      walk_at "s"
      refine ⟨u, v, rfl, G, G', d, Dg.kp (k1.tr0 k) (fun _ _ z => z) du, Dg.kp (k1.tr0 k) (fun _ _ z => z) dv, hs d (List.mem_of_getElem? hd), by omega, fun H2 k2 => ?_⟩
      refine r _ _ _ k2 ?_ (.bl true)
      rw [hd]; rfl
    · intro p ws H' hp k h1 h2
      have e : min xs.length ys.length = ds.length := by omega
      rw [e, filterMap_map] at h2
      have h3 : ws = (ds.map fun _ => true).map V.bl := DA.bls_of (by rw [List.map_map]; exact h2)
      subst h3
      walk_at "s"
      refine w_all (SqL.of h1) ?_
      have e2 : (ds.map fun _ => true).all id = true := by rw [List.all_map]; simp
      rw [e2]
      exact q _ (k1.tr0 k)
theorem no_law_same {K : PySem.W.Frag} {vs : List V} {H : Hp} {Q : VK} {E : XK} (h : spn_law_same K 0 vs H Q E) : False := by
  obtain ⟨_, _, _, _, _, d, _, _, ok, _⟩ := h
  cases ok

/-! ### the nearest colour -/
abbrev palD (cs : List (List Int)) : PyData := .list (cs.map colD)
abbrev prD (p : Int × Int) : PyData := .tuple [.int p.1, .int p.2]
def sqs (pal : List (List Int)) (c : List Int) : List (Int × Int) := (List.range pal.length).filterMap fun (i : Nat) => (pal[i]?).map fun d => (apartI d c, (i : Int))
theorem mem_sqs {pal : List (List Int)} {c : List Int} {p : Int × Int} : p ∈ sqs pal c ↔ ∃ (i : Nat) (d : List Int), pal[i]? = some d ∧ p = (apartI d c, (i : Int)) := by
  unfold sqs
  rw [List.mem_filterMap]
  constructor
  · rintro ⟨i, hi, e⟩
    obtain ⟨d, h1, h2⟩ := Option.map_eq_some_iff.mp e
    exact ⟨i, d, h1, h2.symm⟩
  · rintro ⟨i, d, h1, h2⟩
    refine ⟨i, List.mem_range.mpr (List.getElem?_eq_some_iff.mp h1).1, ?_⟩
    rw [h1, h2]; rfl
def lessP (p q : Int × Int) : Bool := decide (p.1 < q.1 ∨ p.1 = q.1 ∧ p.2 < q.2)
def minP (p : Int × Int) (ps : List (Int × Int)) : Int × Int := ps.foldl (fun a y => if lessP y a = true then y else a) p
theorem minP_spec : ∀ (ps : List (Int × Int)) (p : Int × Int), (minP p ps = p ∨ minP p ps ∈ ps) ∧ lessP p (minP p ps) = false ∧ ∀ q ∈ ps, lessP q (minP p ps) = false
  | [], p => ⟨.inl rfl, by simp [lessP, minP], by simp⟩
  | q :: ps, p => by
    have e : minP p (q :: ps) = minP (if lessP q p = true then q else p) ps := rfl
    rw [e]
    obtain ⟨h1, h2, h3⟩ := minP_spec ps (if lessP q p = true then q else p)
    generalize minP (if lessP q p = true then q else p) ps = m at h1 h2 h3
    by_cases c : lessP q p = true
    · rw [if_pos c] at h1 h2
      refine ⟨?_, ?_, ?_⟩
      · rcases h1 with h | h
        · exact .inr (by rw [h]; exact List.mem_cons_self ..)
        · exact .inr (List.mem_cons_of_mem _ h)
      · simp only [lessP, decide_eq_true_eq, decide_eq_false_iff_not] at c h2 ⊢
        omega
      · intro r hr
        rcases List.mem_cons.mp hr with h | h
        · rw [h]; exact h2
        · exact h3 r h
    · rw [if_neg c] at h1 h2
      refine ⟨?_, h2, ?_⟩
      · rcases h1 with h | h
        · exact .inl h
        · exact .inr (List.mem_cons_of_mem _ h)
      · intro r hr
        rcases List.mem_cons.mp hr with h | h
        · rw [h]
          simp only [lessP, decide_eq_true_eq, decide_eq_false_iff_not] at c h2 ⊢
          omega
        · exact h3 r h
theorem minD_prD : ∀ (ps : List (Int × Int)) (p : Int × Int), PySem.W.minD (prD p) (ps.map prD) = prD (minP p ps)
  | [], _ => rfl
  | q :: ps, p => by
    show PySem.W.minD (if PySem.W.dataLt (prD q) (prD p) = true then prD q else prD p) (ps.map prD) = prD (minP (if lessP q p = true then q else p) ps)
    rw [PySem.W.dataLt_ii]
    by_cases c : lessP q p = true
    · rw [if_pos c, if_pos (by exact c)]; exact minD_prD ps q
    · rw [if_neg c, if_neg (by exact c)]; exact minD_prD ps p
def nearP (pal : List (List Int)) (c : List Int) : Int × Int := match sqs pal c with
  | [] => (0, 0)
  | p :: ps => minP p ps
def near (pal : List (List Int)) (c : List Int) : Int := (nearP pal c).2
theorem nearP_spec {pal : List (List Int)} {c : List Int} (h : 1 ≤ pal.length) : (∃ (i : Nat) (d : List Int), pal[i]? = some d ∧ nearP pal c = (apartI d c, (i : Int))) ∧ ∀ (j : Nat) (d : List Int), pal[j]? = some d → lessP (apartI d c, (j : Int)) (nearP pal c) = false := by
  have ne : sqs pal c ≠ [] := by
    intro e
    have : (apartI pal[0] c, ((0 : Nat) : Int)) ∈ sqs pal c := mem_sqs.mpr ⟨0, pal[0], List.getElem?_eq_getElem (by omega), rfl⟩
    rw [e] at this; cases this
  unfold nearP
  cases e : sqs pal c with
  | nil => exact absurd e ne
  | cons p ps =>
    obtain ⟨h1, h2, h3⟩ := minP_spec ps p
    have hm : minP p ps ∈ sqs pal c := by
      rw [e]
      rcases h1 with h | h
      · rw [h]; exact List.mem_cons_self ..
      · exact List.mem_cons_of_mem _ h
    refine ⟨?_, fun j d hj => ?_⟩
    · obtain ⟨i, d, h4, h5⟩ := mem_sqs.mp hm
      exact ⟨i, d, h4, h5⟩
    · have hq : (apartI d c, (j : Int)) ∈ p :: ps := by rw [← e]; exact mem_sqs.mpr ⟨j, d, hj, rfl⟩
      rcases List.mem_cons.mp hq with h | h
      · rw [h]; exact h2
      · exact h3 _ h
theorem near_range {pal : List (List Int)} (c : List Int) (h : 1 ≤ pal.length) : 0 ≤ near pal c ∧ near pal c < pal.length := by
  obtain ⟨⟨i, d, h1, h2⟩, _⟩ := nearP_spec (c := c) h
  unfold near
  rw [h2]
  have := (List.getElem?_eq_some_iff.mp h1).1
  exact ⟨by show (0 : Int) ≤ (i : Int); omega, by show (i : Int) < _; omega⟩
/-- the nearest is told by no other colour -/
theorem near_least {pal : List (List Int)} {c : List Int} (h : 1 ≤ pal.length) : ∃ d, pal[(near pal c).toNat]? = some d ∧ (nearP pal c).1 = apartI d c ∧ ∀ e ∈ pal, apartI d c ≤ apartI e c := by
  obtain ⟨⟨i, d, h1, h2⟩, h3⟩ := nearP_spec (c := c) h
  unfold near
  rw [h2]
  refine ⟨d, by simpa using h1, rfl, fun e he => ?_⟩
  obtain ⟨j, hj, rfl⟩ := List.getElem_of_mem he
  have := h3 j pal[j] (List.getElem?_eq_getElem hj)
  rw [h2] at this
  simp only [lessP, decide_eq_false_iff_not] at this
  omega
def ps_sqs (K : PySem.W.Frag) (vs : List V) (H : Hp) (Q : VK) : Prop := ∃ v0 v1, vs = [v0, v1] ∧ ∃ (p : Addr) (pal : List (List Int)) (c : List Int) (w : Int), v0 = .ref p ∧ LstD K H p (pal.map colD) ∧ Dz K H v1 (colD c) ∧ (∀ d ∈ pal, ColOk w d) ∧ ColOk w c ∧ w ≤ 100 ∧ pal.length ≤ 100000 ∧
  ∀ q H', H q = none → Kp no H H' → LstD K H' q ((sqs pal c).map prD) → Q (.ref q) H'
def sp_squares_by (K : PySem.W.Frag) : Sp := fun vs H Q _ => ps_sqs K vs H Q
def ps_near (K : PySem.W.Frag) (vs : List V) (H : Hp) (Q : VK) : Prop := ∃ v0 v1, vs = [v0, v1] ∧ ∃ (p : Addr) (pal : List (List Int)) (c : List Int) (w : Int), v0 = .ref p ∧ LstD K H p (pal.map colD) ∧ Dz K H v1 (colD c) ∧ (∀ d ∈ pal, ColOk w d) ∧ ColOk w c ∧ w ≤ 100 ∧ 1 ≤ pal.length ∧ pal.length ≤ 100000 ∧
  ∀ H', Kp no H H' → Q (.int (near pal c)) H'
def sp_nearest (K : PySem.W.Frag) : Sp := fun vs H Q _ => ps_near K vs H Q
def sp_law_nearest (K : PySem.W.Frag) : Sp := fun vs H Q _ => ps_near K vs H Q
/-- the comprehension of both: how far each is, and its number -/
theorem w_sqs {K : PySem.W.Frag} {σ : L2.St} {H : Hp} {Q : VK} {p : Addr} {pal : List (List Int)} {c : List Int} {w : Int} {v1 : V} {sp : Sp}
    (hsp : ∀ (v u : V) (c d : List Int) (H' : Hp) (Q' : VK), Dz K H' v (colD c) → Dz K H' u (colD d) → ColOk w c → ColOk w d → (∀ H2, Kp no H' H2 → Q' (.int (apartI c d)) H2) → sp [v, u] H' Q' E0)
    (hσ : σ = [some (.ref p), some v1, none, none]) (L : LstD K H p (pal.map colD)) (hv : Dz K H v1 (colD c)) (oc : ∀ d ∈ pal, ColOk w d) (cc : ColOk w c) (lp : pal.length ≤ 100000)
    (q : ∀ q H', H q = none → Kp no H H' → LstD K H' q ((sqs pal c).map prD) → Q (.ref q) H') :
    kEnum K (fun J H1 => kLc J (gTup K 2 (gCons (gName 2) (gCons (gName 3) gNil))) tYes (tTup (tCons (tCall sp [] E0 (tCons (tVar 3) (tCons (tVar 1) tNil))) (tCons (tVar 2) tNil))) [2, 3] σ Q H1) [.ref p] H := by
  subst hσ
  obtain ⟨ws, e, g⟩ := id L
  have hl := g.len
  rw [List.length_map] at hl
  refine w_kenum (SqL.of e) ?_
  refine w_lcP (K := K) wk_enum (fun (i : Nat) => (pal[i]?).map fun d => prD (apartI d c, (i : Int))) (by omega) (fun H' k => SqL.of (k.at (fun z => z) e)) ?_ ?_
  · rintro i x H' hi k ⟨T, u, v, rfl, hT, hu, hx⟩ R R0 r _
    cases hu
    obtain ⟨d, hd, dx⟩ := g.getV hx
    rw [List.getElem?_map] at hd
    obtain ⟨d', hd', rfl⟩ := Option.map_eq_some_iff.mp hd
    have dv : Dz K H' v (colD d') := Dz.kp k dx
    have hT' : SqT K H' T [.int i, v] := hT
    walk_at "s"
    refine ⟨rfl, ?_⟩
    walk_at "s"
    refine hsp v v1 d' c H' _ dv (Dz.kp k hv) (oc d' (List.mem_of_getElem? hd')) cc fun H2 k2 => ?_
    walk_at "s"
    intro t H3 f3 k3 h3
    refine r _ _ _ (k2.tr0 k3) (by rw [hd']; rfl) ?_
    exact Dg.tupI (ns := [_, _]) (SqT.of h3)
  · intro q' ws' H' hq k h1 h2
    refine q q' H' hq k ⟨ws', h1, ?_⟩
    rw [hl] at h2
    have e2 : (sqs pal c).map prD = (List.range pal.length).filterMap (fun (i : Nat) => (pal[i]?).map fun d => prD (apartI d c, (i : Int))) := by
      unfold sqs
      rw [List.map_filterMap]
      congr 1
      funext i
      cases pal[i]? <;> rfl
    rw [e2]; exact h2
def rd_squares_by (K : PySem.W.Frag) : TS :=
 (tRet (tLc (iEnum K (tCons (tVar 0) tNil)) (gTup K 2 (gCons (gName 2) (gCons (gName 3) gNil))) tYes (tTup (tCons (tCall (sp_apart K) [] E0 (tCons (tVar 3) (tCons (tVar 1) tNil))) (tCons (tVar 2) tNil))) [2, 3]))
theorem sm_squares_by {K : PySem.W.Frag} {vs : List V} {H : Hp} {Q : VK} {E : XK} (h : sp_squares_by K vs H Q E) : rd_squares_by K { nx := fun _ H' => Q .non H', rt := Q } (start ["palette", "colour", "number", "one"] vs) H := by
  obtain ⟨v0, v1, rfl, p, pal, c, w, rfl, L, hv, oc, cc, hw, lp, q⟩ := h
  show rd_squares_by K _ [some (.ref p), some v1, none, none] H
  unfold rd_squares_by
  walk_at "s"
  exact w_sqs (fun v u c d H' Q' hc hd oc od k => ⟨v, u, rfl, c, d, hc, hd, oc.sm, od.sm, by have := oc.1; omega, k⟩) rfl L hv oc cc lp q
theorem alike_prD : ∀ ps : List (Int × Int), PySem.W.AlikeAll (ps.map prD) := fun ps => ⟨fun x hx y hy => by
  obtain ⟨p, _, rfl⟩ := List.mem_map.mp hx
  obtain ⟨q, _, rfl⟩ := List.mem_map.mp hy
  simp [PySem.W.alike, PySem.W.alikeAll], fun x hx => by
  obtain ⟨p, _, rfl⟩ := List.mem_map.mp hx
  simp⟩
theorem depth_prD : ∀ ps : List (Int × Int), PyData.depthAll (ps.map prD) ≤ 60
  | [] => by simp [PyData.depthAll]
  | p :: ps => by
    rw [List.map_cons, PyData.depthAll]
    exact Nat.max_le.mpr ⟨by simp [PyData.depth, PyData.depthAll], depth_prD ps⟩
/-- the least pair of a list -/
theorem w_minP {K : PySem.W.Frag} {H : Hp} {Q : VK} {a : Addr} {p : Int × Int} {ps : List (Int × Int)} (L : LstD K H a ((p :: ps).map prD)) (q : ∀ v, Dz K H v (prD (minP p ps)) → Q v H) : rMinD K [.ref a] H Q := by
  obtain ⟨ws, e, g⟩ := id L
  refine ⟨a, ws, prD p, ps.map prD, rfl, SqL.of e, g.dp, alike_prD (p :: ps), depth_prD (p :: ps), fun i y hy hd => ?_⟩
  rw [minD_prD] at hd
  obtain ⟨d, h1, h2⟩ := g.getV hy
  have h1' : (prD p :: ps.map prD)[i]? = some d := h1
  rw [hd] at h1'
  cases h1'
  exact q y h2
theorem w_near {K : PySem.W.Frag} {H : Hp} {Q : VK} {a : Addr} {pal : List (List Int)} {c : List Int} (lp : 1 ≤ pal.length) (L : LstD K H a ((sqs pal c).map prD)) (q : ∀ v, Dz K H v (prD (nearP pal c)) → Q v H) : rMinD K [.ref a] H Q := by
  have ne : sqs pal c ≠ [] := by
    intro e
    have : (apartI pal[0] c, ((0 : Nat) : Int)) ∈ sqs pal c := mem_sqs.mpr ⟨0, pal[0], List.getElem?_eq_getElem (by omega), rfl⟩
    rw [e] at this; cases this
  unfold nearP at q
  cases e : sqs pal c with
  | nil => exact absurd e ne
  | cons p ps =>
    rw [e] at L q
    exact w_minP L q
def rd_nearest (K : PySem.W.Frag) : TS :=
 (tRet (tOp (rIxT K) (tCB (rMinD K) (tCons (tCall (sp_squares_by K) [] E0 (tCons (tVar 0) (tCons (tVar 1) tNil))) tNil)) (tC (.int 1))))
theorem sm_nearest {K : PySem.W.Frag} {vs : List V} {H : Hp} {Q : VK} {E : XK} (h : sp_nearest K vs H Q E) : rd_nearest K { nx := fun _ H' => Q .non H', rt := Q } (start ["palette", "colour"] vs) H := by
  obtain ⟨v0, v1, rfl, p, pal, c, w, rfl, L, hv, oc, cc, hw, l1, lp, q⟩ := h
  show rd_nearest K _ [some (.ref p), some v1] H
  unfold rd_nearest
  walk_at "s"
  refine ⟨_, _, rfl, p, pal, c, w, rfl, L, hv, oc, cc, hw, lp, fun a H1 f1 k1 L1 => ?_⟩
  walk_at "s"
  refine w_near l1 L1 fun v dv => ?_
  obtain ⟨b, rfl, hb⟩ := Dg.tupI_of (ns := [(nearP pal c).1, (nearP pal c).2]) dv
  walk_at "s"
  exact q H1 k1
def rd_law_nearest (K : PySem.W.Frag) : TS :=
 (tRet (tOp (rIxT K) (tCB (rMinD K) (tCons (tLc (iEnum K (tCons (tVar 0) tNil)) (gTup K 2 (gCons (gName 2) (gCons (gName 3) gNil))) tYes (tTup (tCons (tCall (sp_law_apart K) [] E0 (tCons (tVar 3) (tCons (tVar 1) tNil))) (tCons (tVar 2) tNil))) [2, 3]) tNil)) (tC (.int 1))))
theorem sm_law_nearest {K : PySem.W.Frag} {vs : List V} {H : Hp} {Q : VK} {E : XK} (h : sp_law_nearest K vs H Q E) : rd_law_nearest K { nx := fun _ H' => Q .non H', rt := Q } (start ["palette", "colour", "k", "one"] vs) H := by
  obtain ⟨v0, v1, rfl, p, pal, c, w, rfl, L, hv, oc, cc, hw, l1, lp, q⟩ := h
  show rd_law_nearest K _ [some (.ref p), some v1, none, none] H
  unfold rd_law_nearest
  walk_at "s"
  refine w_sqs (fun v u c d H' Q' hc hd oc od k => ⟨v, u, rfl, c, d, hc, hd, oc.sm, od.sm, by have := oc.1; omega, k⟩) rfl L hv oc cc lp fun a H1 f1 k1 L1 => ?_
  walk_at "s"
  refine w_near l1 L1 fun v dv => ?_
  obtain ⟨b, rfl, hb⟩ := Dg.tupI_of (ns := [(nearP pal c).1, (nearP pal c).2]) dv
  walk_at "s"
  exact q H1 k1

/-! ### what the top says of the classes -/
structure PaintC (K : PySem.W.Frag) (C : Addr) : Prop where
  cl : Cls K C
  n1 : NoAttr K C "own_picture"
  n2 : NoAttr K C "own_palette"
  n3 : NoAttr K C "own_numbers"
  n4 : NoAttr K C "own_past"
structure SpotX (K : PySem.W.Frag) (C_BadName C_BadRow C_ColourError C_LastColour C_NoColour C_NoName C_NoSpot C_Taken : Addr) : Prop where
  m : PySem.W.exmOne K (.ref C_NoSpot) (.ref C_ColourError) = some true
  x : ExcC K C_NoSpot
  n : PySem.W.kitAny K (.ref C_NoSpot) [.ref C_BadName, .ref C_BadRow, .ref C_LastColour, .ref C_NoColour, .ref C_NoName, .ref C_Taken] = some false
  s : PySem.W.kitOne K (.ref C_NoSpot) (.ref C_NoSpot) = some true
  v : PySem.W.kitOne K (.ref C_NoSpot) (.type "ValueError") = some true
/-! ### a painting -/
def pfs (v1 v2 v3 v4 : V) : List (Str × V) := [("own_picture", v1), ("own_palette", v2), ("own_numbers", v3), ("own_past", v4)]
theorem fne12 : ¬ (("own_picture" : Str) = "own_palette") := by decide +kernel
theorem fne13 : ¬ (("own_picture" : Str) = "own_numbers") := by decide +kernel
theorem fne14 : ¬ (("own_picture" : Str) = "own_past") := by decide +kernel
theorem fne23 : ¬ (("own_palette" : Str) = "own_numbers") := by decide +kernel
theorem fne24 : ¬ (("own_palette" : Str) = "own_past") := by decide +kernel
theorem fne34 : ¬ (("own_numbers" : Str) = "own_past") := by decide +kernel
theorem lk_hit {f : Str} {v : V} {r : List (Str × V)} : List.lookup f ((f, v) :: r) = some v := by simp [List.lookup]
theorem lk_miss {f g : Str} {v : V} {r : List (Str × V)} (h : ¬ g = f) : List.lookup f ((g, v) :: r) = List.lookup f r := by
  have e : (f == g) = false := by simpa using fun z : f = g => h z.symm
  simp [List.lookup, e]
theorem pf_hit {f : Str} {v w : V} {r : List (Str × V)} : putF f v ((f, w) :: r) = (f, v) :: r := by
  show (if f = f then (f, v) :: r else (f, w) :: putF f v r) = _
  rw [if_pos rfl]
theorem pf_miss {f g : Str} {v w : V} {r : List (Str × V)} (h : ¬ g = f) : putF f v ((g, w) :: r) = (g, w) :: putF f v r := by
  show (if g = f then (g, v) :: r else (g, w) :: putF f v r) = _
  rw [if_neg h]
section
variable {K : PySem.W.Frag} {H : Hp} {Q : VK} {C p dx : Addr} {v1 v2 v3 v4 : V}
theorem w_kf1 (pc : PaintC K C) (h : H p = some (.ins C dx (pfs v1 v2 v3 v4))) (q : Q v1 H) : kFld K "own_picture" Q (.ref p) H := w_kfld h pc.cl pc.n1 lk_hit q
theorem w_kf2 (pc : PaintC K C) (h : H p = some (.ins C dx (pfs v1 v2 v3 v4))) (q : Q v2 H) : kFld K "own_palette" Q (.ref p) H := w_kfld h pc.cl pc.n2 (by unfold pfs; rw [lk_miss fne12, lk_hit]) q
theorem w_kf3 (pc : PaintC K C) (h : H p = some (.ins C dx (pfs v1 v2 v3 v4))) (q : Q v3 H) : kFld K "own_numbers" Q (.ref p) H := w_kfld h pc.cl pc.n3 (by unfold pfs; rw [lk_miss fne13, lk_miss fne23, lk_hit]) q
theorem w_kf4 (pc : PaintC K C) (h : H p = some (.ins C dx (pfs v1 v2 v3 v4))) (q : Q v4 H) : kFld K "own_past" Q (.ref p) H := w_kfld h pc.cl pc.n4 (by unfold pfs; rw [lk_miss fne14, lk_miss fne24, lk_miss fne34, lk_hit]) q
theorem pfs_none {m : Str} (h1 : ¬ (("own_picture" : Str) = m)) (h2 : ¬ (("own_palette" : Str) = m)) (h3 : ¬ (("own_numbers" : Str) = m)) (h4 : ¬ (("own_past" : Str) = m)) : List.lookup m (pfs v1 v2 v3 v4) = none := by
  unfold pfs
  rw [lk_miss h1, lk_miss h2, lk_miss h3, lk_miss h4]
  rfl
/-- a method of a painting is called -/
theorem w_kmethP {m : Str} {sp : Sp} {E : XK} {t : TA} {σ : L2.St} (h : H p = some (.ins C dx (pfs v1 v2 v3 v4))) (n : (¬ (("own_picture" : Str) = m)) ∧ (¬ (("own_palette" : Str) = m)) ∧ (¬ (("own_numbers" : Str) = m)) ∧ ¬ (("own_past" : Str) = m)) (q : t σ H fun vs H2 => sp (.ref p :: vs) H2 Q E) : kMeth C m sp E t σ Q (.ref p) H :=
  w_kmeth h (pfs_none n.1 n.2.1 n.2.2.1 n.2.2.2) q
end
local macro_rules | `(tactic| walk_at "s1") => `(tactic| first
  | with_reducible refine' w_fld ?_
  | with_reducible refine' w_meth ?_
  | with_reducible refine' w_sfld ?_
  | with_reducible refine' w_dget ?_
  | with_reducible refine' w_make ?_
  | with_reducible refine' w_methS ?_
  | ((with_reducible refine' w_kf1 ?k1 ?k2 ?_); (case k1 => assumption); (case k2 => walk_at "at"))
  | ((with_reducible refine' w_kf2 ?k1 ?k2 ?_); (case k1 => assumption); (case k2 => walk_at "at"))
  | ((with_reducible refine' w_kf3 ?k1 ?k2 ?_); (case k1 => assumption); (case k2 => walk_at "at"))
  | ((with_reducible refine' w_kf4 ?k1 ?k2 ?_); (case k1 => assumption); (case k2 => walk_at "at"))
  | ((with_reducible refine' w_kmethP ?k1 ?k2 ?_); (case k1 => walk_at "at"); (case k2 => decide +kernel)))

abbrev picR (pic : List (List (List Int))) : List (List PyData) := pic.map fun r => r.map colD
abbrev numR (num : List (List Int)) : List (List PyData) := num.map fun r => r.map PyData.int
/-- what stood once -/
structure Once where
  pic : List (List (List Int))
  pal : List (List Int)
  num : List (List Int)
  gone : Option Int
def goneV : Option Int → V
  | none => .non
  | some n => .int n
inductive PastL (K : PySem.W.Frag) (H : Hp) : List V → List Once → List Addr → Prop
  | nil : PastL K H [] [] []
  | snoc {vs : List V} {ps : List Once} {G : List Addr} {t a b c : Addr} {rs ss : List Addr} {o : Once} (l : PastL K H vs ps G) (h : H t = some (.tup [.ref a, .ref b, .ref c, goneV o.gone])) (g1 : Grid K H a rs (picR o.pic)) (g2 : LstD K H b (o.pal.map colD)) (g3 : Grid K H c ss (numR o.num)) :
    PastL K H (vs ++ [.ref t]) (ps ++ [o]) (G ++ (a :: rs ++ (b :: c :: ss)))
section
variable {K : PySem.W.Frag} {H H' : Hp} {M : Addr → Prop}
theorem PastL.kp (k : Kp M H H') : ∀ {vs : List V} {ps : List Once} {G : List Addr}, (∀ a ∈ G, ¬ M a) → PastL K H vs ps G → PastL K H' vs ps G
  | _, _, _, _, .nil => .nil
  | _, _, _, m, .snoc l h g1 g2 g3 => .snoc (l.kp k fun a ha => m a (List.mem_append_left _ ha)) (k.fix rfl h) (g1.kp k (m _ (by simp)) fun r hr => m r (by simp [hr])) (g2.kp k (m _ (by simp))) (g3.kp k (m _ (by simp)) fun r hr => m r (by simp [hr]))
theorem PastL.len : ∀ {vs : List V} {ps : List Once} {G : List Addr}, PastL K H vs ps G → vs.length = ps.length
  | _, _, _, .nil => rfl
  | _, _, _, .snoc l h g1 g2 g3 => by rw [List.length_append, List.length_append, l.len]; rfl
theorem LstD.there {p : Addr} {ds : List PyData} (h : LstD K H p ds) : ∃ xs, H p = some (.lst xs) := by
  obtain ⟨vs, e, _⟩ := h
  exact ⟨vs, e⟩
theorem PastL.there : ∀ {vs : List V} {ps : List Once} {G : List Addr}, PastL K H vs ps G → ∀ a ∈ G, ∃ xs, H a = some (.lst xs)
  | _, _, _, .nil => fun a ha => by cases ha
  | _, _, _, .snoc (a := a) (b := b) (c := c) (rs := rs) (ss := ss) l h g1 g2 g3 => fun x hx => by
    simp only [List.mem_append, List.mem_cons] at hx
    rcases hx with hx | (rfl | hx) | rfl | rfl | hx
    · exact l.there x hx
    · exact ⟨_, g1.at_⟩
    · exact g1.there x hx
    · exact g2.there
    · exact ⟨_, g3.at_⟩
    · exact g3.there x hx
end
/-- the painting at p; F tells all its places -/
structure PtAt (K : PySem.W.Frag) (C : Addr) (H : Hp) (p dx a1 a2 a3 a4 : Addr) (rs ss G : List Addr) (vs : List V) (pic : List (List (List Int))) (pal : List (List Int)) (num : List (List Int)) (past : List Once) : Prop where
  pc : PaintC K C
  hi : H p = some (.ins C dx (pfs (.ref a1) (.ref a2) (.ref a3) (.ref a4)))
  g1 : Grid K H a1 rs (picR pic)
  g2 : LstD K H a2 (pal.map colD)
  g3 : Grid K H a3 ss (numR num)
  h4 : H a4 = some (.lst vs)
  g4 : PastL K H vs past G
  nd : (a1 :: rs ++ (a2 :: a3 :: ss ++ (a4 :: G))).Nodup
abbrev ptF (a1 a2 a3 a4 : Addr) (rs ss G : List Addr) : List Addr := a1 :: rs ++ (a2 :: a3 :: ss ++ (a4 :: G))
def Pt (K : PySem.W.Frag) (C : Addr) (H : Hp) (p : Addr) (F : List Addr) (pic : List (List (List Int))) (pal : List (List Int)) (num : List (List Int)) (past : List Once) : Prop :=
  ∃ dx a1 a2 a3 a4 rs ss G vs, F = ptF a1 a2 a3 a4 rs ss G ∧ PtAt K C H p dx a1 a2 a3 a4 rs ss G vs pic pal num past
section
variable {K : PySem.W.Frag} {C : Addr} {H H' : Hp} {M : Addr → Prop} {p dx a1 a2 a3 a4 : Addr} {rs ss G : List Addr} {vs : List V} {pic : List (List (List Int))} {pal : List (List Int)} {num : List (List Int)} {past : List Once} {F : List Addr}
theorem PtAt.there (h : PtAt K C H p dx a1 a2 a3 a4 rs ss G vs pic pal num past) : ∀ a ∈ ptF a1 a2 a3 a4 rs ss G, ∃ xs, H a = some (.lst xs) := fun x hx => by
  simp only [ptF, List.mem_append, List.mem_cons] at hx
  rcases hx with (rfl | hx) | (rfl | rfl | hx) | rfl | hx
  · exact ⟨_, h.g1.at_⟩
  · exact h.g1.there x hx
  · exact h.g2.there
  · exact ⟨_, h.g3.at_⟩
  · exact h.g3.there x hx
  · exact ⟨_, h.h4⟩
  · exact h.g4.there x hx
theorem Pt.there (h : Pt K C H p F pic pal num past) : ∀ a ∈ F, ∃ xs, H a = some (.lst xs) := by
  obtain ⟨dx, a1, a2, a3, a4, rs, ss, G, vs, rfl, h⟩ := h
  exact h.there
theorem Pt.ins (h : Pt K C H p F pic pal num past) : ∃ dx fs, H p = some (.ins C dx fs) := by
  obtain ⟨dx, a1, a2, a3, a4, rs, ss, G, vs, rfl, h⟩ := h
  exact ⟨_, _, h.hi⟩
theorem Pt.not (h : Pt K C H p F pic pal num past) : p ∉ F := fun hp => by
  obtain ⟨xs, e⟩ := h.there p hp
  obtain ⟨dx, fs, e'⟩ := h.ins
  rw [e] at e'; cases e'
theorem Pt.free (h : Pt K C H p F pic pal num past) {a : Addr} (e : H a = none) : a ∉ F ∧ a ≠ p := by
  refine ⟨fun ha => ?_, fun z => ?_⟩
  · obtain ⟨xs, e'⟩ := h.there a ha
    rw [e] at e'; cases e'
  · obtain ⟨dx, fs, e'⟩ := h.ins
    rw [← z, e] at e'; cases e'
theorem PtAt.kp (k : Kp M H H') (mp : ¬ M p) (m : ∀ a ∈ ptF a1 a2 a3 a4 rs ss G, ¬ M a) (h : PtAt K C H p dx a1 a2 a3 a4 rs ss G vs pic pal num past) : PtAt K C H' p dx a1 a2 a3 a4 rs ss G vs pic pal num past :=
  ⟨h.pc, k.at mp h.hi, h.g1.kp k (m _ (by simp [ptF])) fun r hr => m r (by simp [ptF, hr]), h.g2.kp k (m _ (by simp [ptF])), h.g3.kp k (m _ (by simp [ptF])) fun r hr => m r (by simp [ptF, hr]), k.at (m _ (by simp [ptF])) h.h4, h.g4.kp k fun a ha => m a (by simp [ptF, ha]), h.nd⟩
theorem Pt.kp (k : Kp M H H') (mp : ¬ M p) (m : ∀ a ∈ F, ¬ M a) (h : Pt K C H p F pic pal num past) : Pt K C H' p F pic pal num past := by
  obtain ⟨dx, a1, a2, a3, a4, rs, ss, G, vs, rfl, h⟩ := h
  exact ⟨dx, a1, a2, a3, a4, rs, ss, G, vs, rfl, h.kp k mp m⟩
theorem Pt.kp0 (k : Kp no H H') (h : Pt K C H p F pic pal num past) : Pt K C H' p F pic pal num past := h.kp k (fun z => z) fun _ _ z => z
end
/-! ### what a painting tells -/
theorem range_map_get {α β : Type} (xs : List α) (f : α → β) (d : β) : (List.range xs.length).map (fun i => ((xs[i]?).map f).getD d) = xs.map f := by
  refine List.ext_getElem? fun i => ?_
  rw [List.getElem?_map, List.getElem?_map]
  by_cases h : i < xs.length
  · rw [List.getElem?_range h, List.getElem?_eq_getElem h]
    show some (((xs[i]?).map f).getD d) = _
    rw [List.getElem?_eq_getElem h]
    rfl
  · rw [List.getElem?_eq_none (by rw [List.length_range]; omega), List.getElem?_eq_none (by omega)]
    rfl
/-- [list(row) for row in the grid at a] -/
theorem w_copyG {K : PySem.W.Frag} {σ : L2.St} {H : Hp} {Q : VK} {a : Addr} {rs : List Addr} {rows : List (List PyData)} {i : Nat} (s0 : ∀ x, ((wipe σ [i]).set i (some x))[i]? = some (some x) ∧ wipe ((wipe σ [i]).set i (some x)) [i] = wipe σ [i]) (g : Grid K H a rs rows) (lr : rows.length ≤ 100000)
    (q : ∀ p qs H', H p = none → Kp no H H' → Grid K H' p qs rows → (p :: qs).Nodup → (∀ r ∈ qs, H r = none) → Q (.ref p) H') :
    kLc (Itl K a) (gName i) tYes (tCB (rListOf K) (tCons (tVar i) tNil)) [i] σ Q H := by
  have e : (List.range rows.length).map (fun i => ((rows[i]?).map id).getD []) = rows := by rw [range_map_get, List.map_id]
  refine w_lcGr (K := K) (wk_list (xs := rs.map V.ref)) (fun i => ((rows[i]?).map id).getD []) (by rw [List.length_map, g.len]; exact lr) (fun H' k => SqL.of (k.at (fun z => z) g.at_)) ?_ ?_
  · intro n x H' hn k y R r
    rw [List.length_map] at hn
    rw [List.getElem?_map, List.getElem?_eq_getElem hn] at y
    cases y
    have hn2 : n < rows.length := by rw [← g.len]; exact hn
    have L := g.row n rs[n] rows[n] (List.getElem?_eq_getElem hn) (List.getElem?_eq_getElem hn2)
    obtain ⟨q0, q1⟩ := s0 (V.ref rs[n])
    refine w_gname ⟨q1, ?_⟩
    walk_at "s"
    refine w_var q0 ?_
    walk_at "s"
    refine w_listOfLd (L.kp k fun z => z) fun l H2 f2 k2 L2 => ?_
    refine r l H2 f2 k2 ?_
    have e3 : ((rows[n]?).map id).getD [] = rows[n] := by rw [List.getElem?_eq_getElem hn2]; rfl
    rw [e3]
    exact L2
  · intro p qs H' hp k gr nd fr
    rw [List.length_map, g.len, e] at gr
    exact q p qs H' hp k gr nd fr
def sp_Painting_numbers (K : PySem.W.Frag) (C : Addr) : Sp := fun vs H Q _ => ∃ v0, vs = [v0] ∧ ∃ (p : Addr) (F : List Addr) (pic : List (List (List Int))) (pal : List (List Int)) (num : List (List Int)) (past : List Once), v0 = .ref p ∧ Pt K C H p F pic pal num past ∧ num.length ≤ 100000 ∧
  ∀ a qs H', H a = none → Kp no H H' → Grid K H' a qs (numR num) → (a :: qs).Nodup → (∀ r ∈ qs, H r = none) → Q (.ref a) H'
def sp_Painting_picture (K : PySem.W.Frag) (C : Addr) : Sp := fun vs H Q _ => ∃ v0, vs = [v0] ∧ ∃ (p : Addr) (F : List Addr) (pic : List (List (List Int))) (pal : List (List Int)) (num : List (List Int)) (past : List Once), v0 = .ref p ∧ Pt K C H p F pic pal num past ∧ pic.length ≤ 100000 ∧
  ∀ a qs H', H a = none → Kp no H H' → Grid K H' a qs (picR pic) → (a :: qs).Nodup → (∀ r ∈ qs, H r = none) → Q (.ref a) H'
def sp_Painting_palette (K : PySem.W.Frag) (C : Addr) : Sp := fun vs H Q _ => ∃ v0, vs = [v0] ∧ ∃ (p : Addr) (F : List Addr) (pic : List (List (List Int))) (pal : List (List Int)) (num : List (List Int)) (past : List Once), v0 = .ref p ∧ Pt K C H p F pic pal num past ∧
  ∀ a H', H a = none → Kp no H H' → LstD K H' a (pal.map colD) → Q (.ref a) H'
def rd_Painting_numbers (K : PySem.W.Frag) : TS :=
 (tRet (tLc (iList K (tFld K (tVar 0) "own_numbers")) (gName 1) tYes (tCB (rListOf K) (tCons (tVar 1) tNil)) [1]))
theorem sm_Painting_numbers {K : PySem.W.Frag} {C_Painting : Addr} {vs : List V} {H : Hp} {Q : VK} {E : XK} (h : sp_Painting_numbers K C_Painting vs H Q E) : rd_Painting_numbers K { nx := fun _ H' => Q .non H', rt := Q } (start ["self", "row"] vs) H := by
  obtain ⟨v0, rfl, p, F, pic, pal, num, past, rfl, ⟨dx, a1, a2, a3, a4, rs, ss, G, vs, rfl, P⟩, ln, q⟩ := h
  obtain ⟨pc, hi, g1, g2, g3, h4, g4, nd⟩ := id P
  show rd_Painting_numbers K _ [some (.ref p), none] H
  unfold rd_Painting_numbers
  walk_at "s"
  refine w_klist (SqL.of g3.at_) ?_
  refine w_copyG (fun x => ⟨rfl, rfl⟩) g3 (by rw [List.length_map]; exact ln) fun a qs H' f k gr nd fr => ?_
  walk_at "s"
  exact q a qs H' f k gr nd fr
def rd_Painting_picture (K : PySem.W.Frag) : TS :=
 (tRet (tLc (iList K (tFld K (tVar 0) "own_picture")) (gName 1) tYes (tCB (rListOf K) (tCons (tVar 1) tNil)) [1]))
theorem sm_Painting_picture {K : PySem.W.Frag} {C_Painting : Addr} {vs : List V} {H : Hp} {Q : VK} {E : XK} (h : sp_Painting_picture K C_Painting vs H Q E) : rd_Painting_picture K { nx := fun _ H' => Q .non H', rt := Q } (start ["self", "row"] vs) H := by
  obtain ⟨v0, rfl, p, F, pic, pal, num, past, rfl, ⟨dx, a1, a2, a3, a4, rs, ss, G, vs, rfl, P⟩, ln, q⟩ := h
  obtain ⟨pc, hi, g1, g2, g3, h4, g4, nd⟩ := id P
  show rd_Painting_picture K _ [some (.ref p), none] H
  unfold rd_Painting_picture
  walk_at "s"
  refine w_klist (SqL.of g1.at_) ?_
  refine w_copyG (fun x => ⟨rfl, rfl⟩) g1 (by rw [List.length_map]; exact ln) fun a qs H' f k gr nd fr => ?_
  walk_at "s"
  exact q a qs H' f k gr nd fr
def rd_Painting_palette (K : PySem.W.Frag) : TS :=
 (tRet (tCB (rListOf K) (tCons (tFld K (tVar 0) "own_palette") tNil)))
theorem sm_Painting_palette {K : PySem.W.Frag} {C_Painting : Addr} {vs : List V} {H : Hp} {Q : VK} {E : XK} (h : sp_Painting_palette K C_Painting vs H Q E) : rd_Painting_palette K { nx := fun _ H' => Q .non H', rt := Q } (start ["self"] vs) H := by
  obtain ⟨v0, rfl, p, F, pic, pal, num, past, rfl, ⟨dx, a1, a2, a3, a4, rs, ss, G, vs, rfl, P⟩, q⟩ := h
  obtain ⟨pc, hi, g1, g2, g3, h4, g4, nd⟩ := id P
  show rd_Painting_palette K _ [some (.ref p)] H
  unfold rd_Painting_palette
  walk_at "s"
  refine w_listOfLd g2 fun a H' f k L => ?_
  exact q a H' f k L

/-! ### spots -/
def cell {α : Type} (M : List (List α)) (s : Int × Int) : Option α := (M[s.1.toNat]?).bind fun r => r[s.2.toNat]?
def rowSpots {α : Type} (k : Nat) (r : List α) : List (Int × Int) := (List.range r.length).map fun (j : Nat) => ((k : Int), (j : Int))
def spotsTo {α : Type} (M : List (List α)) (n : Nat) : List (Int × Int) := (List.range n).flatMap fun k => rowSpots k (M.getD k [])
def spots {α : Type} (M : List (List α)) : List (Int × Int) := spotsTo M M.length
theorem spotsTo_succ {α : Type} (M : List (List α)) (n : Nat) : spotsTo M (n + 1) = spotsTo M n ++ rowSpots n (M.getD n []) := by
  unfold spotsTo
  rw [List.range_succ, List.flatMap_append]
  simp
theorem mem_rowSpots {α : Type} {k : Nat} {r : List α} {s : Int × Int} : s ∈ rowSpots k r ↔ ∃ j : Nat, j < r.length ∧ s = ((k : Int), (j : Int)) := by
  unfold rowSpots
  rw [List.mem_map]
  constructor
  · rintro ⟨j, hj, rfl⟩
    exact ⟨j, List.mem_range.mp hj, rfl⟩
  · rintro ⟨j, hj, rfl⟩
    exact ⟨j, List.mem_range.mpr hj, rfl⟩
theorem mem_spots {α : Type} {M : List (List α)} {s : Int × Int} : s ∈ spots M ↔ ∃ (k j : Nat) (r : List α) (x : α), s = ((k : Int), (j : Int)) ∧ M[k]? = some r ∧ r[j]? = some x := by
  unfold spots spotsTo
  rw [List.mem_flatMap]
  constructor
  · rintro ⟨k, hk, hs⟩
    obtain ⟨j, hj, rfl⟩ := mem_rowSpots.mp hs
    have hk' := List.mem_range.mp hk
    rw [List.getD_eq_getElem?_getD, List.getElem?_eq_getElem hk'] at hj
    exact ⟨k, j, M[k], M[k][j]'hj, rfl, List.getElem?_eq_getElem hk', List.getElem?_eq_getElem _⟩
  · rintro ⟨k, j, r, x, rfl, h1, h2⟩
    refine ⟨k, List.mem_range.mpr (List.getElem?_eq_some_iff.mp h1).1, mem_rowSpots.mpr ⟨j, ?_, rfl⟩⟩
    rw [List.getD_eq_getElem?_getD, h1]
    exact (List.getElem?_eq_some_iff.mp h2).1
theorem cell_at {α : Type} {M : List (List α)} {k j : Nat} {r : List α} (h : M[k]? = some r) : cell M ((k : Int), (j : Int)) = r[j]? := by
  unfold cell
  simp [h]
theorem spots_cell {α : Type} {M : List (List α)} {s : Int × Int} (h : s ∈ spots M) : ∃ x, cell M s = some x := by
  obtain ⟨k, j, r, x, rfl, h1, h2⟩ := mem_spots.mp h
  exact ⟨x, by rw [cell_at h1]; exact h2⟩
theorem flatMap_range {α β : Type} (M : List α) (f : α → List β) (d : α) : (List.range M.length).flatMap (fun k => f (M.getD k d)) = M.flatMap f := by
  rw [List.flatMap_def, List.flatMap_def]
  congr 1
  refine List.ext_getElem? fun i => ?_
  rw [List.getElem?_map, List.getElem?_map]
  by_cases h : i < M.length
  · rw [List.getElem?_range h, List.getElem?_eq_getElem h]
    simp [List.getD_eq_getElem?_getD, h]
  · rw [List.getElem?_eq_none (by rw [List.length_range]; omega), List.getElem?_eq_none (by omega)]
    rfl
/-- what stands at all spots, one by one -/
theorem spots_map {α β : Type} (M : List (List α)) (g : Option α → β) : (spots M).map (fun s => g (cell M s)) = M.flatMap fun r => r.map fun x => g (some x) := by
  rw [← flatMap_range M (fun r => r.map fun x => g (some x)) []]
  unfold spots spotsTo
  rw [List.map_flatMap, List.flatMap_def, List.flatMap_def]
  congr 1
  refine List.map_congr_left fun k hk => ?_
  have hk' := List.mem_range.mp hk
  have e : M.getD k [] = M[k] := by rw [List.getD_eq_getElem?_getD, List.getElem?_eq_getElem hk']; rfl
  rw [e]
  unfold rowSpots
  rw [List.map_map]
  refine List.ext_getElem? fun j => ?_
  rw [List.getElem?_map, List.getElem?_map]
  by_cases h : j < M[k].length
  · rw [List.getElem?_range h, List.getElem?_eq_getElem h]
    show some (g (cell M ((k : Int), (j : Int)))) = some (g (some M[k][j]))
    rw [cell_at (List.getElem?_eq_getElem hk'), List.getElem?_eq_getElem h]
  · rw [List.getElem?_eq_none (by rw [List.length_range]; omega), List.getElem?_eq_none (by omega)]
    rfl
/-- one size -/
def Sh {α β : Type} (M : List (List α)) (N : List (List β)) : Prop := M.map List.length = N.map List.length
theorem Sh.len {α β : Type} {M : List (List α)} {N : List (List β)} (h : Sh M N) : M.length = N.length := by
  have := congrArg List.length h
  simpa using this
theorem Sh.row {α β : Type} {M : List (List α)} {N : List (List β)} (h : Sh M N) {k : Nat} {r : List α} {t : List β} (h1 : M[k]? = some r) (h2 : N[k]? = some t) : r.length = t.length := by
  have e := congrArg (fun l => l[k]?) h
  simp only [List.getElem?_map, h1, h2] at e
  simpa using e
theorem Sh.symm {α β : Type} {M : List (List α)} {N : List (List β)} (h : Sh M N) : Sh N M := Eq.symm h
theorem Sh.trans {α β γ : Type} {M : List (List α)} {N : List (List β)} {O : List (List γ)} (h : Sh M N) (g : Sh N O) : Sh M O := Eq.trans h g
theorem Sh.get {α β : Type} {M : List (List α)} {N : List (List β)} (h : Sh M N) {k j : Nat} {r : List α} {x : α} (h1 : M[k]? = some r) (h2 : r[j]? = some x) : ∃ (t : List β) (y : β), N[k]? = some t ∧ t[j]? = some y := by
  have hk := (List.getElem?_eq_some_iff.mp h1).1
  rw [h.len] at hk
  have e := h.row h1 (List.getElem?_eq_getElem hk)
  have hj := (List.getElem?_eq_some_iff.mp h2).1
  rw [e] at hj
  exact ⟨N[k], N[k][j], List.getElem?_eq_getElem hk, List.getElem?_eq_getElem hj⟩
theorem Sh.spots {α β : Type} {M : List (List α)} {N : List (List β)} (h : Sh M N) : spots M = spots N := by
  unfold Fc.spots spotsTo
  rw [h.len, List.flatMap_def, List.flatMap_def]
  congr 1
  refine List.map_congr_left fun k hk => ?_
  have hk' := List.mem_range.mp hk
  have hk2 : k < M.length := by rw [h.len]; exact hk'
  unfold rowSpots
  rw [List.getD_eq_getElem?_getD, List.getD_eq_getElem?_getD, List.getElem?_eq_getElem hk', List.getElem?_eq_getElem hk2]
  show List.map _ (List.range (M[k]).length) = List.map _ (List.range (N[k]).length)
  rw [h.row (List.getElem?_eq_getElem hk2) (List.getElem?_eq_getElem hk')]
theorem sh_map {α β : Type} (M : List (List α)) (f : α → β) : Sh (M.map fun r => r.map f) M := by
  unfold Sh
  rw [List.map_map]
  exact List.map_congr_left fun r _ => List.length_map ..
def setCell {α : Type} (M : List (List α)) (s : Int × Int) (x : α) : List (List α) := match M[s.1.toNat]? with
  | some r => M.set s.1.toNat (r.set s.2.toNat x)
  | none => M
theorem sh_setCell {α : Type} (M : List (List α)) (s : Int × Int) (x : α) : Sh (setCell M s x) M := by
  unfold setCell Sh
  cases h : M[s.1.toNat]? with
  | none => rfl
  | some r =>
    show List.map List.length (M.set s.1.toNat (r.set s.2.toNat x)) = _
    rw [List.map_set, List.length_set]
    refine List.ext_getElem? fun i => ?_
    by_cases e : i = s.1.toNat
    · subst e
      have := (List.getElem?_eq_some_iff.mp h).1
      rw [List.getElem?_set_self (by rw [List.length_map]; exact this), List.getElem?_map, h]
      rfl
    · rw [List.getElem?_set_ne (Ne.symm e)]
theorem cell_setCell {α : Type} {M : List (List α)} {s t : Int × Int} {x : α} (hs : s ∈ spots M) (ht : t ∈ spots M) : cell (setCell M s x) t = if t = s then some x else cell M t := by
  obtain ⟨k, j, r, y, rfl, h1, h2⟩ := mem_spots.mp hs
  obtain ⟨k', j', r', y', rfl, h1', h2'⟩ := mem_spots.mp ht
  have hk := (List.getElem?_eq_some_iff.mp h1).1
  have hj := (List.getElem?_eq_some_iff.mp h2).1
  have e : setCell M ((k : Int), (j : Int)) x = M.set k (r.set j x) := by
    unfold setCell
    simp [h1]
  rw [e]
  by_cases hkk : k' = k
  · subst hkk
    rw [h1] at h1'; cases h1'
    rw [cell_at (List.getElem?_set_self hk)]
    by_cases hjj : j' = j
    · subst hjj
      rw [if_pos rfl, List.getElem?_set_self hj]
    · rw [if_neg (by intro z; apply hjj; have := congrArg Prod.snd z; simp at this; omega), List.getElem?_set_ne (Ne.symm hjj), cell_at h1]
  · rw [if_neg (by intro z; apply hkk; have := congrArg Prod.fst z; simp at this; omega), cell_at (r := r') (by rw [List.getElem?_set_ne (Ne.symm hkk)]; exact h1'), cell_at h1']
theorem eq_of_cells {α : Type} {M N : List (List α)} (h : Sh M N) (e : ∀ s ∈ spots M, cell M s = cell N s) : M = N := by
  refine List.ext_getElem? fun k => ?_
  by_cases hk : k < M.length
  · have hk2 : k < N.length := by rw [← h.len]; exact hk
    rw [List.getElem?_eq_getElem hk, List.getElem?_eq_getElem hk2]
    congr 1
    refine List.ext_getElem? fun j => ?_
    have hl := h.row (List.getElem?_eq_getElem hk) (List.getElem?_eq_getElem hk2)
    by_cases hj : j < M[k].length
    · have := e ((k : Int), (j : Int)) (mem_spots.mpr ⟨k, j, M[k], M[k][j], rfl, List.getElem?_eq_getElem hk, List.getElem?_eq_getElem hj⟩)
      rw [cell_at (List.getElem?_eq_getElem hk), cell_at (List.getElem?_eq_getElem hk2)] at this
      exact this
    · rw [List.getElem?_eq_none (by omega), List.getElem?_eq_none (by omega)]
  · have hk2 : ¬ k < N.length := by rw [← h.len]; exact hk
    rw [List.getElem?_eq_none (by omega), List.getElem?_eq_none (by omega)]
theorem cell_map {α β : Type} (M : List (List α)) (f : α → β) (s : Int × Int) : cell (M.map fun r => r.map f) s = (cell M s).map f := by
  unfold cell
  rw [List.getElem?_map]
  cases M[s.1.toNat]? with
  | none => rfl
  | some r => simp
theorem spots_nodup {α : Type} (M : List (List α)) : (spots M).Nodup := by
  have : ∀ n, (spotsTo M n).Nodup ∧ ∀ s ∈ spotsTo M n, s.1 < n := by
    intro n
    induction n with
    | zero => exact ⟨by simp [spotsTo], by simp [spotsTo]⟩
    | succ n ih =>
      rw [spotsTo_succ]
      refine ⟨List.nodup_append.mpr ⟨ih.1, ?_, fun a ha b hb z => ?_⟩, fun s hs => ?_⟩
      · unfold rowSpots
        refine List.Pairwise.map _ (fun a b h z => h ?_) List.nodup_range
        have := congrArg Prod.snd z
        simp at this
        omega
      · obtain ⟨j, _, e⟩ := mem_rowSpots.mp hb
        have := ih.2 a ha
        rw [z, e] at this
        simp at this
      · rcases List.mem_append.mp hs with h | h
        · have := ih.2 s h
          omega
        · obtain ⟨j, _, e⟩ := mem_rowSpots.mp h
          rw [e]
          show (n : Int) < _
          omega
  exact (this _).1
/-! ### what is told of changes -/
abbrev chD (c : Int × Int × Int × Int) : PyData := .tuple [.int c.1, .int c.2.1, .int c.2.2.1, .int c.2.2.2]
def chF (moved : Int → Option Int) (old new : List (List Int)) (s : Int × Int) : Option (Int × Int × Int × Int) := (cell old s).bind fun a => (cell new s).bind fun b => if moved a = some b then none else some (s.1, s.2, a, b)
def chg (moved : Int → Option Int) (old new : List (List Int)) : List (Int × Int × Int × Int) := (spots old).filterMap (chF moved old new)
theorem filterMap_filter {α β : Type} (l : List α) (P : α → Bool) (f : α → Option β) (h : ∀ x ∈ l, P x = false → f x = none) : (l.filter P).filterMap f = l.filterMap f := by
  induction l with
  | nil => rfl
  | cons x l ih =>
    have ih' := ih fun y hy => h y (List.mem_cons_of_mem _ hy)
    by_cases c : P x = true
    · rw [List.filter_cons_of_pos c, List.filterMap_cons, List.filterMap_cons, ih']
    · rw [List.filter_cons_of_neg c, List.filterMap_cons, ih', h x (List.mem_cons_self ..) (by simpa using c)]
def numsOf (pal : List (List Int)) (pic : List (List (List Int))) : List (List Int) := pic.map fun r => r.map (near pal)
/-- the numbers, where those of the spots S are told anew -/
def anew (pal : List (List Int)) (pic : List (List (List Int))) : List (Int × Int) → List (List Int) → List (List Int)
  | [], num => num
  | s :: S, num => anew pal pic S (match cell pic s with
    | some c => setCell num s (near pal c)
    | none => num)
theorem anew_append (pal : List (List Int)) (pic : List (List (List Int))) : ∀ (S T : List (Int × Int)) (num : List (List Int)), anew pal pic (S ++ T) num = anew pal pic T (anew pal pic S num)
  | [], _, _ => rfl
  | s :: S, T, num => anew_append pal pic S T _
theorem sh_anew (pal : List (List Int)) (pic : List (List (List Int))) : ∀ (S : List (Int × Int)) (num : List (List Int)), Sh (anew pal pic S num) num
  | [], _ => rfl
  | s :: S, num => by
    refine (sh_anew pal pic S _).trans ?_
    cases cell pic s with
    | none => rfl
    | some c => exact sh_setCell num s _
theorem cell_anew {pal : List (List Int)} {pic : List (List (List Int))} : ∀ {S : List (Int × Int)} {num : List (List Int)} {t : Int × Int}, Sh num pic → (∀ s ∈ S, s ∈ spots pic) → t ∈ spots pic → cell (anew pal pic S num) t = if t ∈ S then (cell pic t).map (near pal) else cell num t
  | [], num, t, _, _, _ => by simp [anew]
  | s :: S, num, t, sh, hS, ht => by
    obtain ⟨c, hc⟩ := spots_cell (hS s (List.mem_cons_self ..))
    have e : anew pal pic (s :: S) num = anew pal pic S (setCell num s (near pal c)) := by
      show anew pal pic S (match cell pic s with | some c => setCell num s (near pal c) | none => num) = _
      rw [hc]
    rw [e, cell_anew ((sh_setCell num s _).trans sh) (fun x hx => hS x (List.mem_cons_of_mem _ hx)) ht]
    have hsn : s ∈ spots num := by rw [sh.spots]; exact hS s (List.mem_cons_self ..)
    have htn : t ∈ spots num := by rw [sh.spots]; exact ht
    by_cases h1 : t ∈ S
    · rw [if_pos h1, if_pos (List.mem_cons_of_mem _ h1)]
    · rw [if_neg h1, cell_setCell hsn htn]
      by_cases h2 : t = s
      · subst h2
        rw [if_pos rfl, if_pos (List.mem_cons_self ..), hc]
        rfl
      · rw [if_neg h2, if_neg (by simp [h1, h2])]

/-! ### comprehensions over lists of data, and over lists of them -/
section
variable {K : PySem.W.Frag} {σ : L2.St} {H : Hp} {Q : VK}
abbrev Own1 (σ : L2.St) (i : Nat) : Prop := ∀ x, ((wipe σ [i]).set i (some x))[i]? = some (some x) ∧ wipe ((wipe σ [i]).set i (some x)) [i] = wipe σ [i]
theorem w_lcMap {α : Type} {f h : α → PyData} {xs : List α} {r : Addr} {i : Nat} {te : TE} (s0 : Own1 σ i) (L : LstD K H r (xs.map f)) (lx : xs.length ≤ 100000)
    (hs : ∀ x v H', x ∈ xs → Kp no H H' → Dz K H' v (f x) → ∀ R : VK, (∀ y H2, Kp no H' H2 → Dz K H2 y (h x) → R y H2) → te ((wipe σ [i]).set i (some v)) H' R)
    (q : ∀ p H', H p = none → Kp no H H' → LstD K H' p (xs.map h) → Q (.ref p) H') : kLc (Itl K r) (gName i) tYes te [i] σ Q H := by
  obtain ⟨ws, e, g⟩ := id L
  have hl := g.len
  rw [List.length_map] at hl
  refine w_lcP (K := K) (wk_list (xs := ws)) (fun j => (xs[j]?).map h) (by omega) (fun H' k => SqL.of (k.at (fun z => z) e)) ?_ ?_
  · intro n x H' hn k y R R0 r1 _
    obtain ⟨d, hd, dx⟩ := g.getV y
    rw [List.getElem?_map] at hd
    obtain ⟨x', hx, rfl⟩ := Option.map_eq_some_iff.mp hd
    obtain ⟨q0, q1⟩ := s0 x
    refine w_gname ⟨q1, w_yes ?_⟩
    rw [if_pos rfl]
    exact hs x' x H' (List.mem_of_getElem? hx) k (Dz.kp k dx) R fun y H2 k2 dy => r1 y _ H2 k2 (by rw [hx]; rfl) dy
  · intro p vs H' hp k h1 h2
    rw [hl, filterMap_map] at h2
    exact q p H' hp k ⟨vs, h1, h2⟩
theorem Grid.get {α : Type} {f : α → PyData} {M : List (List α)} {a : Addr} {rs : List Addr} (h : Grid K H a rs (M.map fun r => r.map f)) {k : Nat} {R : List α} (e : M[k]? = some R) : ∃ r, rs[k]? = some r ∧ LstD K H r (R.map f) := by
  have hk := (List.getElem?_eq_some_iff.mp e).1
  have hl := h.len
  rw [List.length_map] at hl
  exact ⟨rs[k], List.getElem?_eq_getElem _, h.row k _ _ (List.getElem?_eq_getElem _) (by rw [List.getElem?_map, e]; rfl)⟩
theorem w_lcGM {α : Type} {f h : α → PyData} {M : List (List α)} {a : Addr} {rs : List Addr} {i : Nat} {te : TE} (s0 : Own1 σ i) (g : Grid K H a rs (M.map fun r => r.map f)) (lm : M.length ≤ 100000)
    (hs : ∀ (k : Nat) (R : List α) (r : Addr) (H' : Hp), M[k]? = some R → Kp no H H' → LstD K H' r (R.map f) → ∀ RR : VK, (∀ p H2, H' p = none → Kp no H' H2 → LstD K H2 p (R.map h) → RR (.ref p) H2) → te ((wipe σ [i]).set i (some (.ref r))) H' RR)
    (q : ∀ p qs H', H p = none → Kp no H H' → Grid K H' p qs (M.map fun r => r.map h) → (p :: qs).Nodup → (∀ r ∈ qs, H r = none) → Q (.ref p) H') : kLc (Itl K a) (gName i) tYes te [i] σ Q H := by
  have hl := g.len
  rw [List.length_map] at hl
  have e : (List.range M.length).map (fun i => ((M[i]?).map fun r => r.map h).getD []) = M.map fun r => r.map h := by rw [range_map_get]
  refine w_lcGr (K := K) (wk_list (xs := rs.map V.ref)) (fun i => ((M[i]?).map fun r => r.map h).getD []) (by rw [List.length_map, hl]; exact lm) (fun H' k => SqL.of (k.at (fun z => z) g.at_)) ?_ ?_
  · intro n x H' hn k y R r
    rw [List.length_map] at hn
    have hn2 : n < M.length := by omega
    obtain ⟨s, h1, L⟩ := g.get (List.getElem?_eq_getElem hn2)
    rw [List.getElem?_map, h1] at y
    cases y
    obtain ⟨q0, q1⟩ := s0 (V.ref s)
    refine w_gname ⟨q1, ?_⟩
    refine hs n M[n] s H' (List.getElem?_eq_getElem hn2) k (L.kp k fun z => z) R fun p H2 f2 k2 L2 => r p H2 f2 k2 ?_
    rw [List.getElem?_eq_getElem hn2]
    exact L2
  · intro p qs H' hp k gr nd fr
    rw [List.length_map, hl, e] at gr
    exact q p qs H' hp k gr nd fr
theorem w_ixG {α : Type} {f : α → PyData} {M : List (List α)} {a : Addr} {rs : List Addr} {k : Nat} {R : List α} (h : Grid K H a rs (M.map fun r => r.map f)) (e : M[k]? = some R) (q : ∀ r, rs[k]? = some r → LstD K H r (R.map f) → Q (.ref r) H) : rIxL K (.ref a) (.int (k : Int)) H Q := by
  obtain ⟨r, h1, L⟩ := h.get e
  refine w_ixL (SqL.of h.at_) (atI_nat ?_) (q r h1 L)
  rw [List.getElem?_map, h1]; rfl
theorem w_ixN {α : Type} {f : α → PyData} {xs : List α} {p : Addr} {j : Nat} {x : α} (h : LstD K H p (xs.map f)) (e : xs[j]? = some x) (q : ∀ v, Dz K H v (f x) → Q v H) : rIxL K (.ref p) (.int (j : Int)) H Q := by
  have hj := (List.getElem?_eq_some_iff.mp e).1
  refine w_ixR h ⟨by omega, by omega⟩ fun v y hy _ dv => q v ?_
  rw [Int.toNat_natCast, e] at hy
  cases hy
  exact dv
end
theorem getOf {α : Type} {M : List (List α)} {k j : Nat} {c : α} (h : cell M ((k : Int), (j : Int)) = some c) : ∃ R, M[k]? = some R ∧ R[j]? = some c := by
  unfold cell at h
  simp only [Int.toNat_natCast] at h
  cases e : M[k]? with
  | none => rw [e] at h; cases h
  | some R => rw [e] at h; exact ⟨R, rfl, h⟩
/-- colours of one width, of small numbers; sizes -/
structure Wd (w : Int) (pic : List (List (List Int))) (pal : List (List Int)) : Prop where
  pc : ∀ r ∈ pic, ∀ c ∈ r, ColOk w c
  pl : ∀ d ∈ pal, ColOk w d
  hw : w ≤ 100
  l1 : 1 ≤ pal.length
  lp : pal.length ≤ 100000
  lm : pic.length ≤ 100
  lr : ∀ r ∈ pic, r.length ≤ 100
def sp_Painting_all_spots (K : PySem.W.Frag) (C : Addr) : Sp := fun vs H Q _ => ∃ v0, vs = [v0] ∧ ∃ (p : Addr) (F : List Addr) (pic : List (List (List Int))) (pal : List (List Int)) (num : List (List Int)) (past : List Once), v0 = .ref p ∧ Pt K C H p F pic pal num past ∧ pic.length ≤ 100 ∧ (∀ r ∈ pic, r.length ≤ 100) ∧
  ∀ a H', H a = none → Kp no H H' → LstD K H' a ((spots pic).map prD) → Q (.ref a) H'
theorem len_spotsTo {α : Type} (M : List (List α)) (n : Nat) (h : ∀ r ∈ M, r.length ≤ 100) : (spotsTo M n).length ≤ 100 * n := by
  induction n with
  | zero => simp [spotsTo]
  | succ n ih =>
    rw [spotsTo_succ, List.length_append]
    have : (rowSpots n (M.getD n [])).length ≤ 100 := by
      unfold rowSpots
      rw [List.length_map, List.length_range, List.getD_eq_getElem?_getD]
      cases e : M[n]? with
      | none => simp
      | some r => exact h r (List.mem_of_getElem? e)
    omega
def rd_Painting_all_spots (K : PySem.W.Frag) : TS :=
 (tSeq (tAsg (tLst tNil) (gName 1))
 (tSeq (tFor (iEnum K (tCons (tFld K (tVar 0) "own_picture") tNil)) (gTup K 2 (gCons (gName 2) (gCons (gName 3) gNil))) (tDrop (tBM K "list" rExtend (tVar 1) (tCons (tLc (iRng1 (tCons (tCB (rLenQ K) (tCons (tVar 3) tNil)) tNil)) (gName 4) tYes (tTup (tCons (tVar 2) (tCons (tVar 4) tNil))) [4]) tNil))))
 (tRet (tVar 1))))
theorem sm_Painting_all_spots {K : PySem.W.Frag} {C_Painting : Addr} {vs : List V} {H : Hp} {Q : VK} {E : XK} (h : sp_Painting_all_spots K C_Painting vs H Q E) : rd_Painting_all_spots K { nx := fun _ H' => Q .non H', rt := Q } (start ["self", "found", "k", "row", "j"] vs) H := by
  obtain ⟨v0, rfl, p, F, pic, pal, num, past, rfl, ⟨dx, a1, a2, a3, a4, rs, ss, G, vs, rfl, P⟩, ln, lr, q⟩ := h
  obtain ⟨pc, hi, g1, g2, g3, h4, g4, nd⟩ := id P
  show rd_Painting_all_spots K _ [some (.ref p), none, none, none, none] H
  unfold rd_Painting_all_spots
  walk_at "s"
  intro f H1 f1 k1 h1
  walk_at "s"
  have e1 := k1.at (fun z => z) g1.at_
  refine w_kenum (SqL.of e1) ?_
  have hl := g1.len
  rw [List.length_map] at hl
  refine w_forG wk_enum (fun i σ H' => ∃ b c, σ = [some (.ref p), some (.ref f), b, c, none] ∧ Kp no H H' ∧ LstD K H' f ((spotsTo pic i).map prD)) ⟨none, none, rfl, k1, [], h1, .nil⟩ (fun i σ H' _ ⟨_, _, _, k, _⟩ => SqL.of (k.at (fun z => z) g1.at_)) ?_ ?_
  · rintro i x σ H2 H3 hi ⟨b, c, rfl, k2, L2⟩ k3 ⟨T, u, v, rfl, hT, hu, hx⟩
    cases hu
    have hi2 : i < pic.length := by rw [List.length_map] at hi; omega
    obtain ⟨r, hr, Lr⟩ := g1.get (List.getElem?_eq_getElem hi2)
    have hx' : (rs.map V.ref)[i]? = some v := hx
    rw [List.getElem?_map, hr] at hx'
    cases hx'
    have hT' : SqT K H3 T [.int (i : Nat), .ref r] := hT
    have k03 : Kp no H H3 := k2.tr0 k3
    have Lr3 : LstD K H3 r (pic[i].map colD) := Lr.kp k03 fun z => z
    have L3 : LstD K H3 f ((spotsTo pic i).map prD) := L2.kp k3 fun z => z
    have lri := lr pic[i] (List.getElem_mem hi2)
    walk_at "s"
    refine w_lcP (K := K) wk_rng (fun (j : Nat) => some (prD ((i : Int), (j : Int)))) (by rw [List.length_map]; omega) (fun _ _ => trivial) ?_ ?_
    · rintro j x H4 hj k4 rfl R R0 r1 _
      walk_at "s"
      refine ⟨rfl, ?_⟩
      walk_at "s"
      intro t H5 f5 k5 h5
      refine r1 _ _ _ k5 rfl ?_
      have e0 : (0 : Int) + (j : Int) = j := by omega
      rw [e0] at h5
      exact Dg.tupI (ns := [_, _]) (SqT.of h5)
    · intro t ws H4 f4 k4 h4' d4
      obtain ⟨us, hu, du⟩ := L3.kp k4 fun z => z
      have lw := d4.len
      have e5 : (List.range (((pic[i].map colD).length : Nat) : Int).toNat).filterMap (fun (j : Nat) => some (prD ((i : Int), (j : Int)))) = (rowSpots i pic[i]).map prD := by
        unfold rowSpots
        rw [List.map_map, List.length_map, Int.toNat_natCast]
        exact congrFun (List.filterMap_eq_map (f := fun (j : Nat) => prD ((i : Int), (j : Int)))) _
      rw [e5] at d4 lw
      have b1 := du.len
      have b2 := len_spotsTo pic i lr
      have b3 : ((rowSpots i pic[i]).map prD).length ≤ 100 := by
        unfold rowSpots
        rw [List.length_map, List.length_map, List.length_range]; exact lri
      rw [List.length_map] at b1
      walk_at "s"
      refine w_extend hu h4' (by rw [sizeLine_eq]; omega) fun H6 k6 h6 => ?_
      refine ⟨_, _, rfl, (k03.tr0 k4).own f1 k6, _, h6, ?_⟩
      rw [spotsTo_succ, List.map_append, List.getD_eq_getElem?_getD, List.getElem?_eq_getElem hi2]
      exact (DAz.kp k6 du).app (DAz.kp k6 d4)
  · rintro σ H2 ⟨b, c, rfl, k2, L2⟩
    rw [List.length_map, hl] at L2
    walk_at "s"
    exact q f H2 f1 k2 L2

local macro_rules | `(tactic| walk_at "pt") => `(tactic| first | assumption | ((refine' Pt.kp0 (by assumption) ?h); (case h => walk_at "pt")))
def sp_Painting_far_now (K : PySem.W.Frag) (C : Addr) : Sp := fun vs H Q _ => ∃ v0 v1 v2, vs = [v0, v1, v2] ∧ ∃ (p : Addr) (F : List Addr) (w : Int) (pic : List (List (List Int))) (pal : List (List Int)) (num : List (List Int)) (past : List Once) (k j : Nat) (c d : List Int) (n : Int), v0 = .ref p ∧ v1 = .int (k : Int) ∧ v2 = .int (j : Int) ∧ Pt K C H p F pic pal num past ∧
  cell pic ((k : Int), (j : Int)) = some c ∧ cell num ((k : Int), (j : Int)) = some n ∧ 0 ≤ n ∧ pal[n.toNat]? = some d ∧ ColOk w c ∧ ColOk w d ∧ w ≤ 100 ∧ ∀ v H', Kp no H H' → Dz K H' v (prD (apartI d c, n)) → Q v H'
def rd_Painting_far_now (K : PySem.W.Frag) : TS :=
 (tSeq (tAsg (tOp (rIxL K) (tOp (rIxL K) (tFld K (tVar 0) "own_numbers") (tVar 1)) (tVar 2)) (gName 3))
 (tRet (tTup (tCons (tCall (sp_apart K) [] E0 (tCons (tOp (rIxL K) (tFld K (tVar 0) "own_palette") (tVar 3)) (tCons (tOp (rIxL K) (tOp (rIxL K) (tFld K (tVar 0) "own_picture") (tVar 1)) (tVar 2)) tNil))) (tCons (tVar 3) tNil)))))
theorem sm_Painting_far_now {K : PySem.W.Frag} {C_Painting : Addr} {vs : List V} {H : Hp} {Q : VK} {E : XK} (h : sp_Painting_far_now K C_Painting vs H Q E) : rd_Painting_far_now K { nx := fun _ H' => Q .non H', rt := Q } (start ["self", "row", "column", "n"] vs) H := by
  obtain ⟨v0, v1, v2, rfl, p, F, w, pic, pal, num, past, k, j, c, d, n, rfl, rfl, rfl, ⟨dx, a1, a2, a3, a4, rs, ss, G, vs, rfl, P⟩, hc, hn, n0, hd, oc, od, hw, q⟩ := h
  obtain ⟨pc, hi, g1, g2, g3, h4, g4, nd⟩ := id P
  obtain ⟨R, hR, hRj⟩ := getOf hc
  obtain ⟨N, hN, hNj⟩ := getOf hn
  show rd_Painting_far_now K _ [some (.ref p), some (.int (k : Int)), some (.int (j : Int)), none] H
  unfold rd_Painting_far_now
  walk_at "s"
  refine w_ixG g3 hN fun r hr Lr => ?_
  walk_at "s"
  refine w_ixN Lr hNj fun v dv => ?_
  cases dv
  walk_at "s"
  obtain ⟨m, rfl⟩ : ∃ m : Nat, n = m := ⟨n.toNat, by omega⟩
  refine w_ixN g2 (j := m) (by simpa using hd) fun v dv => ?_
  walk_at "s"
  refine w_ixG g1 hR fun r' hr' Lr' => ?_
  walk_at "s"
  refine w_ixN Lr' hRj fun u du => ?_
  walk_at "s"
  refine ⟨_, _, rfl, d, c, dv, du, od.sm, oc.sm, by have := od.1; omega, fun H1 k1 => ?_⟩
  walk_at "s"
  intro t H2 f2 k2 h2
  exact q _ H2 (k1.tr0 k2) (Dg.tupI (ns := [_, _]) (SqT.of h2))
def lostI (pal : List (List Int)) (pic : List (List (List Int))) : Int := (pic.flatMap fun r => r.map fun c => (nearP pal c).1).sum
def sp_Painting_lost (K : PySem.W.Frag) (C : Addr) : Sp := fun vs H Q _ => ∃ v0, vs = [v0] ∧ ∃ (p : Addr) (F : List Addr) (w : Int) (pic : List (List (List Int))) (pal : List (List Int)) (past : List Once), v0 = .ref p ∧ Pt K C H p F pic pal (numsOf pal pic) past ∧ Wd w pic pal ∧
  ∀ H', Kp no H H' → Q (.int (lostI pal pic)) H'
def rd_Painting_lost (K : PySem.W.Frag) (C_Painting : Addr) : TS :=
 (tRet (tCB (rSum K) (tCons (tLc (iList K (tMeth C_Painting "all_spots" (sp_Painting_all_spots K C_Painting) [] E0 (tVar 0) tNil)) (gTup K 2 (gCons (gName 1) (gCons (gName 2) gNil))) tYes (tOp (rIxT K) (tMeth C_Painting "far_now" (sp_Painting_far_now K C_Painting) [] E0 (tVar 0) (tCons (tVar 1) (tCons (tVar 2) tNil))) (tC (.int 0))) [1, 2]) tNil)))
theorem sm_Painting_lost {K : PySem.W.Frag} {C_Painting : Addr} {vs : List V} {H : Hp} {Q : VK} {E : XK} (h : sp_Painting_lost K C_Painting vs H Q E) : rd_Painting_lost K C_Painting { nx := fun _ H' => Q .non H', rt := Q } (start ["self", "row", "column"] vs) H := by
  obtain ⟨v0, rfl, p, F, w, pic, pal, past, rfl, P, W, q⟩ := h
  obtain ⟨dx, fs, hi⟩ := P.ins
  show rd_Painting_lost K _ _ [some (.ref p), none, none] H
  unfold rd_Painting_lost
  have P0 := P
  obtain ⟨dx, a1, a2, a3, a4, rs, ss, G, vs, rfl, PA⟩ := P0
  have hi := PA.hi
  walk_at "s"
  refine ⟨_, rfl, p, _, pic, pal, _, past, rfl, P, W.lm, W.lr, fun a H1 f1 k1 L1 => ?_⟩
  obtain ⟨ws, e, g⟩ := id L1
  refine w_klist (SqL.of e) ?_
  have hl := g.len
  rw [List.length_map] at hl
  have lt := len_spotsTo pic pic.length W.lr
  have lm := W.lm
  refine w_lcP (K := K) (wk_list (xs := ws)) (fun j => ((spots pic)[j]?).map fun s => .int (((cell pic s).map fun c => (nearP pal c).1).getD 0)) (by have : (spots pic).length ≤ 100 * pic.length := lt; omega) (fun H' k => SqL.of (k.at (fun z => z) e)) ?_ ?_
  · intro n x H' hn k y R R0 r1 _
    obtain ⟨d, hd, dx'⟩ := g.getV y
    rw [List.getElem?_map] at hd
    obtain ⟨s, hs, rfl⟩ := Option.map_eq_some_iff.mp hd
    obtain ⟨k', j', row, c, rfl, h1, h2⟩ := mem_spots.mp (List.mem_of_getElem? hs)
    obtain ⟨T, rfl, hT⟩ := Dg.tupI_of (ns := [_, _]) dx'
    have hT' : SqT K H' T [.int (k' : Int), .int (j' : Int)] := SqT.kp k hT
    have hi' : H' p = some _ := k.at (fun z => z) (k1.at (fun z => z) hi)
    have cc := W.pc row (List.mem_of_getElem? h1) c (List.mem_of_getElem? h2)
    obtain ⟨d, hd1, hd2, hd3⟩ := near_least (c := c) W.l1
    have e1 : cell pic ((k' : Int), (j' : Int)) = some c := by rw [cell_at h1]; exact h2
    refine w_gtup hT' rfl ?_
    walk_at "s"
    refine ⟨rfl, ?_⟩
    walk_at "s"
    refine ⟨_, _, _, rfl, p, _, w, pic, pal, _, past, k', j', c, d, near pal c, rfl, rfl, rfl, (P.kp0 k1).kp0 k, e1, by unfold numsOf; rw [cell_map, e1]; rfl, (near_range c W.l1).1, hd1, cc, W.pl d (List.mem_of_getElem? hd1), W.hw, fun v H3 k3 dv => ?_⟩
    obtain ⟨b, rfl, hb⟩ := Dg.tupI_of (ns := [_, _]) dv
    walk_at "s"
    refine r1 _ _ H3 k3 ?_ (.int _)
    rw [hs]
    show some (PyData.int (((cell pic ((k' : Int), (j' : Int))).map fun c => (nearP pal c).1).getD 0)) = _
    rw [e1, ← hd2]
    rfl
  · intro t us H' ht k h1 h2
    rw [hl, filterMap_map] at h2
    have h3 := DA.ints_of (ns := (spots pic).map fun s => ((cell pic s).map fun c => (nearP pal c).1).getD 0) (by rw [List.map_map]; exact h2)
    subst h3
    walk_at "s"
    refine w_sum (SqL.of h1) ?_
    rw [spots_map pic (fun o => (o.map fun c => (nearP pal c).1).getD 0)]
    exact q H' (k1.tr0 k)

/-! ### a painting is made -/
theorem grid_new {K : PySem.W.Frag} {H : Hp} {a p : Addr} {rs : List Addr} {rows : List (List PyData)} (h : Grid K H a rs rows) (e : H p = none) : p ≠ a ∧ p ∉ rs := h.ne e
def sp_Painting_init (K : PySem.W.Frag) (C : Addr) : Sp := fun vs H Q _ => ∃ v0 v1 v2, vs = [v0, v1, v2] ∧ ∃ (p dx a b : Addr) (rs : List Addr) (w : Int) (pic : List (List (List Int))) (pal : List (List Int)), v0 = .ref p ∧ v1 = .ref a ∧ v2 = .ref b ∧ PaintC K C ∧ H p = some (.ins C dx []) ∧
  Grid K H a rs (picR pic) ∧ LstD K H b (pal.map colD) ∧ Wd w pic pal ∧ ∀ F H', Kp (at1 p) H H' → Pt K C H' p F pic pal (numsOf pal pic) [] → (∀ x ∈ F, H x = none) → Q .non H'
def rd_Painting_init (K : PySem.W.Frag) : TS :=
 (tSeq (sFld K (tVar 0) (tLc (iList K (tVar 1)) (gName 3) tYes (tLc (iList K (tVar 3)) (gName 4) tYes (tCB (rTupOf K) (tCons (tVar 4) tNil)) [4]) [3]) "own_picture")
 (tSeq (sFld K (tVar 0) (tLc (iList K (tVar 2)) (gName 4) tYes (tCB (rTupOf K) (tCons (tVar 4) tNil)) [4]) "own_palette")
 (tSeq (sFld K (tVar 0) (tLc (iList K (tFld K (tVar 0) "own_picture")) (gName 3) tYes (tLc (iList K (tVar 3)) (gName 4) tYes (tCall (sp_nearest K) [] E0 (tCons (tFld K (tVar 0) "own_palette") (tCons (tVar 4) tNil))) [4]) [3]) "own_numbers")
 (sFld K (tVar 0) (tLst tNil) "own_past"))))
theorem sm_Painting_init {K : PySem.W.Frag} {C_Painting : Addr} {vs : List V} {H : Hp} {Q : VK} {E : XK} (h : sp_Painting_init K C_Painting vs H Q E) : rd_Painting_init K { nx := fun _ H' => Q .non H', rt := Q } (start ["self", "picture", "palette", "row", "colour"] vs) H := by
  obtain ⟨v0, v1, v2, rfl, p, dx, a, b, rs, w, pic, pal, rfl, rfl, rfl, pc, hi, g1, L2, W, q⟩ := h
  show rd_Painting_init K _ [some (.ref p), some (.ref a), some (.ref b), none, none] H
  unfold rd_Painting_init
  have npa : p ≠ a := fun z => by
    have e := g1.at_
    rw [← z, hi] at e; cases e
  have npr : ∀ r ∈ rs, r ≠ p := fun r hr z => by
    obtain ⟨xs, e⟩ := g1.there r hr
    rw [z, hi] at e; cases e
  have npb : b ≠ p := fun z => by
    obtain ⟨xs, e⟩ := L2.there
    rw [z, hi] at e; cases e
  walk_at "s"
  refine w_klist (SqL.of g1.at_) ?_
  refine w_lcGM (f := colD) (h := colD) (fun x => ⟨rfl, rfl⟩) g1 (by have := W.lm; omega) ?_ fun a1 rs1 H1 f1 k1 gr1 nd1 fr1 => ?_
  · intro k R r H' hk kk L RR rr
    obtain ⟨ws, e, g⟩ := id L
    walk_at "s"
    refine w_klist (SqL.of e) ?_
    refine w_lcMap (f := colD) (h := colD) (fun x => ⟨rfl, rfl⟩) L (by have := W.lr R (List.mem_of_getElem? hk); omega) ?_ rr
    intro x v H2 hx k2 dv R2 r2
    obtain ⟨t, rfl, ht⟩ := dv.tupI_of
    walk_at "s"
    exact w_tupOfT ht (r2 _ _ Kp.refl dv)
  walk_at "s"
  have hi1 : H1 p = some _ := k1.at (fun z => z) hi
  refine w_ksfld (gs := [("own_picture", .ref a1)]) hi1 pc.cl pc.n1 (by simp) rfl fun H2 k2 h2 => ?_
  have p1 : a1 ≠ p := ne_none hi f1
  have r1 : ∀ r ∈ rs1, r ≠ p := fun r hr => ne_none hi (fr1 r hr)
  have gr2 : Grid K H2 a1 rs1 (picR pic) := gr1.kp k2 p1 r1
  have L2b : LstD K H2 b (pal.map colD) := (L2.kp k1 fun z => z).kp k2 npb
  obtain ⟨ws, eb, gb⟩ := id L2b
  walk_at "s"
  refine w_klist (SqL.of eb) ?_
  refine w_lcMap (f := colD) (h := colD) (fun x => ⟨rfl, rfl⟩) L2b W.lp ?_ fun a2 H3 f3 k3 L3 => ?_
  · intro x v H2 hx k2 dv R2 r2
    obtain ⟨t, rfl, ht⟩ := dv.tupI_of
    walk_at "s"
    exact w_tupOfT ht (r2 _ _ Kp.refl dv)
  walk_at "s"
  have hi3 : H3 p = some _ := k3.at (fun z => z) h2
  refine w_ksfld (gs := [("own_picture", .ref a1), ("own_palette", .ref a2)]) hi3 pc.cl pc.n2 (by simp) (pf_miss fne12) fun H4 k4 h4 => ?_
  have p2 : a2 ≠ p := ne_none h2 f3
  have gr4 : Grid K H4 a1 rs1 (picR pic) := (gr2.kp k3 (fun z => z) fun _ _ z => z).kp k4 p1 r1
  have L4 : LstD K H4 a2 (pal.map colD) := L3.kp k4 p2
  walk_at "s"
  refine w_kfld h4 pc.cl pc.n1 lk_hit ?_
  walk_at "s"
  refine w_klist (SqL.of gr4.at_) ?_
  refine w_lcGM (f := colD) (h := PyData.int ∘ near pal) (fun x => ⟨rfl, rfl⟩) gr4 (by have := W.lm; omega) ?_ fun a3 rs3 H5 f5 k5 gr5 nd5 fr5 => ?_
  · intro k R r H' hk kk L RR rr
    obtain ⟨ws, e, g⟩ := id L
    have hR := List.mem_of_getElem? hk
    walk_at "s"
    refine w_klist (SqL.of e) ?_
    refine w_lcMap (f := colD) (h := PyData.int ∘ near pal) (fun x => ⟨rfl, rfl⟩) L (by have := W.lr R hR; omega) ?_ rr
    intro x v H2 hx k2 dv R2 r2
    have h4' : H2 p = some _ := k2.at (fun z => z) (kk.at (fun z => z) h4)
    walk_at "s"
    refine w_kfld h4' pc.cl pc.n2 (by rw [lk_miss fne12, lk_hit]) ?_
    walk_at "s"
    refine ⟨_, _, rfl, a2, pal, x, w, rfl, (L4.kp kk fun z => z).kp k2 fun z => z, dv, W.pl, W.pc R hR x hx, W.hw, W.l1, W.lp, fun H3 k3 => ?_⟩
    exact r2 _ H3 k3 (.int _)
  have e5 : (pic.map fun r => r.map (PyData.int ∘ near pal)) = numR (numsOf pal pic) := by
    unfold numR numsOf
    rw [List.map_map]
    refine List.map_congr_left fun r _ => ?_
    show _ = List.map PyData.int (List.map (near pal) r)
    rw [List.map_map]
  rw [e5] at gr5
  walk_at "s"
  have hi5 : H5 p = some _ := k5.at (fun z => z) h4
  refine w_ksfld (gs := [("own_picture", .ref a1), ("own_palette", .ref a2), ("own_numbers", .ref a3)]) hi5 pc.cl pc.n3 (by simp) (by rw [pf_miss fne13, pf_miss fne23]; rfl) fun H6 k6 h6 => ?_
  have p3 : a3 ≠ p := ne_none h4 f5
  have r3 : ∀ r ∈ rs3, r ≠ p := fun r hr => ne_none h4 (fr5 r hr)
  walk_at "s"
  intro a4 H7 f7 k7 h7
  walk_at "s"
  have hi7 : H7 p = some _ := k7.at (fun z => z) h6
  refine w_ksfld (gs := pfs (.ref a1) (.ref a2) (.ref a3) (.ref a4)) hi7 pc.cl pc.n4 (by simp) (by rw [pf_miss fne14, pf_miss fne24, pf_miss fne34]; rfl) fun H8 k8 h8 => ?_
  have p4 : a4 ≠ p := ne_none h6 f7
  have gr6 : Grid K H6 a1 rs1 (picR pic) := (gr4.kp k5 (fun z => z) fun _ _ z => z).kp k6 p1 r1
  have L6 : LstD K H6 a2 (pal.map colD) := (L4.kp k5 fun z => z).kp k6 p2
  have gn6 : Grid K H6 a3 rs3 (numR (numsOf pal pic)) := gr5.kp k6 p3 r3
  have ka : Kp no H H1 := k1
  have kb : Kp (at1 p) H H2 := (k1.of0).tr' k2
  have kc : Kp (at1 p) H H4 := (kb.tr0 k3).tr' k4
  have kd : Kp (at1 p) H H6 := (kc.tr0 k5).tr' k6
  have ke : Kp (at1 p) H H8 := (kd.tr0 k7).tr' k8
  have n4 := gr6.ne f7
  have n4' := gn6.ne f7
  have n42 : a4 ≠ a2 := L6.ne f7
  have n3 := gr4.ne f5
  have n3r : ∀ r ∈ rs3, r ≠ a1 ∧ r ∉ rs1 ∧ r ≠ a2 := fun r hr => ⟨(gr4.ne (fr5 r hr)).1, (gr4.ne (fr5 r hr)).2, L4.ne (fr5 r hr)⟩
  have n32 : a3 ≠ a2 := L4.ne f5
  have n2 := gr2.ne f3
  refine q (ptF a1 a2 a3 a4 rs1 rs3 []) H8 ke ⟨dx, a1, a2, a3, a4, rs1, rs3, [], [], rfl, pc, h8, (gr6.kp k7 (fun z => z) fun _ _ z => z).kp k8 p1 r1, (L6.kp k7 fun z => z).kp k8 p2, (gn6.kp k7 (fun z => z) fun _ _ z => z).kp k8 p3 r3, k8.at p4 h7, .nil, ?_⟩ ?_
  · simp only [List.cons_append, List.nodup_cons, List.nodup_append, List.mem_append, List.mem_cons, List.not_mem_nil] at nd1 nd5 ⊢
    grind
  · intro x hx
    simp only [ptF, List.mem_append, List.mem_cons, List.not_mem_nil, or_false] at hx
    have z2 : H a2 = none := by
      cases e : H a2 with
      | none => rfl
      | some o =>
        have := kb.at (a := a2) p2 e
        rw [f3] at this; cases this
    have zz : ∀ r, r ≠ p → H4 r = none → H r = none := fun r hr e4 => by
      cases e : H r with
      | none => rfl
      | some o =>
        have := kc.at (a := r) hr e
        rw [e4] at this; cases this
    rcases hx with (rfl | hx) | (rfl | rfl | hx) | rfl
    · exact f1
    · exact fr1 x hx
    · exact z2
    · exact zz _ p3 f5
    · exact zz _ (r3 x hx) (fr5 x hx)
    · cases e : H x with
      | none => rfl
      | some o =>
        have := kd.at (a := x) p4 e
        rw [f7] at this; cases this

/-! ### changes of a painting -/
section
variable {K : PySem.W.Frag} {C : Addr} {H H' : Hp} {p dx a1 a2 a3 a4 : Addr} {rs ss G : List Addr} {vs : List V} {pic : List (List (List Int))} {pal : List (List Int)} {num : List (List Int)} {past : List Once}
theorem nd_all (nd : (ptF a1 a2 a3 a4 rs ss G).Nodup) : (a1 ∉ rs ∧ rs.Nodup ∧ a3 ∉ ss ∧ ss.Nodup) ∧ (∀ r ∈ rs, r ≠ a1 ∧ r ≠ a2 ∧ r ≠ a3 ∧ r ∉ ss ∧ r ≠ a4 ∧ r ∉ G) ∧ (∀ r ∈ ss, r ≠ a1 ∧ r ∉ rs ∧ r ≠ a2 ∧ r ≠ a3 ∧ r ≠ a4 ∧ r ∉ G) ∧
    (a2 ≠ a1 ∧ a2 ∉ rs ∧ a2 ≠ a3 ∧ a2 ∉ ss ∧ a2 ≠ a4 ∧ a2 ∉ G) ∧ (a4 ≠ a1 ∧ a4 ∉ rs ∧ a4 ≠ a2 ∧ a4 ≠ a3 ∧ a4 ∉ ss ∧ a4 ∉ G) := by
  simp only [ptF, List.cons_append, List.nodup_cons, List.nodup_append, List.mem_append, List.mem_cons] at nd
  grind
theorem PtAt.ne (h : PtAt K C H p dx a1 a2 a3 a4 rs ss G vs pic pal num past) : ∀ a ∈ ptF a1 a2 a3 a4 rs ss G, p ≠ a := fun a ha z => by
  obtain ⟨xs, e⟩ := h.there a ha
  rw [← z, h.hi] at e; cases e
theorem PtAt.setNum (h : PtAt K C H p dx a1 a2 a3 a4 rs ss G vs pic pal num past) {i : Nat} {r : Addr} {ns : List Int} (e : ss[i]? = some r) (k : Kp (at1 r) H H') (L : LstD K H' r (ns.map PyData.int)) : PtAt K C H' p dx a1 a2 a3 a4 rs ss G vs pic pal (num.set i ns) past := by
  have hr := List.mem_of_getElem? e
  obtain ⟨⟨n1, n2, n3, n4⟩, nr, ns', n5, n6⟩ := nd_all h.nd
  obtain ⟨m1, m2, m3, m4, m5, m6⟩ := ns' r hr
  have mp : p ≠ r := h.ne r (by simp [ptF, hr])
  refine ⟨h.pc, k.at mp h.hi, h.g1.kp k m1.symm (fun x hx z => m2 (z ▸ hx)), h.g2.kp k m3.symm, ?_, k.at m5.symm h.h4, h.g4.kp k (fun x hx z => m6 (z ▸ hx)), h.nd⟩
  have := h.g3.set n4 n3 e k L
  rw [show numR (num.set i ns) = (numR num).set i (ns.map PyData.int) from List.map_set]
  exact this
theorem PtAt.setPic (h : PtAt K C H p dx a1 a2 a3 a4 rs ss G vs pic pal num past) {i : Nat} {r : Addr} {cs : List (List Int)} (e : rs[i]? = some r) (k : Kp (at1 r) H H') (L : LstD K H' r (cs.map colD)) : PtAt K C H' p dx a1 a2 a3 a4 rs ss G vs (pic.set i cs) pal num past := by
  have hr := List.mem_of_getElem? e
  obtain ⟨⟨n1, n2, n3, n4⟩, nr, ns', n5, n6⟩ := nd_all h.nd
  obtain ⟨m1, m2, m3, m4, m5, m6⟩ := nr r hr
  have mp : p ≠ r := h.ne r (by simp [ptF, hr])
  refine ⟨h.pc, k.at mp h.hi, ?_, h.g2.kp k m2.symm, h.g3.kp k m3.symm (fun x hx z => m4 (z ▸ hx)), k.at m5.symm h.h4, h.g4.kp k (fun x hx z => m6 (z ▸ hx)), h.nd⟩
  have := h.g1.set n2 n1 e k L
  rw [show picR (pic.set i cs) = (picR pic).set i (cs.map colD) from List.map_set]
  exact this
theorem PtAt.setPal (h : PtAt K C H p dx a1 a2 a3 a4 rs ss G vs pic pal num past) {pal' : List (List Int)} (k : Kp (at1 a2) H H') (L : LstD K H' a2 (pal'.map colD)) : PtAt K C H' p dx a1 a2 a3 a4 rs ss G vs pic pal' num past := by
  obtain ⟨⟨n1, n2, n3, n4⟩, nr, ns', n5, n6⟩ := nd_all h.nd
  obtain ⟨m1, m2, m3, m4, m5, m6⟩ := n5
  have mp : p ≠ a2 := h.ne a2 (by simp [ptF])
  exact ⟨h.pc, k.at mp h.hi, h.g1.kp k m1.symm (fun x hx z => m2 (z ▸ hx)), L, h.g3.kp k m3.symm (fun x hx z => m4 (z ▸ hx)), k.at m5.symm h.h4, h.g4.kp k (fun x hx z => m6 (z ▸ hx)), h.nd⟩
theorem PtAt.push (h : PtAt K C H p dx a1 a2 a3 a4 rs ss G vs pic pal num past) {o : Once} {t b c d : Addr} {qs us : List Addr} (ht : H t = some (.tup [.ref b, .ref c, .ref d, goneV o.gone])) (g1 : Grid K H b qs (picR o.pic)) (g2 : LstD K H c (o.pal.map colD)) (g3 : Grid K H d us (numR o.num))
    (nd : (b :: qs ++ (c :: d :: us)).Nodup) (fr : ∀ x ∈ b :: qs ++ (c :: d :: us), x ∉ ptF a1 a2 a3 a4 rs ss G) (k : Kp (at1 a4) H H') (e : H' a4 = some (.lst (vs ++ [.ref t]))) : PtAt K C H' p dx a1 a2 a3 a4 rs ss (G ++ (b :: qs ++ (c :: d :: us))) (vs ++ [.ref t]) pic pal num (past ++ [o]) := by
  obtain ⟨⟨n1, n2, n3, n4⟩, nr, ns', n5, n6⟩ := nd_all h.nd
  obtain ⟨m1, m2, m3, m4, m5, m6⟩ := n6
  have mp : p ≠ a4 := h.ne a4 (by simp [ptF])
  have f4 : ∀ x ∈ b :: qs ++ (c :: d :: us), x ≠ a4 := fun x hx z => fr x hx (by rw [z]; simp [ptF])
  refine ⟨h.pc, k.at mp h.hi, h.g1.kp k m1.symm (fun x hx z => m2 (z ▸ hx)), h.g2.kp k m3.symm, h.g3.kp k m4.symm (fun x hx z => m5 (z ▸ hx)), e, .snoc (h.g4.kp k (fun x hx z => m6 (z ▸ hx))) (k.fix rfl ht) (g1.kp k (f4 _ (by simp)) fun r hr => f4 r (by simp [hr])) (g2.kp k (f4 _ (by simp))) (g3.kp k (f4 _ (by simp)) fun r hr => f4 r (by simp [hr])), ?_⟩
  have n0 := h.nd
  simp only [ptF, List.cons_append, List.nodup_cons, List.nodup_append, List.mem_append, List.mem_cons] at n0 nd fr ⊢
  grind
end
def sp_Painting_keep_past (K : PySem.W.Frag) (C : Addr) : Sp := fun vs H Q _ => ∃ v0 v1, vs = [v0, v1] ∧ ∃ (p : Addr) (F : List Addr) (w : Int) (pic : List (List (List Int))) (pal : List (List Int)) (num : List (List Int)) (past : List Once) (g : Option Int), v0 = .ref p ∧ v1 = goneV g ∧ Pt K C H p F pic pal num past ∧ pic.length ≤ 100 ∧ num.length ≤ 100 ∧ past.length ≤ 1000 ∧
  ∀ F' H', Kp (· ∈ F) H H' → Pt K C H' p F' pic pal num (past ++ [⟨pic, pal, num, g⟩]) → (∀ a ∈ F', a ∈ F ∨ H a = none) → Q .non H'
def rd_Painting_keep_past (K : PySem.W.Frag) (C_Painting : Addr) : TS :=
 (tDrop (tBM K "list" rAppend (tFld K (tVar 0) "own_past") (tCons (tTup (tCons (tMeth C_Painting "picture" (sp_Painting_picture K C_Painting) [] E0 (tVar 0) tNil) (tCons (tMeth C_Painting "palette" (sp_Painting_palette K C_Painting) [] E0 (tVar 0) tNil) (tCons (tMeth C_Painting "numbers" (sp_Painting_numbers K C_Painting) [] E0 (tVar 0) tNil) (tCons (tVar 1) tNil))))) tNil)))
theorem sm_Painting_keep_past {K : PySem.W.Frag} {C_Painting : Addr} {vs : List V} {H : Hp} {Q : VK} {E : XK} (h : sp_Painting_keep_past K C_Painting vs H Q E) : rd_Painting_keep_past K C_Painting { nx := fun _ H' => Q .non H', rt := Q } (start ["self", "gone"] vs) H := by
  obtain ⟨v0, v1, rfl, p, F, w, pic, pal, num, past, g, rfl, rfl, P, lm, ln, lpa, q⟩ := h
  have P0 := P
  obtain ⟨dx, a1, a2, a3, a4, rs, ss, G, vs, rfl, PA⟩ := P0
  obtain ⟨pc, hi, g1, g2, g3, h4, g4, nd⟩ := id PA
  show rd_Painting_keep_past K _ _ [some (.ref p), some (goneV g)] H
  unfold rd_Painting_keep_past
  walk_at "s"
  refine ⟨_, rfl, p, _, pic, pal, num, past, rfl, P, by omega, fun b qs H1 f1 k1 gb nb fb => ?_⟩
  have P1 := P.kp0 k1
  have hi1 := k1.at (fun z => z) hi
  walk_at "s"
  refine ⟨_, rfl, p, _, pic, pal, num, past, rfl, P1, fun c H2 f2 k2 gc => ?_⟩
  have P2 := P1.kp0 k2
  have hi2 := k2.at (fun z => z) hi1
  walk_at "s"
  refine ⟨_, rfl, p, _, pic, pal, num, past, rfl, P2, by omega, fun d us H3 f3 k3 gd nd3 fd => ?_⟩
  have hi3 := k3.at (fun z => z) hi2
  walk_at "s"
  intro t H4 f4 k4 h4'
  have k04 : Kp no H H4 := ((k1.tr0 k2).tr0 k3).tr0 k4
  have PA4 := PA.kp k04 (fun z => z) fun _ _ z => z
  walk_at "s"
  refine w_append PA4.h4 (by rw [PA4.g4.len, sizeLine_eq]; omega) fun H5 k5 h5 => ?_
  walk_at "s"
  have gb4 : Grid K H4 b qs (picR pic) := gb.kp ((k2.tr0 k3).tr0 k4) (fun z => z) fun _ _ z => z
  have gc4 : LstD K H4 c (pal.map colD) := gc.kp (k3.tr0 k4) fun z => z
  have gd4 : Grid K H4 d us (numR num) := gd.kp k4 (fun z => z) fun _ _ z => z
  have e2 : H c = none := k1.free f2
  have e3 : ∀ x, H2 x = none → H x = none := fun x e => (k1.tr0 k2).free e
  have cb := gb.ne f2
  have gb2 : Grid K H2 b qs (picR pic) := gb.kp k2 (fun z => z) fun _ _ z => z
  have db := gb2.ne f3
  have dc := gc.ne f3
  have ub : ∀ x ∈ us, x ≠ b ∧ x ∉ qs ∧ x ≠ c := fun x hx => ⟨(gb2.ne (fd x hx)).1, (gb2.ne (fd x hx)).2, gc.ne (fd x hx)⟩
  have fr : ∀ x ∈ b :: qs ++ (c :: d :: us), H x = none := fun x hx => by
    simp only [List.mem_append, List.mem_cons] at hx
    rcases hx with (rfl | hx) | rfl | rfl | hx
    · exact f1
    · exact fb x hx
    · exact e2
    · exact e3 _ f3
    · exact e3 _ (fd x hx)
  have frF : ∀ x ∈ b :: qs ++ (c :: d :: us), x ∉ ptF a1 a2 a3 a4 rs ss G := fun x hx => (P.free (fr x hx)).1
  refine q _ H5 ?_ ⟨dx, a1, a2, a3, a4, rs, ss, _, _, rfl, PA4.push (o := ⟨pic, pal, num, g⟩) h4' gb4 gc4 gd4 ?_ frF k5 h5⟩ ?_
  · exact (k04.of0).tr (k5.mono (N := (· ∈ ptF a1 a2 a3 a4 rs ss G)) fun x e => .inl (by rw [e]; simp [ptF])) fun x e => .inl e
  · simp only [List.cons_append, List.nodup_cons, List.nodup_append, List.mem_append, List.mem_cons] at nb nd3 ⊢
    grind
  · intro x hx
    simp only [ptF, List.mem_append, List.mem_cons] at hx fr ⊢
    grind

theorem setCell_self {α : Type} {M : List (List α)} {s : Int × Int} {x : α} (h : cell M s = some x) : setCell M s x = M := by
  unfold cell at h
  unfold setCell
  cases e : M[s.1.toNat]? with
  | none => rfl
  | some r =>
    rw [e] at h
    have h' : r[s.2.toNat]? = some x := h
    obtain ⟨h1, h2⟩ := List.getElem?_eq_some_iff.mp h'
    obtain ⟨h3, h4⟩ := List.getElem?_eq_some_iff.mp e
    show M.set s.1.toNat (r.set s.2.toNat x) = M
    rw [← h2, List.set_getElem_self, ← h4, List.set_getElem_self]
theorem take_succ_of {α : Type} {S : List α} {i : Nat} {s : α} (h : S[i]? = some s) : S.take (i + 1) = S.take i ++ [s] := by
  rw [List.take_succ, h]; rfl
theorem not_take {α : Type} {S : List α} {i : Nat} {s : α} (nd : S.Nodup) (h : S[i]? = some s) : s ∉ S.take i := fun hm => by
  obtain ⟨j, hj, e⟩ := List.getElem_of_mem hm
  rw [List.length_take] at hj
  rw [List.getElem_take] at e
  obtain ⟨hi, e2⟩ := List.getElem?_eq_some_iff.mp h
  have := (List.getElem_inj nd).mp (e.trans e2.symm)
  omega
abbrev told (pal : List (List Int)) (pic : List (List (List Int))) (num : List (List Int)) (S : List (Int × Int)) : List (Int × Int × Int × Int) := S.filterMap (chF some num (numsOf pal pic))
def sp_Painting_tell_anew (K : PySem.W.Frag) (C : Addr) : Sp := fun vs H Q _ => ∃ v0 v1, vs = [v0, v1] ∧ ∃ (p sp : Addr) (F : List Addr) (w : Int) (pic : List (List (List Int))) (pal : List (List Int)) (num : List (List Int)) (past : List Once) (S : List (Int × Int)), v0 = .ref p ∧ v1 = .ref sp ∧ Pt K C H p F pic pal num past ∧ Wd w pic pal ∧ Sh num pic ∧
  LstD K H sp (S.map prD) ∧ sp ∉ F ∧ (∀ s ∈ S, s ∈ spots pic) ∧ S.Nodup ∧ S.length ≤ 10000 ∧
  ∀ f H', H f = none → Kp (· ∈ F) H H' → Pt K C H' p F pic pal (anew pal pic S num) past → LstD K H' f ((told pal pic num S).map chD) → Q (.ref f) H'
def rd_Painting_tell_anew (K : PySem.W.Frag) : TS :=
 (tSeq (tAsg (tLst tNil) (gName 2))
 (tSeq (tFor (iList K (tVar 1)) (gTup K 2 (gCons (gName 3) (gCons (gName 4) gNil))) (tSeq (tAsg (tOp (rIxL K) (tOp (rIxL K) (tFld K (tVar 0) "own_numbers") (tVar 3)) (tVar 4)) (gName 5))
 (tSeq (tAsg (tCall (sp_nearest K) [] E0 (tCons (tFld K (tVar 0) "own_palette") (tCons (tOp (rIxL K) (tOp (rIxL K) (tFld K (tVar 0) "own_picture") (tVar 3)) (tVar 4)) tNil))) (gName 6))
 (tIfS (tTest (tOp rNe (tVar 6) (tVar 5))) (tSeq (tAsg (tVar 6) (gSub (tOp (rIxL K) (tFld K (tVar 0) "own_numbers") (tVar 3)) (tVar 4) rSetL))
 (tDrop (tBM K "list" rAppend (tVar 2) (tCons (tTup (tCons (tVar 3) (tCons (tVar 4) (tCons (tVar 5) (tCons (tVar 6) tNil))))) tNil)))) tNext))))
 (tRet (tVar 2))))
theorem sm_Painting_tell_anew {K : PySem.W.Frag} {C_Painting : Addr} {vs : List V} {H : Hp} {Q : VK} {E : XK} (h : sp_Painting_tell_anew K C_Painting vs H Q E) : rd_Painting_tell_anew K { nx := fun _ H' => Q .non H', rt := Q } (start ["self", "spots", "changed", "row", "column", "old", "new"] vs) H := by
  obtain ⟨v0, v1, rfl, p, sp, F, w, pic, pal, num, past, S, rfl, rfl, P, W, sh, LS, nS, hS, ndS, lS, q⟩ := h
  show rd_Painting_tell_anew K _ [some (.ref p), some (.ref sp), none, none, none, none, none] H
  unfold rd_Painting_tell_anew
  walk_at "s"
  intro f H1 f1 k1 h1
  obtain ⟨nf, nfp⟩ := P.free f1
  obtain ⟨ws, es, gs⟩ := id LS
  have hl := gs.len
  rw [List.length_map] at hl
  have es1 := k1.at (fun z => z) es
  have nfs : f ≠ sp := ne_none es f1
  walk_at "s"
  refine w_klist (SqL.of es1) ?_
  refine w_forG (wk_list (xs := ws)) (fun i σ H' => ∃ b c d e, σ = [some (.ref p), some (.ref sp), some (.ref f), b, c, d, e] ∧ Kp (· ∈ F) H H' ∧ Pt K C_Painting H' p F pic pal (anew pal pic (S.take i) num) past ∧ LstD K H' f ((told pal pic num (S.take i)).map chD))
    ⟨none, none, none, none, rfl, k1.of0, P.kp0 k1, [], h1, .nil⟩ (fun i σ H' _ ⟨_, _, _, _, _, k, _⟩ => SqL.of (k.at nS es)) ?_ ?_
  · rintro i x σ H2 H3 hi ⟨b, c, d, e, rfl, k2, P2, L2⟩ k3 y
    obtain ⟨dd, hd, dx'⟩ := gs.getV y
    rw [List.getElem?_map] at hd
    obtain ⟨s, hs, rfl⟩ := Option.map_eq_some_iff.mp hd
    have hsS := List.mem_of_getElem? hs
    obtain ⟨k', j', R, col, rfl, hR, hRj⟩ := mem_spots.mp (hS s hsS)
    have dx3 : Dz K H3 x (prD ((k' : Int), (j' : Int))) := Dz.kp (k2.tr0 k3) dx'
    obtain ⟨T, rfl, hT⟩ := Dg.tupI_of (ns := [_, _]) dx3
    have hT' : SqT K H3 T [.int (k' : Int), .int (j' : Int)] := hT
    have k03 : Kp (· ∈ F) H H3 := k2.tr0 k3
    have P3 := P2.kp0 k3
    have P3' := P3
    obtain ⟨dx, a1, a2, a3, a4, rs, ss, G, vs, rfl, PA⟩ := P3'
    have hi3 := PA.hi
    have pc := PA.pc
    -- what stands there
    have ht : (S.take i).length ≤ S.length := by rw [List.length_take]; omega
    have hin : ∀ t ∈ S.take i, t ∈ spots pic := fun t htm => hS t (List.mem_of_mem_take htm)
    have shi : Sh (anew pal pic (S.take i) num) pic := (sh_anew pal pic _ num).trans sh
    obtain ⟨N, n, hN, hNj⟩ := shi.symm.get hR hRj
    have cn : cell (anew pal pic (S.take i) num) ((k' : Int), (j' : Int)) = some n := by rw [cell_at hN]; exact hNj
    have cn0 : cell num ((k' : Int), (j' : Int)) = some n := by
      rw [cell_anew sh hin (hS _ hsS), if_neg (not_take ndS hs)] at cn
      exact cn
    have cc : cell pic ((k' : Int), (j' : Int)) = some col := by rw [cell_at hR]; exact hRj
    have cN : cell (numsOf pal pic) ((k' : Int), (j' : Int)) = some (near pal col) := by unfold numsOf; rw [cell_map, cc]; rfl
    have et := take_succ_of hs
    have ea : anew pal pic (S.take (i + 1)) num = setCell (anew pal pic (S.take i) num) ((k' : Int), (j' : Int)) (near pal col) := by
      rw [et, anew_append]
      show (match cell pic ((k' : Int), (j' : Int)) with | some c => setCell (anew pal pic (S.take i) num) ((k' : Int), (j' : Int)) (near pal c) | none => _) = _
      rw [cc]
    have ch : chF some num (numsOf pal pic) ((k' : Int), (j' : Int)) = if n = near pal col then none else some ((k' : Int), (j' : Int), n, near pal col) := by
      unfold chF
      rw [cn0, cN]
      show (if some n = some (near pal col) then none else some ((k' : Int), (j' : Int), n, near pal col)) = _
      by_cases z : n = near pal col
      · rw [if_pos z, if_pos (by rw [z])]
      · rw [if_neg z, if_neg (fun q => z (Option.some.inj q))]
    have eto : told pal pic num (S.take (i + 1)) = told pal pic num (S.take i) ++ (if n = near pal col then none else some ((k' : Int), (j' : Int), n, near pal col)).toList := by
      unfold told
      rw [et, List.filterMap_append]
      congr 1
      rw [List.filterMap_cons, ch]
      by_cases z : n = near pal col
      · rw [if_pos z]; rfl
      · rw [if_neg z]; rfl
    have cok := W.pc R (List.mem_of_getElem? hR) col (List.mem_of_getElem? hRj)
    walk_at "s"
    refine w_ixG PA.g3 hN fun r hr Lr => ?_
    walk_at "s"
    refine w_ixN Lr hNj fun v dv => ?_
    cases dv
    walk_at "s"
    refine w_ixG PA.g1 hR fun r' hr' Lr' => ?_
    walk_at "s"
    refine w_ixN Lr' hRj fun u du => ?_
    walk_at "s"
    refine ⟨_, _, rfl, a2, pal, col, w, rfl, PA.g2, du, W.pl, cok, W.hw, W.l1, W.lp, fun H4 k4 => ?_⟩
    have PA4 := PA.kp k4 (fun z => z) fun _ _ z => z
    have hi4 := PA4.hi
    have L4 : LstD K H4 f ((told pal pic num (S.take i)).map chD) := (L2.kp k3 fun z => z).kp k4 fun z => z
    have k04 : Kp (· ∈ ptF a1 a2 a3 a4 rs ss G) H H4 := k03.tr0 k4
    walk_at "s"
    refine w_if (fun c1 => ?_) (fun c1 => ?_)
    · have z : ¬ n = near pal col := fun z => by simp [z] at c1
      walk_at "s"
      refine w_ixG PA4.g3 hN fun s' hs' Ls => ?_
      walk_at "s"
      have jl := (List.getElem?_eq_some_iff.mp hNj).1
      refine w_setLd Ls ⟨by omega, by rw [List.length_map]; omega⟩ (.int (near pal col)) fun H5 k5 L5 => ?_
      rw [Int.toNat_natCast, show (N.map PyData.int).set j' (PyData.int (near pal col)) = (N.set j' (near pal col)).map PyData.int from List.map_set.symm] at L5
      have PA5 := PA4.setNum hs' k5 L5
      have esc : setCell (anew pal pic (S.take i) num) ((k' : Int), (j' : Int)) (near pal col) = (anew pal pic (S.take i) num).set k' (N.set j' (near pal col)) := by
        unfold setCell
        simp [hN]
      have nfs' : f ≠ s' := fun z => nf (by rw [z]; simp [ptF, List.mem_of_getElem? hs'])
      have L5f := L4.kp k5 nfs'
      have k05 : Kp (· ∈ ptF a1 a2 a3 a4 rs ss G) H H5 := k04.tr' (k5.mono fun x e => .inl (by rw [e]; simp [ptF, List.mem_of_getElem? hs']))
      walk_at "s"
      intro t H6 f6 k6 h6
      have L6 := L5f.kp k6 fun z => z
      walk_at "s"
      have lt : (told pal pic num (S.take i)).length ≤ (S.take i).length := List.length_filterMap_le ..
      refine w_appendLd L6 (Dg.tupI (ns := [_, _, _, _]) (SqT.of h6)) (by rw [List.length_map, sizeLine_eq]; omega) fun H7 k7 L7 => ?_
      refine ⟨_, _, _, _, rfl, (k05.tr0 k6).own f1 k7, ?_, ?_⟩
      · rw [ea, esc]
        exact ⟨dx, a1, a2, a3, a4, rs, ss, G, vs, rfl, (PA5.kp k6 (fun z => z) fun _ _ z => z).kp k7 (fun z => nfp z.symm) fun x hx z => nf (z ▸ hx)⟩
      · rw [eto, if_neg z]
        simpa using L7
    · have z : n = near pal col := by
        by_cases z : n = near pal col
        · exact z
        · have : ¬ near pal col = n := fun q => z q.symm
          simp [this] at c1
      walk_at "s"
      refine ⟨_, _, _, _, rfl, k04, ?_, ?_⟩
      · rw [ea, setCell_self (by rw [cn, z])]
        exact ⟨dx, a1, a2, a3, a4, rs, ss, G, vs, rfl, PA4⟩
      · rw [eto, if_pos z]
        simpa using L4
  · rintro σ H2 ⟨b, c, d, e, rfl, k2, P2, L2⟩
    rw [hl, List.take_length] at P2 L2
    walk_at "s"
    exact q f H2 f1 k2 P2 L2
/-- one spot is set; where there is none: NoSpot -/
def sp_Painting_set_spot (K : PySem.W.Frag) (C CN : Addr) : Sp := fun vs H Q E => ∃ v0 v1 v2 v3, vs = [v0, v1, v2, v3] ∧ ∃ (p : Addr) (F : List Addr) (w : Int) (pic : List (List (List Int))) (pal : List (List Int)) (num : List (List Int)) (past : List Once) (k j : Int) (c : List Int) (R0 : List (List Int)), v0 = .ref p ∧ v1 = .int k ∧ v2 = .int j ∧ Pt K C H p F pic pal num past ∧
  pic[0]? = some R0 ∧ (∀ r ∈ pic, r.length = R0.length) ∧ Wd w pic pal ∧ ColOk w c ∧ Sh num pic ∧ past.length ≤ 1000 ∧ Dz K H v3 (colD c) ∧
  (¬ (0 ≤ k ∧ k < pic.length ∧ 0 ≤ j ∧ j < R0.length) → ∀ H', Kp no H H' → E (.ref CN) none H') ∧
  ((0 ≤ k ∧ k < pic.length ∧ 0 ≤ j ∧ j < R0.length) → ∀ f F' past' H', H f = none → f ∉ F' → Kp (· ∈ F) H H' → past'.length = past.length + 1 → Pt K C H' p F' (setCell pic (k, j) c) pal (anew pal (setCell pic (k, j) c) [(k, j)] num) past' → (∀ a ∈ F', a ∈ F ∨ H a = none) →
    LstD K H' f ((told pal (setCell pic (k, j) c) num [(k, j)]).map chD) → Q (.ref f) H')

theorem w_raiseO {C : Addr} {E : XK} {D : Ends} {σ : L2.St} {H : Hp} (q : E (.ref C) none H) : tRaiseO C E D σ H := q
theorem setCell_some {α : Type} {M : List (List α)} {s : Int × Int} {x : α} {r : List α} (e : M[s.1.toNat]? = some r) : setCell M s x = M.set s.1.toNat (r.set s.2.toNat x) := by
  unfold setCell
  simp [e]
theorem setCell_none {α : Type} {M : List (List α)} {s : Int × Int} {x : α} (e : M[s.1.toNat]? = none) : setCell M s x = M := by
  unfold setCell
  simp [e]
theorem setCell_mem {pic : List (List (List Int))} {k j : Int} {c : List Int} : ∀ r ∈ setCell pic (k, j) c, ∃ r0 ∈ pic, r.length = r0.length ∧ ∀ x ∈ r, x ∈ r0 ∨ x = c := fun r hr => by
  cases e : pic[k.toNat]? with
  | none =>
    rw [setCell_none e] at hr
    exact ⟨r, hr, rfl, fun x hx => .inl hx⟩
  | some r1 =>
    rw [setCell_some e] at hr
    rcases List.mem_or_eq_of_mem_set hr with h | h
    · exact ⟨r, h, rfl, fun x hx => .inl hx⟩
    · subst h
      exact ⟨r1, List.mem_of_getElem? e, List.length_set .., fun x hx => List.mem_or_eq_of_mem_set hx⟩
theorem Wd.setCell {w : Int} {pic : List (List (List Int))} {pal : List (List Int)} {c : List Int} {k j : Int} (W : Wd w pic pal) (h : ColOk w c) : Wd w (setCell pic (k, j) c) pal := by
  refine ⟨fun r hr x hx => ?_, W.pl, W.hw, W.l1, W.lp, ?_, fun r hr => ?_⟩
  · obtain ⟨r0, h1, _, h2⟩ := setCell_mem r hr
    rcases h2 x hx with h3 | h3
    · exact W.pc r0 h1 x h3
    · rw [h3]; exact h
  · rw [(sh_setCell pic (k, j) c).len]; exact W.lm
  · obtain ⟨r0, h1, e, _⟩ := setCell_mem r hr
    rw [e]; exact W.lr r0 h1
def rd_Painting_set_spot (K : PySem.W.Frag) (C_NoSpot : Addr) (C_Painting : Addr) (E : XK) : TS :=
 (tSeq (tIfS (tOr (tNot (tTest (tChain rLeI rLtI (tC (.int 0)) (tVar 1) (tCB (rLenQ K) (tCons (tFld K (tVar 0) "own_picture") tNil))))) (tNot (tTest (tChain rLeI rLtI (tC (.int 0)) (tVar 2) (tCB (rLenQ K) (tCons (tOp (rIxL K) (tFld K (tVar 0) "own_picture") (tC (.int 0))) tNil)))))) (tRaiseO C_NoSpot E) tNext)
 (tSeq (tDrop (tMeth C_Painting "keep_past" (sp_Painting_keep_past K C_Painting) [] E0 (tVar 0) (tCons (tC .non) tNil)))
 (tSeq (tAsg (tCB (rTupOf K) (tCons (tVar 3) tNil)) (gSub (tOp (rIxL K) (tFld K (tVar 0) "own_picture") (tVar 1)) (tVar 2) rSetL))
 (tRet (tMeth C_Painting "tell_anew" (sp_Painting_tell_anew K C_Painting) [] E0 (tVar 0) (tCons (tLst (tCons (tTup (tCons (tVar 1) (tCons (tVar 2) tNil))) tNil)) tNil))))))
theorem sm_Painting_set_spot {K : PySem.W.Frag} {C_NoSpot : Addr} {C_Painting : Addr} {vs : List V} {H : Hp} {Q : VK} {E : XK} (h : sp_Painting_set_spot K C_Painting C_NoSpot vs H Q E) : rd_Painting_set_spot K C_NoSpot C_Painting E { nx := fun _ H' => Q .non H', rt := Q } (start ["self", "row", "column", "colour"] vs) H := by
  obtain ⟨v0, v1, v2, v3, rfl, p, F, w, pic, pal, num, past, k, j, c, R0, rfl, rfl, rfl, P, hR0, sq, W, cc, sh, lpa, dc, qb, qg⟩ := h
  have P0 := P
  obtain ⟨dx, a1, a2, a3, a4, rs, ss, G, vs, eF, PA⟩ := P0
  have hi := PA.hi
  have pc := PA.pc
  show rd_Painting_set_spot K _ _ _ _ [some (.ref p), some (.int k), some (.int j), some v3] H
  unfold rd_Painting_set_spot
  walk_at "s"
  have hl1 := PA.g1.len
  rw [List.length_map] at hl1
  by_cases c1 : 0 ≤ k
  rotate_left
  · refine w_kchainF (decide_eq_false c1) ?_
    walk_at "s"
    exact w_raiseO (qb (by omega) H Kp.refl)
  refine w_kchainT (decide_eq_true c1) ?_
  walk_at "s"
  refine w_lenL (SqL.of PA.g1.at_) ?_
  walk_at "s"
  rw [List.length_map, hl1]
  by_cases c2 : k < pic.length
  rotate_left
  · rw [decide_eq_false c2]
    walk_at "s"
    exact w_raiseO (qb (by omega) H Kp.refl)
  rw [decide_eq_true c2]
  walk_at "s"
  by_cases c3 : 0 ≤ j
  rotate_left
  · refine w_kchainF (decide_eq_false c3) ?_
    walk_at "s"
    exact w_raiseO (qb (by omega) H Kp.refl)
  refine w_kchainT (decide_eq_true c3) ?_
  walk_at "s"
  refine w_ixG (k := 0) PA.g1 hR0 fun r0 hr0 L0 => ?_
  walk_at "s"
  rw [List.length_map]
  by_cases c4 : j < R0.length
  rotate_left
  · rw [decide_eq_false c4]
    walk_at "s"
    exact w_raiseO (qb (by omega) H Kp.refl)
  rw [decide_eq_true c4]
  walk_at "s"
  obtain ⟨k, rfl⟩ : ∃ m : Nat, k = m := ⟨k.toNat, by omega⟩
  obtain ⟨j, rfl⟩ : ∃ m : Nat, j = m := ⟨j.toNat, by omega⟩
  have lm := W.lm
  have ln := sh.len
  refine ⟨_, _, rfl, p, F, w, pic, pal, num, past, none, rfl, rfl, P, lm, by omega, lpa, fun F' H1 k1 P1 fr1 => ?_⟩
  have P1' := P1
  obtain ⟨dx', b1, b2, b3, b4, qs, us, G', vs', rfl, PA1⟩ := P1'
  obtain ⟨t, rfl, ht⟩ := dc.tupI_of
  have ht1 : SqT K H1 t (c.map V.int) := SqT.kp k1 ht
  have dc1 : Dz K H1 (.ref t) (colD c) := Dz.kp k1 dc
  have hi1 := PA1.hi
  walk_at "s"
  refine w_tupOfT ht1 ?_
  walk_at "s"
  have hk : k < pic.length := by omega
  refine w_ixG PA1.g1 (List.getElem?_eq_getElem hk) fun r1 hr1 Lr1 => ?_
  walk_at "s"
  have lk := sq pic[k] (List.getElem_mem hk)
  refine w_setLd Lr1 ⟨by omega, by rw [List.length_map]; omega⟩ dc1 fun H2 k2 L2 => ?_
  rw [Int.toNat_natCast, show (pic[k].map colD).set j (colD c) = (pic[k].set j c).map colD from List.map_set.symm] at L2
  have PA2 := PA1.setPic hr1 k2 L2
  have es : setCell pic ((k : Int), (j : Int)) c = pic.set k (pic[k].set j c) := setCell_some (s := ((k : Int), (j : Int))) (List.getElem?_eq_getElem hk)
  rw [← es] at PA2
  have hi2 := PA2.hi
  have k02 : Kp (· ∈ F) H H2 := by
    refine k1.tr (k2.mono (N := fun x => x ∈ ptF b1 b2 b3 b4 qs us G') fun x e => .inl (by rw [e]; simp [ptF, List.mem_of_getElem? hr1])) fun x e => ?_
    exact fr1 x e
  have P2 : Pt K C_Painting H2 p (ptF b1 b2 b3 b4 qs us G') (setCell pic ((k : Int), (j : Int)) c) pal num _ := ⟨dx', b1, b2, b3, b4, qs, us, G', vs', rfl, PA2⟩
  walk_at "s"
  intro u H3 f3 k3 h3
  walk_at "s"
  intro z H4 f4 k4 h4
  have P4 := (P2.kp0 k3).kp0 k4
  have nz := (P2.kp0 k3).free f4
  have k04 : Kp (· ∈ F) H H4 := (k02.tr0 k3).tr0 k4
  have W' := W.setCell (k := (k : Int)) (j := (j : Int)) cc
  have hs : ((k : Int), (j : Int)) ∈ spots (setCell pic ((k : Int), (j : Int)) c) := by
    rw [(sh_setCell pic ((k : Int), (j : Int)) c).spots]
    exact mem_spots.mpr ⟨k, j, pic[k], pic[k][j]'(by omega), rfl, List.getElem?_eq_getElem hk, List.getElem?_eq_getElem _⟩
  have dz : Dz K H4 (.ref u) (prD ((k : Int), (j : Int))) := Dz.kp k4 (Dg.tupI (ns := [_, _]) (SqT.of h3))
  refine ⟨_, _, rfl, p, z, _, w, setCell pic ((k : Int), (j : Int)) c, pal, num, _, [((k : Int), (j : Int))], rfl, rfl, P4, W', sh.trans (sh_setCell pic ((k : Int), (j : Int)) c).symm, ⟨_, h4, .cons dz .nil⟩, nz.1, fun s hs' => ?_, by simp, by simp, fun f H5 f5 k5 P5 L5 => ?_⟩
  · rw [List.mem_singleton.mp hs']; exact hs
  · refine qg ⟨by omega, by omega, by omega, by omega⟩ f _ _ H5 ?_ (P4.free f5).1 (k04.tr k5 fun x e => fr1 x e) (by simp) P5 fr1 L5
    exact k04.free f5

/-! ### palettes and pictures that are drawn -/
theorem ok_pal {n : Nat} {w : Int} {cs : List (List Int)} (h : ∀ c ∈ cs, ColOk w c) (hw : w ≤ 100) (l : cs.length ≤ 100000) : Ok (n + 3) (palD cs) := by
  refine .lst (by rw [List.length_map]; exact l) fun d hd => ?_
  obtain ⟨c, hc, rfl⟩ := List.mem_map.mp hd
  exact .col (by have := (h c hc).1; omega)
def rd_law_palette (K : PySem.W.Frag) : TS :=
 (tSeq (tAsg (tOp (rIxL K) (tLst (tCons (tC (.int 1)) (tCons (tC (.int 2)) (tCons (tC (.int 3)) (tCons (tC (.int 4)) (tCons (tC (.int 5)) (tCons (tC (.int 7)) (tCons (tC (.int 9)) (tCons (tOp rAddI (tC (.int 10)) (tCall (sp_law_pick K) [] E0 (tCons (tVar 0) (tCons (tC (.int 31)) tNil)))) tNil))))))))) (tCall (sp_law_pick K) [] E0 (tCons (tVar 0) (tCons (tC (.int 8)) tNil)))) (gName 2))
 (tSeq (tAsg (tLst tNil) (gName 3))
 (tSeq (tFor (iRng1 (tCons (tVar 2) tNil)) (gName 4) (tSeq (tAsg (tCall (sp_law_colour K) [] E0 (tCons (tVar 0) (tCons (tVar 1) tNil))) (gName 5))
 (Evl.tCut (tIfS (tAnd (tTest (tOp (rNeD K) (tVar 3) (tLst tNil))) (tTest (tOp rEq (tCall (sp_law_pick K) [] E0 (tCons (tVar 0) (tCons (tC (.int 6)) tNil))) (tC (.int 0))))) (tAsg (tOp (rIxL K) (tVar 3) (tCall (sp_law_pick K) [] E0 (tCons (tVar 0) (tCons (tCB (rLenQ K) (tCons (tVar 3) tNil)) tNil)))) (gName 5)) tNext)
 (tDrop (tBM K "list" rAppend (tVar 3) (tCons (tVar 5) tNil))))))
 (tRet (tVar 3)))))
def sp_law_palette (K : PySem.W.Frag) : Sp := fun vs H Q _ => ∃ v0 v1, vs = [v0, v1] ∧ ∃ (l : Addr) (n : Nat) (wide span : Int), v0 = .ref l ∧ Rand H l n ∧ n < 2147400000 ∧ KindD K H v1 wide span ∧ 1 ≤ wide ∧ wide ≤ 5 ∧ 3 ≤ span ∧ span ≤ 1000 ∧
  ∀ (p : Addr) (cs : List (List Int)) (H' : Hp), H p = none → 1 ≤ cs.length → cs.length ≤ 40 → (∀ c ∈ cs, ColOk wide c) → LstD K H' p (cs.map colD) → Kp (at1 l) H H' → Rand H' l (n + 600) → Q (.ref p) H'
theorem sm_law_palette {K : PySem.W.Frag} {vs : List V} {H : Hp} {Q : VK} {E : XK} (h : sp_law_palette K vs H Q E) : rd_law_palette K { nx := fun _ H' => Q .non H', rt := Q } (start ["left", "kind", "many", "found", "k", "colour"] vs) H := by
  obtain ⟨v0, v1, rfl, l, n, wide, span, rfl, R, hn, hk, w1, w5, s3, s1000, q⟩ := h
  show rd_law_palette K _ [some (.ref l), some v1, none, none, none, none] H
  unfold rd_law_palette
  walk_at "s"
  refine ⟨_, _, rfl, l, n, 31, rfl, rfl, by walk_at "rand", by omega, by omega, by omega, fun r H1 r0 r1 k1 R1 => ?_⟩
  walk_at "s"
  intro m H2 f2 k2 h2
  have nm : m ≠ l := R1.ne f2
  walk_at "s"
  refine ⟨_, _, rfl, l, n + 1, 8, rfl, rfl, by walk_at "rand", by omega, by omega, by omega, fun r' H3 r0' r1' k3 R3 => ?_⟩
  obtain ⟨z, e, z0, z1⟩ := ixI (P := fun z => 1 ≤ z ∧ z ≤ 40) (xs := [V.int 1, .int 2, .int 3, .int 4, .int 5, .int 7, .int 9, .int (10 + r)]) r0' r1' (by
    intro x hx
    simp only [List.mem_cons, List.not_mem_nil, or_false] at hx
    rcases hx with rfl | rfl | rfl | rfl | rfl | rfl | rfl | rfl <;> exact ⟨_, rfl, by omega, by omega⟩)
  have k02 : Kp (at1 l) H H2 := k1.tr0 k2
  have k03 : Kp (at1 l) H H3 := k02.tr' k3
  refine w_ixL (SqL.of (k3.at nm h2)) e ?_
  walk_at "s"
  intro f H4 f4 k4 h4
  have nf : f ≠ l := R3.ne f4
  have k04 : Kp (at1 l) H H4 := k03.tr0 k4
  have f0 : H f = none := k03.free f4
  have hk4 : KindD K H4 v1 wide span := Dz.kp k04 hk
  walk_at "s"
  refine w_forG wk_rng (fun i σ H' => ∃ (cs : List (List Int)) (a b : Option V), σ = [some (.ref l), some v1, some (.int z), some (.ref f), a, b] ∧ Kp (at1 l) H H' ∧ Rand H' l (n + 2 + 12 * i) ∧ cs.length = i ∧ (∀ c ∈ cs, ColOk wide c) ∧ LstD K H' f (cs.map colD))
    ⟨[], none, none, rfl, k04, R3.kp k4 (fun z => z), rfl, by simp, _, h4, .nil⟩ (fun _ _ _ _ _ => trivial) ?_ ?_
  · rintro i x σ H3 H4 hi ⟨cs, a, b, rfl, k3, R3, rfl, hcs, L3⟩ k4 rfl
    walk_at "s"
    refine ⟨_, _, rfl, l, n + 2 + 12 * cs.length, wide, span, rfl, by walk_at "rand", by omega, Dz.kp (k3.tr0 k4) hk, w1, w5, s3, s1000, fun v c H5 hc dc k5 R5 => ?_⟩
    walk_at "s"
    refine w_cut (fun σ' H' => ∃ (v : V) (c : List Int) (a : Option V), σ' = [some (.ref l), some v1, some (.int z), some (.ref f), a, some v] ∧ ColOk wide c ∧ Dz K H' v (colD c) ∧ Kp (at1 l) H H' ∧ Rand H' l (n + 2 + 12 * (cs.length + 1)) ∧ LstD K H' f (cs.map colD)) ?_ ?_
    · walk_at "s"
      intro e H6 f6 k6 h6
      have ne : e ≠ l := R5.ne f6
      have keep : ∃ (v' : V) (c : List Int) (a' : Option V), [some (.ref l), some v1, some (.int z), some (.ref f), some (.int (0 + (cs.length : Nat))), some v] = [some (.ref l), some v1, some (.int z), some (.ref f), a', some v'] ∧ ColOk wide c ∧ Dz K H6 v' (colD c) ∧ Kp (at1 l) H H6 ∧ Rand H6 l (n + 2 + 12 * (cs.length + 1)) ∧ LstD K H6 f (cs.map colD) :=
        ⟨v, c, _, rfl, hc, by walk_at "dz", by walk_at "kp", (show Rand H6 l _ by walk_at "rand").mono (by omega), by walk_at "ld"⟩
      refine w_neE (by walk_at "ld") ((ok_pal (n := 3) hcs (by omega) (by omega)).shaped (by decide)) h6 ?_
      walk_at "s"
      refine w_if (fun b1 => ?_) (fun _ => ?_)
      · walk_at "s"
        refine ⟨_, _, rfl, l, n + 2 + 12 * cs.length + 10, 6, rfl, rfl, by walk_at "rand", by omega, by omega, by omega, fun r' H7 r0' r1' k7 R7 => ?_⟩
        walk_at "s"
        refine w_if (fun _ => ?_) (fun _ => ?_)
        · walk_at "s"
          have pos : 0 < cs.length := by
            cases cs with
            | nil => cases b1
            | cons => simp
          refine ⟨_, _, rfl, l, n + 2 + 12 * cs.length + 11, _, rfl, rfl, by walk_at "rand", by omega, by rw [List.length_map]; omega, by rw [List.length_map]; omega, fun r' H8 r0' r1' k8 R8 => ?_⟩
          rw [List.length_map] at r1'
          refine w_ixR (by walk_at "ld") ⟨r0', r1'⟩ fun v' c' _ hm dv => ?_
          walk_at "s"
          exact ⟨v', c', _, rfl, hcs c' hm, dv, by walk_at "kp", (show Rand H8 l _ by walk_at "rand").mono (by omega), by walk_at "ld"⟩
        · walk_at "s"
          exact ⟨v, c, _, rfl, hc, by walk_at "dz", by walk_at "kp", (show Rand H7 l _ by walk_at "rand").mono (by omega), by walk_at "ld"⟩
      · walk_at "s"
        exact keep
    · rintro σ' H' ⟨v, c, a, rfl, hc, dc, k9, R9, L9⟩
      walk_at "s"
      refine w_appendLd L9 dc (by rw [List.length_map, sizeLine_eq]; omega) fun H10 k10 L10 => ?_
      walk_at "s"
      refine ⟨cs ++ [c], _, _, rfl, k9.own f0 k10, by walk_at "rand", by simp, ?_, by simpa using L10⟩
      intro c' hc'
      rcases List.mem_append.mp hc' with h | h
      · exact hcs c' h
      · rw [List.mem_singleton.mp h]; exact hc
  · rintro σ H' ⟨cs, a, b, rfl, k3, R3, hl, hcs, L3⟩
    walk_at "s"
    exact q f cs H' f0 (by omega) (by omega) hcs L3 k3 (R3.mono (by omega))

theorem Grid.snoc {K : PySem.W.Frag} {H H' : Hp} {f s : Addr} {rs : List Addr} {rows : List (List PyData)} {row : List PyData} (g : Grid K H f rs rows) (L : LstD K H s row) (nd : (f :: rs).Nodup) (ns : s ≠ f) (k : Kp (at1 f) H H') (e : H' f = some (.lst (rs.map V.ref ++ [.ref s]))) : Grid K H' f (rs ++ [s]) (rows ++ [row]) := by
  refine ⟨by rw [e, List.map_append]; rfl, by rw [List.length_append, List.length_append, g.len]; rfl, fun i r ds e1 e2 => ?_⟩
  have hl := g.len
  by_cases hi : i < rs.length
  · rw [List.getElem?_append_left hi] at e1
    rw [List.getElem?_append_left (by omega)] at e2
    exact (g.row i r ds e1 e2).kp k fun z => (List.nodup_cons.mp nd).1 (by rw [← (show r = f from z)]; exact List.mem_of_getElem? e1)
  · rw [List.getElem?_append_right (by omega)] at e1 e2
    have e0 : i - rs.length = 0 := by
      cases h : i - rs.length with
      | zero => rfl
      | succ m => rw [h] at e1; simp at e1
    rw [e0] at e1
    rw [show i - rows.length = 0 by omega] at e2
    simp at e1 e2
    subst e1 e2
    exact L.kp k ns
theorem ixS {x y : V} {b : Bool} : ∃ z, atI [x, y] (if b = true then 1 else 0) = some z ∧ (z = x ∨ z = y) := by
  cases b
  · exact ⟨x, rfl, .inl rfl⟩
  · exact ⟨y, rfl, .inr rfl⟩
def rd_law_picture (K : PySem.W.Frag) : TS :=
 (tSeq (tAsg (tLc (iRng1 (tCons (tC (.int 2)) tNil)) (gName 10) tYes (tOp (rIxL K) (tLst (tCons (tOp rAddI (tC (.int 1)) (tCall (sp_law_pick K) [] E0 (tCons (tVar 0) (tCons (tC (.int 6)) tNil)))) (tCons (tOp rAddI (tC (.int 1)) (tCall (sp_law_pick K) [] E0 (tCons (tVar 0) (tCons (tC (.int 16)) tNil)))) tNil))) (tCB rInt1 (tCons (tOp rEq (tCall (sp_law_pick K) [] E0 (tCons (tVar 0) (tCons (tC (.int 8)) tNil))) (tC (.int 0))) tNil))) [10]) (gLst K 2 (gCons (gName 2) (gCons (gName 3) gNil))))
 (tSeq (tAsg (tLc (iRng1 (tCons (tOp rAddI (tC (.int 1)) (tCall (sp_law_pick K) [] E0 (tCons (tVar 0) (tCons (tC (.int 8)) tNil)))) tNil)) (gName 11) tYes (tCall (sp_law_colour K) [] E0 (tCons (tVar 0) (tCons (tVar 1) tNil))) [11]) (gName 4))
 (tSeq (tAsg (tLst tNil) (gName 5))
 (tSeq (tFor (iRng1 (tCons (tVar 2) tNil)) (gName 6) (tSeq (tAsg (tLst tNil) (gName 7))
 (tSeq (tFor (iRng1 (tCons (tVar 3) tNil)) (gName 8) (tSeq (tAsg (tOp (rIxL K) (tVar 4) (tCall (sp_law_pick K) [] E0 (tCons (tVar 0) (tCons (tCB (rLenQ K) (tCons (tVar 4) tNil)) tNil)))) (gName 9))
 (Evl.tCut (tIfS (tTest (tOp rEq (tCall (sp_law_pick K) [] E0 (tCons (tVar 0) (tCons (tC (.int 4)) tNil))) (tC (.int 0)))) (tAsg (tCall (sp_law_colour K) [] E0 (tCons (tVar 0) (tCons (tVar 1) tNil))) (gName 9)) tNext)
 (tDrop (tBM K "list" rAppend (tVar 7) (tCons (tVar 9) tNil))))))
 (tDrop (tBM K "list" rAppend (tVar 5) (tCons (tVar 7) tNil))))))
 (tRet (tVar 5))))))
def PicOk (w : Int) (pic : List (List (List Int))) : Prop := 1 ≤ pic.length ∧ pic.length ≤ 16 ∧ ∃ m : Nat, 1 ≤ m ∧ m ≤ 16 ∧ ∀ r ∈ pic, r.length = m ∧ ∀ c ∈ r, ColOk w c
def sp_law_picture (K : PySem.W.Frag) : Sp := fun vs H Q _ => ∃ v0 v1, vs = [v0, v1] ∧ ∃ (l : Addr) (n : Nat) (wide span : Int), v0 = .ref l ∧ Rand H l n ∧ n < 2147400000 ∧ KindD K H v1 wide span ∧ 1 ≤ wide ∧ wide ≤ 5 ∧ 3 ≤ span ∧ span ≤ 1000 ∧
  ∀ (p : Addr) (rs : List Addr) (pic : List (List (List Int))) (H' : Hp), H p = none → (∀ r ∈ rs, H r = none) → (p :: rs).Nodup → PicOk wide pic → Grid K H' p rs (picR pic) → Kp (at1 l) H H' → Rand H' l (n + 4000) → Q (.ref p) H'
theorem sm_law_picture {K : PySem.W.Frag} {vs : List V} {H : Hp} {Q : VK} {E : XK} (h : sp_law_picture K vs H Q E) : rd_law_picture K { nx := fun _ H' => Q .non H', rt := Q } (start ["left", "kind", "high", "wide", "some", "found", "row", "spots", "column", "colour", "side", "k"] vs) H := by
  obtain ⟨v0, v1, rfl, l, n, wide, span, rfl, R, hn, hk, w1, w5, s3, s1000, q⟩ := h
  show rd_law_picture K _ [some (.ref l), some v1, none, none, none, none, none, none, none, none, none, none] H
  unfold rd_law_picture
  walk_at "s"
  refine w_lcGD wk_rng (fun D i acc H' => ∃ zs : List Int, acc = zs.map V.int ∧ zs.length = i ∧ (∀ z ∈ zs, 1 ≤ z ∧ z ≤ 16) ∧ Kp (at1 l) H H' ∧ Rand H' l (n + 3 * i)) (fun D H' _ k => ⟨[], rfl, rfl, by simp, k.of0, by walk_at "rand"⟩) (fun _ _ _ _ _ _ _ => trivial) ?_ ?_
  · rintro i x acc D H2 H3 hi hD ha ⟨zs, rfl, rfl, hz, k2, R2⟩ k3 rfl
    have R3 : Rand H3 l (n + 3 * zs.length) := by walk_at "rand"
    have hi' : zs.length < 2 := hi
    walk_at "s"
    refine ⟨rfl, ?_⟩
    walk_at "s"
    refine ⟨_, _, rfl, l, n + 3 * zs.length, 6, rfl, rfl, R3, by omega, by omega, by omega, fun r H4 r0 r1 k4 R4 => ?_⟩
    walk_at "s"
    refine ⟨_, _, rfl, l, n + 3 * zs.length + 1, 16, rfl, rfl, R4, by omega, by omega, by omega, fun r' H5 r0' r1' k5 R5 => ?_⟩
    walk_at "s"
    intro m H6 f6 k6 h6
    have nm : m ≠ l := R5.ne f6
    walk_at "s"
    refine ⟨_, _, rfl, l, n + 3 * zs.length + 2, 8, rfl, rfl, by walk_at "rand", by omega, by omega, by omega, fun t H7 t0 t1 k7 R7 => ?_⟩
    walk_at "s"
    obtain ⟨v, ev, hv⟩ := ixS (x := V.int (1 + r)) (y := V.int (1 + r')) (b := decide (t = 0))
    refine w_ixL (SqL.of (k7.at nm h6)) ev ?_
    obtain ⟨z, rfl, z0, z1⟩ : ∃ z, v = V.int z ∧ 1 ≤ z ∧ z ≤ 16 := by
      rcases hv with rfl | rfl
      · exact ⟨_, rfl, by omega, by omega⟩
      · exact ⟨_, rfl, by omega, by omega⟩
    have nD : D ≠ l := R.ne hD
    have k23 : Kp (at1 l) H2 H7 := ((((k3.of0).tr' k4).tr' k5).tr0 k6).tr' k7
    have hD7 : H7 D = some (.lst (zs.map V.int)) := k23.at nD ha
    refine w_keltD hD7 (by rw [List.length_map, sizeLine_eq]; omega) fun H8 k8 => ⟨zs ++ [z], by simp, by simp, ?_, (k2.tr' k23).own hD k8, R7.kp k8 fun e => nD e.symm⟩
    intro y hy
    rcases List.mem_append.mp hy with h | h
    · exact hz y h
    · rw [List.mem_singleton.mp h]; exact ⟨z0, z1⟩
  rintro acc D H1 hD ha ⟨zs, rfl, hzl, hz, k1, R1⟩
  match zs, hzl with
  | [high, wd], _ =>
  obtain ⟨h0, h1⟩ := hz high (by simp)
  obtain ⟨d0, d1⟩ := hz wd (by simp)
  have nD : D ≠ l := R.ne hD
  walk_at "s"
  refine ⟨D, [.int high, .int wd], rfl, SqL.of ha, rfl, ?_⟩
  walk_at "s"
  refine ⟨_, _, rfl, l, n + 6, 8, rfl, rfl, R1, by omega, by omega, by omega, fun r H2 r0 r1 k2 R2 => ?_⟩
  have k02 : Kp (at1 l) H H2 := k1.tr' k2
  walk_at "s"
  refine w_lcGD wk_rng (fun D i acc H' => ∃ cs : List (List Int), DA no K H' acc (cs.map colD) ∧ cs.length = i ∧ (∀ c ∈ cs, ColOk wide c) ∧ Kp (at1 l) H H' ∧ Rand H' l (n + 7 + 10 * i)) (fun D H' _ k => ⟨[], .nil, rfl, by simp, k02.tr0 k, R2.kp k fun z => z⟩) (fun _ _ _ _ _ _ _ => trivial) ?_ ?_
  · rintro i x acc D' H3 H4 hi hD' ha' ⟨cs, hcs, rfl, hc, k3, R3⟩ k4 rfl
    have hi' : cs.length < 8 := by omega
    have k04 : Kp (at1 l) H H4 := k3.tr0 k4
    walk_at "s"
    refine ⟨rfl, ?_⟩
    walk_at "s"
    refine ⟨_, _, rfl, l, n + 7 + 10 * cs.length, wide, span, rfl, R3.kp k4 (fun z => z), by omega, Dz.kp k04 hk, w1, w5, s3, s1000, fun v c H5 hcc dc k5 R5 => ?_⟩
    have nD' : D' ≠ l := R2.ne hD'
    have h5 : H5 D' = some (.lst acc) := k5.at nD' (k4.at (fun z => z) ha')
    refine w_keltD h5 (by rw [hcs.len, List.length_map, sizeLine_eq]; omega) fun H6 k6 => ⟨cs ++ [c], ?_, by simp, ?_, (k04.tr' k5).own (k02.free hD') k6, (R5.kp k6 fun e => nD' e.symm).mono (by omega)⟩
    · rw [List.map_append]
      exact ((DAz.kp k6 (DAz.kp k5 (DAz.kp k4 hcs)))).app (.one (Dz.kp k6 dc))
    · intro y hy
      rcases List.mem_append.mp hy with h | h
      · exact hc y h
      · rw [List.mem_singleton.mp h]; exact hcc
  rintro acc' sm H3 hsm ha3 ⟨some_, hda, hsl, hsc, k3, R3⟩
  have Ls : LstD K H3 sm (some_.map colD) := ⟨acc', ha3, hda⟩
  have nsm : sm ≠ l := R2.ne hsm
  have sl : 1 ≤ some_.length ∧ some_.length ≤ 8 := by omega
  clear hda ha3
  walk_at "s"
  intro f H4 f4 k4 h4
  have nf : f ≠ l := R3.ne f4
  have nfs : f ≠ sm := Ls.ne f4
  have k04 : Kp (at1 l) H H4 := k3.tr0 k4
  have f0 : H f = none := k3.free f4
  have Ls4 := Ls.kp k4 fun z => z
  have sm0 : H sm = none := k02.free hsm
  walk_at "s"
  refine w_forG wk_rng (fun i σ H' => ∃ (a b c d e : Option V) (rs : List Addr) (pic : List (List (List Int))), σ = [some (.ref l), some v1, some (.int high), some (.int wd), some (.ref sm), some (.ref f), a, b, c, d, none, none] ∧ Kp (at1 l) H H' ∧ Rand H' l (n + 100 + 200 * i) ∧ LstD K H' sm (some_.map colD) ∧
      Grid K H' f rs (picR pic) ∧ (f :: rs).Nodup ∧ (∀ r ∈ rs, H r = none) ∧ pic.length = i ∧ ∀ r ∈ pic, r.length = wd.toNat ∧ ∀ c ∈ r, ColOk wide c)
    ⟨none, none, none, none, none, [], [], rfl, k04, (R3.kp k4 fun z => z).mono (by omega), Ls4, ⟨h4, rfl, fun i r ds e => by simp at e⟩, by simp, by simp, rfl, by simp⟩ (fun _ _ _ _ _ => trivial) ?_ ?_
  · rintro i x σ H5 H6 hi ⟨_, _, _, _, _, rs, pic, rfl, k5, R5, L5, g5, nd5, fr5, rfl, hp5⟩ k6 rfl
    have R6 := R5.kp k6 fun z => z
    have L6 := L5.kp k6 fun z => z
    have g6 := g5.kp k6 (fun z => z) fun _ _ z => z
    have k06 : Kp (at1 l) H H6 := k5.tr0 k6
    have hi' : pic.length < 16 := by omega
    have nl : l ≠ f ∧ l ∉ rs := ⟨nf.symm, fun hl => R.ne (fr5 l hl) rfl⟩
    walk_at "s"
    intro s H7 f7 k7 h7
    have R7 := R6.kp k7 fun z => z
    have L7 := L6.kp k7 fun z => z
    have g7 := g6.kp k7 (fun z => z) fun _ _ z => z
    have ns1 : s ≠ l := R6.ne f7
    have ns2 : s ≠ sm := L6.ne f7
    have ns3 := g6.ne f7
    have s0 : H s = none := k06.free f7
    have k07 : Kp (at1 l) H H7 := k06.tr0 k7
    walk_at "s"
    refine w_forG wk_rng (fun j σ H' => ∃ (a b : Option V) (cs : List (List Int)), σ = [some (.ref l), some v1, some (.int high), some (.int wd), some (.ref sm), some (.ref f), some (.int (0 + (pic.length : Nat))), some (.ref s), a, b, none, none] ∧ Kp (at1 l) H H' ∧ Rand H' l (n + 100 + 200 * pic.length + 12 * j) ∧ LstD K H' sm (some_.map colD) ∧
        Grid K H' f rs (picR pic) ∧ LstD K H' s (cs.map colD) ∧ cs.length = j ∧ ∀ c ∈ cs, ColOk wide c)
      ⟨_, _, [], rfl, k07, R7, L7, g7, ⟨_, h7, .nil⟩, rfl, by simp⟩ (fun _ _ _ _ _ => trivial) ?_ ?_
    · rintro j x σ H8 H9 hj ⟨_, _, cs, rfl, k8, R8, L8, g8, C8, rfl, hc8⟩ k9 rfl
      have R9 := R8.kp k9 fun z => z
      have L9 := L8.kp k9 fun z => z
      have g9 := g8.kp k9 (fun z => z) fun _ _ z => z
      have C9 := C8.kp k9 fun z => z
      have k09 : Kp (at1 l) H H9 := k8.tr0 k9
      have hj' : cs.length < 16 := by omega
      walk_at "s"
      refine ⟨_, _, rfl, l, n + 100 + 200 * pic.length + 12 * cs.length, _, rfl, rfl, R9, by omega, by rw [List.length_map]; omega, by rw [List.length_map]; omega, fun r' H10 r0' r1' k10 R10 => ?_⟩
      rw [List.length_map] at r1'
      have L10 := L9.kp k10 nsm
      have g10 := g9.kp k10 (fun z => nl.1 z.symm) fun r hr z => nl.2 (z ▸ hr)
      have C10 := C9.kp k10 ns1
      have k010 : Kp (at1 l) H H10 := k09.tr' k10
      refine w_ixR L10 ⟨r0', r1'⟩ fun v c _ hm dv => ?_
      have cok := hsc c hm
      walk_at "s"
      refine w_cut (fun σ' H' => ∃ (a : Option V) (v : V) (c : List Int), σ' = [some (.ref l), some v1, some (.int high), some (.int wd), some (.ref sm), some (.ref f), some (.int (0 + (pic.length : Nat))), some (.ref s), a, some v, none, none] ∧ ColOk wide c ∧ Dz K H' v (colD c) ∧ Kp (at1 l) H H' ∧ Rand H' l (n + 100 + 200 * pic.length + 12 * (cs.length + 1)) ∧ LstD K H' sm (some_.map colD) ∧
        Grid K H' f rs (picR pic) ∧ LstD K H' s (cs.map colD)) ?_ ?_
      · walk_at "s"
        refine ⟨_, _, rfl, l, n + 100 + 200 * pic.length + 12 * cs.length + 1, 4, rfl, rfl, R10, by omega, by omega, by omega, fun t H11 t0 t1 k11 R11 => ?_⟩
        have L11 := L10.kp k11 nsm
        have g11 := g10.kp k11 (fun z => nl.1 z.symm) fun r hr z => nl.2 (z ▸ hr)
        have C11 := C10.kp k11 ns1
        have k011 : Kp (at1 l) H H11 := k010.tr' k11
        walk_at "s"
        refine w_if (fun _ => ?_) (fun _ => ?_)
        · walk_at "s"
          refine ⟨_, _, rfl, l, n + 100 + 200 * pic.length + 12 * cs.length + 2, wide, span, rfl, R11, by omega, Dz.kp k011 hk, w1, w5, s3, s1000, fun v' c' H12 hcc dc k12 R12 => ?_⟩
          walk_at "s"
          exact ⟨_, v', c', rfl, hcc, dc, k011.tr' k12, R12, L11.kp k12 nsm, g11.kp k12 (fun z => nl.1 z.symm) fun r hr z => nl.2 (z ▸ hr), C11.kp k12 ns1⟩
        · walk_at "s"
          exact ⟨_, v, c, rfl, cok, Dz.kp k11 dv, k011, R11.mono (by omega), L11, g11, C11⟩
      · rintro σ' H11 ⟨_, v, c, rfl, cok, dv, k011, R11, L11, g11, C11⟩
        walk_at "s"
        refine w_appendLd C11 dv (by rw [List.length_map, sizeLine_eq]; omega) fun H12 k12 C12 => ?_
        walk_at "s"
        refine ⟨_, _, cs ++ [c], rfl, k011.own s0 k12, R11.kp k12 ns1.symm, L11.kp k12 ns2.symm, g11.kp k12 (fun z => ns3.1 z.symm) fun r hr z => ns3.2 (z ▸ hr), by simpa using C12, by simp, ?_⟩
        intro y hy
        rcases List.mem_append.mp hy with h | h
        · exact hc8 y h
        · rw [List.mem_singleton.mp h]; exact cok
    · rintro σ H8 ⟨_, _, cs, rfl, k8, R8, L8, g8, C8, hl8, hc8⟩
      walk_at "s"
      refine w_kbmL (SqL.of g8.at_) ?_
      walk_at "s"
      refine w_append g8.at_ (by rw [List.length_map, g8.len, List.length_map, sizeLine_eq]; omega) fun H9 k9 h9 => ?_
      walk_at "s"
      refine ⟨_, _, _, _, none, rs ++ [s], pic ++ [cs], rfl, k8.own f0 k9, (R8.kp k9 nf.symm).mono (by omega), L8.kp k9 nfs.symm, ?_, ?_, ?_, by simp, ?_⟩
      · have := g8.snoc C8 nd5 ns3.1 k9 h9
        rw [show picR (pic ++ [cs]) = picR pic ++ [cs.map colD] from by simp [picR]]
        exact this
      · simp only [List.nodup_cons, List.nodup_append, List.mem_append, List.mem_cons, List.not_mem_nil] at nd5 ⊢
        grind
      · intro r hr
        rcases List.mem_append.mp hr with h | h
        · exact fr5 r h
        · rw [List.mem_singleton.mp h]; exact s0
      · intro r hr
        rcases List.mem_append.mp hr with h | h
        · exact hp5 r h
        · rw [List.mem_singleton.mp h]; exact ⟨hl8, hc8⟩
  · rintro σ H5 ⟨_, _, _, _, _, rs, pic, rfl, k5, R5, L5, g5, nd5, fr5, hpl, hp5⟩
    walk_at "s"
    exact q f rs pic H5 f0 fr5 nd5 ⟨by omega, by omega, wd.toNat, by omega, by omega, hp5⟩ g5 k5 (R5.mono (by omega))

/-! ### the law's own dict -/
abbrev ownK (v1 v2 : V) : List (Key × V) := [(.inr "picture", v1), (.inr "palette", v2)]
theorem kne : ¬ ((.inr "picture" : Key) = .inr "palette") := by decide +kernel
structure OnAt (K : PySem.W.Frag) (H : Hp) (o a b : Addr) (rs : List Addr) (pic : List (List (List Int))) (pal : List (List Int)) : Prop where
  h : H o = some (.dK (ownK (.ref a) (.ref b)))
  g : Grid K H a rs (picR pic)
  l : LstD K H b (pal.map colD)
  nd : (a :: b :: rs).Nodup
def On (K : PySem.W.Frag) (H : Hp) (o : Addr) (F : List Addr) (pic : List (List (List Int))) (pal : List (List Int)) : Prop := ∃ a b rs, F = a :: b :: rs ∧ OnAt K H o a b rs pic pal
section
variable {K : PySem.W.Frag} {σ : L2.St} {H H' : Hp} {Q : VK} {M : Addr → Prop} {o a b p : Addr} {rs F : List Addr} {pic : List (List (List Int))} {pal : List (List Int)} {v1 v2 : V}
theorem w_kd1 (h : H o = some (.dK (ownK v1 v2))) (q : Q v1 H) : kDGet Q (.ref o) (.str "picture") H := w_kdget h (valV_pos rfl) q
theorem w_kd2 (h : H o = some (.dK (ownK v1 v2))) (q : Q v2 H) : kDGet Q (.ref o) (.str "palette") H := w_kdget h (by rw [valV_neg kne]; exact valV_pos rfl) q
theorem On.there (h : On K H o F pic pal) : ∀ x ∈ F, ∃ xs, H x = some (.lst xs) := by
  obtain ⟨a, b, rs, rfl, h⟩ := h
  intro x hx
  simp only [List.mem_cons] at hx
  rcases hx with rfl | rfl | hx
  · exact ⟨_, h.g.at_⟩
  · exact h.l.there
  · exact h.g.there x hx
theorem On.dict (h : On K H o F pic pal) : ∃ kvs, H o = some (.dK kvs) := by
  obtain ⟨a, b, rs, rfl, h⟩ := h
  exact ⟨_, h.h⟩
theorem On.not (h : On K H o F pic pal) : o ∉ F := fun hp => by
  obtain ⟨xs, e⟩ := h.there o hp
  obtain ⟨kvs, e'⟩ := h.dict
  rw [e] at e'; cases e'
theorem On.free (h : On K H o F pic pal) {x : Addr} (e : H x = none) : x ∉ F ∧ x ≠ o := by
  refine ⟨fun ha => ?_, fun z => ?_⟩
  · obtain ⟨xs, e'⟩ := h.there x ha
    rw [e] at e'; cases e'
  · obtain ⟨kvs, e'⟩ := h.dict
    rw [← z, e] at e'; cases e'
theorem OnAt.kp (k : Kp M H H') (mo : ¬ M o) (m : ∀ x ∈ a :: b :: rs, ¬ M x) (h : OnAt K H o a b rs pic pal) : OnAt K H' o a b rs pic pal :=
  ⟨k.at mo h.h, h.g.kp k (m a (by simp)) fun r hr => m r (by simp [hr]), h.l.kp k (m b (by simp)), h.nd⟩
theorem On.kp (k : Kp M H H') (mo : ¬ M o) (m : ∀ x ∈ F, ¬ M x) (h : On K H o F pic pal) : On K H' o F pic pal := by
  obtain ⟨a, b, rs, rfl, h⟩ := h
  exact ⟨a, b, rs, rfl, h.kp k mo m⟩
theorem On.kp0 (k : Kp no H H') (h : On K H o F pic pal) : On K H' o F pic pal := h.kp k (fun z => z) fun _ _ z => z
/-- {x: a, y: b} -/
theorem merge2 {x y : Str} {v w : V} (hxy : ¬ ((.inr x : Key) = .inr y)) : mergeK [] [((.inr x : Key), v), (.inr y, w)] = [(.inr x, v), (.inr y, w)] := by
  simp [mergeK, putK, hxy]
theorem w_disp2 {ta tb : TE} {x y : Str} (hxy : ¬ ((.inr x : Key) = .inr y)) (q : ∀ p H1, H p = none → Kp no H H1 → H1 p = some (.dK []) → ta σ H1 fun v H2 => tb σ H2 fun w H3 => H3 p = some (.dK []) ∧ Q (.ref p) (upd H3 p (.dK [(.inr x, v), (.inr y, w)]))) :
    tDisp [(tC (.str x), ta), (tC (.str y), tb)] σ H Q := by
  intro p hp
  have q1 := q p (upd H p (.dK [])) hp (Kp.new hp) upd_same
  show ta σ (upd H p (.dK [])) fun v H2 => tb σ H2 fun w H3 => H3 p = some (.dK []) ∧ ∃ kvs : List (Key × V), [(V.str x, v), (V.str y, w)] = kvs.map (fun kv => (kV kv.1, kv.2)) ∧ kvs.length ≤ 15 ∧ Q (.ref p) (upd H3 p (.dK (mergeK [] kvs)))
  have e : (fun v H2 => tb σ H2 fun w H3 => H3 p = some (.dK []) ∧ ∃ kvs : List (Key × V), [(V.str x, v), (V.str y, w)] = kvs.map (fun kv => (kV kv.1, kv.2)) ∧ kvs.length ≤ 15 ∧ Q (.ref p) (upd H3 p (.dK (mergeK [] kvs)))) = fun v H2 => tb σ H2 fun w H3 => H3 p = some (.dK []) ∧ Q (.ref p) (upd H3 p (.dK [(.inr x, v), (.inr y, w)])) := by
    funext v H2
    congr 1
    funext w H3
    refine propext ⟨fun ⟨h1, kvs, h2, h3, h4⟩ => ⟨h1, ?_⟩, fun ⟨h1, h2⟩ => ⟨h1, [(.inr x, v), (.inr y, w)], rfl, by simp, ?_⟩⟩
    · match kvs, h2, h4 with
      | [], h2, _ => cases h2
      | [_], h2, _ => simp at h2
      | _ :: _ :: _ :: _, h2, _ => simp at h2
      | [(k1, w1), (k2, w2)], h2, h4 =>
        simp only [List.map_cons, List.map_nil, List.cons.injEq, Prod.mk.injEq, and_true] at h2
        obtain ⟨⟨e1, rfl⟩, e2, rfl⟩ := h2
        cases k1 with
        | inl i => cases e1
        | inr s1 =>
          cases e1
          cases k2 with
          | inl i => cases e2
          | inr s2 =>
            cases e2
            rw [merge2 hxy] at h4
            exact h4
    · rw [merge2 hxy]
      exact h2
  rw [e]
  exact q1
theorem w_kdisp {p : Addr} {kvs : List (Key × V)} (h : H p = some (.dK [])) (q : ∀ H4, Kp (at1 p) H H4 → H4 p = some (.dK kvs) → Q (.ref p) H4) : H p = some (.dK []) ∧ Q (.ref p) (upd H p (.dK kvs)) :=
  ⟨h, q _ (Kp.set h rfl rfl) upd_same⟩
theorem cut_take (xs : List V) (m : Int) (h : 0 ≤ m) : cutV xs none (some m) = xs.take m.toNat := by
  unfold cutV
  have e : HT.sIx xs.length xs.length (some m) = min m.toNat xs.length := by
    show (if m < 0 then (m + xs.length).toNat else min m.toNat xs.length) = _
    rw [if_neg (by omega)]
  have e0 : HT.sIx xs.length 0 none = 0 := rfl
  rw [e, e0, List.drop_zero, Nat.sub_zero, ← List.take_take, List.take_length]
end
local macro_rules | `(tactic| walk_at "s1") => `(tactic| first
  | ((with_reducible refine' w_kd1 ?k1 ?_); (case k1 => walk_at "at"))
  | ((with_reducible refine' w_kd2 ?k1 ?_); (case k1 => walk_at "at")))


/-- sizes and colours of what is drawn -/
structure Big (w : Int) (m : Nat) (pic : List (List (List Int))) (pal : List (List Int)) : Prop where
  W : Wd w pic pal
  w5 : w ≤ 5
  p1 : 1 ≤ pic.length
  p16 : pic.length ≤ 16
  m1 : 1 ≤ m
  m16 : m ≤ 16
  sq : ∀ r ∈ pic, r.length = m
  l100 : pal.length ≤ 100
def sp_law_world (K : PySem.W.Frag) : Sp := fun vs H Q _ => ∃ v0, vs = [v0] ∧ ∃ (l : Addr) (n : Nat), v0 = .ref l ∧ Rand H l n ∧ n < 2147300000 ∧
  ∀ (t o : Addr) (kv : V) (wide span : Int) (F : List Addr) (m : Nat) (pic : List (List (List Int))) (pal : List (List Int)) (H' : Hp), H' t = some (.tup [kv, .ref o]) → KindD K H' kv wide span → 1 ≤ wide → wide ≤ 5 → 3 ≤ span → span ≤ 1000 → H o = none → (∀ x ∈ F, H x = none) → On K H' o F pic pal → Big wide m pic pal → pal.length ≤ 40 →
    Kp (at1 l) H H' → Rand H' l (n + 5000) → Q (.ref t) H'
def rd_law_world (K : PySem.W.Frag) : TS :=
 (tSeq (tAsg (tCall (sp_law_kind K) [] E0 (tCons (tVar 0) tNil)) (gName 1))
 (tSeq (tPar 2 3 (tCons (tCall (sp_law_picture K) [] E0 (tCons (tVar 0) (tCons (tVar 1) tNil))) (tCons (tCall (sp_law_palette K) [] E0 (tCons (tVar 0) (tCons (tVar 1) tNil))) tNil)))
 (tSeq (tAsg (tOp rMulI (tCB (rLenQ K) (tCons (tVar 2) tNil)) (tCB (rLenQ K) (tCons (tOp (rIxL K) (tVar 2) (tC (.int 0))) tNil))) (gName 4))
 (tRet (tTup (tCons (tVar 1) (tCons (tDisp (((tC (.str "picture")), (tVar 2)) :: (((tC (.str "palette")), (tSl (rSlL K) (tVar 3) tNoPart (tPart (tCB rMax2 (tCons (tC (.int 2)) (tCons (tOp rDivI (tC (.int 1200)) (tVar 4)) tNil)))))) :: []))) tNil)))))))
theorem sm_law_world {K : PySem.W.Frag} {vs : List V} {H : Hp} {Q : VK} {E : XK} (h : sp_law_world K vs H Q E) : rd_law_world K { nx := fun _ H' => Q .non H', rt := Q } (start ["left", "kind", "picture", "palette", "many"] vs) H := by
  obtain ⟨v0, rfl, l, n, rfl, R, hn, q⟩ := h
  show rd_law_world K _ [some (.ref l), none, none, none, none] H
  unfold rd_law_world
  walk_at "s"
  refine ⟨_, rfl, l, n, rfl, R, by omega, fun kv wide span H1 w1 w5 s3 s1000 hk k1 R1 => ?_⟩
  walk_at "s"
  refine ⟨_, _, rfl, l, n + 2, wide, span, rfl, R1, by omega, hk, w1, w5, s3, s1000, fun a rs pic H2 f2 fr2 nd2 po g2 k2 R2 => ?_⟩
  walk_at "s"
  refine ⟨_, _, rfl, l, n + 2 + 4000, wide, span, rfl, R2, by omega, Dz.kp k2 hk, w1, w5, s3, s1000, fun b pal H3 f3 l1 l40 oc L3 k3 R3 => ?_⟩
  obtain ⟨p1, p16, m, m1, m16, hm⟩ := po
  have na : a ≠ l ∧ ∀ r ∈ rs, r ≠ l := ⟨R1.ne f2, fun r hr => R1.ne (fr2 r hr)⟩
  have g3 := g2.kp k3 na.1 na.2
  have nb := g2.ne f3
  have hl := g3.len
  rw [List.length_map] at hl
  have kv3 : KindD K H3 kv wide span := Dz.kp (k2.tr' k3) hk
  walk_at "s"
  refine w_lenL (SqL.of g3.at_) ?_
  walk_at "s"
  refine w_ixG (k := 0) g3 (List.getElem?_eq_getElem (by omega)) fun r0 hr0 L0 => ?_
  walk_at "s"
  have h0 := hm pic[0] (List.getElem_mem (by omega))
  rw [List.length_map, List.length_map, hl, h0.1]
  refine w_mul (.inl ⟨by omega, by omega⟩) ?_
  walk_at "s"
  refine w_disp2 kne fun o H4 f4 k4 h4 => ?_
  walk_at "s"
  have pos : (0 : Int) < (pic.length : Int) * (m : Int) := Int.mul_pos (by omega) (by omega)
  have up : (pic.length : Int) * (m : Int) ≤ 256 := by
    have := Nat.mul_le_mul p16 m16
    have e : (pic.length : Int) * (m : Int) = ((pic.length * m : Nat) : Int) := by push_cast; rfl
    rw [e]
    omega
  refine w_div ⟨pos, by omega⟩ ?_
  walk_at "s"
  have L4 : LstD K H4 b (pal.map colD) := L3.kp k4 fun z => z
  obtain ⟨ws, e4, d4⟩ := id L4
  have mx : (2 : Int) ≤ (if (1200 : Int) / ((pic.length : Int) * (m : Int)) > 2 then 1200 / ((pic.length : Int) * (m : Int)) else 2) := by split <;> omega
  generalize hM : (if (1200 : Int) / ((pic.length : Int) * (m : Int)) > 2 then 1200 / ((pic.length : Int) * (m : Int)) else 2) = M at mx ⊢
  refine w_slL (SqL.of e4) fun c H5 f5 k5 h5 => ?_
  rw [cut_take ws M (by omega)] at h5
  have L5 : LstD K H5 c ((pal.take M.toNat).map colD) := ⟨_, h5, by rw [List.map_take]; exact (DAz.kp k5 d4).take _⟩
  have h5o : H5 o = some (.dK []) := k5.at (fun z => z) h4
  refine ⟨h5o, ?_⟩
  have k6 := Kp.set (o := .dK (ownK (.ref a) (.ref c))) h5o rfl rfl
  have h6 : upd H5 o (.dK (ownK (.ref a) (.ref c))) o = some (.dK (ownK (.ref a) (.ref c))) := upd_same
  generalize upd H5 o (.dK (ownK (.ref a) (.ref c))) = H6 at k6 h6 ⊢
  have g5 := (g3.kp k4 (fun z => z) fun _ _ z => z).kp k5 (fun z => z) fun _ _ z => z
  have noa := g3.ne f4
  have noc : o ≠ c := fun z => by rw [z, h5] at h5o; cases h5o
  have k06 : Kp (at1 l) H H6 := by
    have k05 : Kp (at1 l) H H5 := (((k1.tr' k2).tr' k3).tr0 k4).tr0 k5
    exact k05.own ((k1.tr' k2).tr' k3 |>.free f4) k6
  have no : o ≠ l := R3.ne f4
  have R6 : Rand H6 l (n + 2 + 4000 + 600) := ((R3.kp k4 fun z => z).kp k5 fun z => z).kp k6 fun z => no z.symm
  walk_at "s"
  intro t H7 f7 k7 h7
  have nca : c ≠ a ∧ c ∉ rs := (g3.kp k4 (fun z => z) fun _ _ z => z).ne f5
  have e1 : ∀ x, H1 x = none → H x = none := fun x hx => k1.free hx
  have fc : H c = none := ((((k1.tr' k2).tr' k3).tr0 k4)).free f5
  refine q t o kv wide span (a :: c :: rs) m pic (pal.take M.toNat) H7 h7 (Dz.kp k7 (Dz.kp k6 (Dz.kp k5 (Dz.kp k4 kv3)))) w1 w5 s3 s1000 (((k1.tr' k2).tr' k3).free f4) ?_ ?_ ?_ (by rw [List.length_take]; omega) (k06.tr0 k7) ((R6.kp k7 fun z => z).mono (by omega))
  · intro x hx
    simp only [List.mem_cons] at hx
    rcases hx with rfl | rfl | hx
    · exact e1 _ f2
    · exact fc
    · exact e1 x (fr2 x hx)
  · refine ⟨a, c, rs, rfl, k7.at (fun z => z) h6, ?_, ?_, ?_⟩
    · exact (g5.kp k6 (fun z => noa.1 z.symm) fun r hr z => noa.2 (z ▸ hr)).kp k7 (fun z => z) fun _ _ z => z
    · exact (L5.kp k6 fun z => noc z.symm).kp k7 fun z => z
    · simp only [List.nodup_cons, List.mem_cons] at nd2 ⊢
      grind
  · refine ⟨⟨fun r hr x hx => (hm r hr).2 x hx, fun d hd => oc d (List.mem_of_mem_take hd), by omega, by rw [List.length_take]; omega, by rw [List.length_take]; omega, by omega, fun r hr => by rw [(hm r hr).1]; omega⟩, w5, p1, p16, m1, m16, fun r hr => (hm r hr).1, by rw [List.length_take]; omega⟩
def sp_law_numbers (K : PySem.W.Frag) : Sp := fun vs H Q _ => ∃ v0, vs = [v0] ∧ ∃ (o : Addr) (F : List Addr) (w : Int) (pic : List (List (List Int))) (pal : List (List Int)), v0 = .ref o ∧ On K H o F pic pal ∧ Wd w pic pal ∧
  ∀ a qs H', H a = none → Kp no H H' → Grid K H' a qs (numR (numsOf pal pic)) → (a :: qs).Nodup → (∀ r ∈ qs, H r = none) → Q (.ref a) H'
def rd_law_numbers (K : PySem.W.Frag) : TS :=
 (tRet (tLc (iList K (tDGet (tVar 0) (tC (.str "picture")))) (gName 1) tYes (tLc (iList K (tVar 1)) (gName 2) tYes (tCall (sp_law_nearest K) [] E0 (tCons (tDGet (tVar 0) (tC (.str "palette"))) (tCons (tVar 2) tNil))) [2]) [1]))
theorem sm_law_numbers {K : PySem.W.Frag} {vs : List V} {H : Hp} {Q : VK} {E : XK} (h : sp_law_numbers K vs H Q E) : rd_law_numbers K { nx := fun _ H' => Q .non H', rt := Q } (start ["own", "row", "colour"] vs) H := by
  obtain ⟨v0, rfl, o, F, w, pic, pal, rfl, ⟨a, b, rs, rfl, O⟩, W, q⟩ := h
  obtain ⟨ho, g, L, nd⟩ := id O
  show rd_law_numbers K _ [some (.ref o), none, none] H
  unfold rd_law_numbers
  walk_at "s"
  refine w_klist (SqL.of g.at_) ?_
  refine w_lcGM (f := colD) (h := PyData.int ∘ near pal) (fun x => ⟨rfl, rfl⟩) g (by have := W.lm; omega) ?_ fun a1 qs H1 f1 k1 g1 nd1 fr1 => ?_
  · intro k R r H' hk kk Lr RR rr
    obtain ⟨ws, e, gg⟩ := id Lr
    have hR := List.mem_of_getElem? hk
    walk_at "s"
    refine w_klist (SqL.of e) ?_
    refine w_lcMap (f := colD) (h := PyData.int ∘ near pal) (fun x => ⟨rfl, rfl⟩) Lr (by have := W.lr R hR; omega) ?_ rr
    intro x v H2 hx k2 dv R2 r2
    have ho2 : H2 o = some _ := k2.at (fun z => z) (kk.at (fun z => z) ho)
    walk_at "s"
    refine ⟨_, _, rfl, b, pal, x, w, rfl, (L.kp kk fun z => z).kp k2 fun z => z, dv, W.pl, W.pc R hR x hx, W.hw, W.l1, W.lp, fun H3 k3 => ?_⟩
    exact r2 _ H3 k3 (.int _)
  have e5 : (pic.map fun r => r.map (PyData.int ∘ near pal)) = numR (numsOf pal pic) := by
    unfold numR numsOf
    rw [List.map_map]
    refine List.map_congr_left fun r _ => ?_
    show _ = List.map PyData.int (List.map (near pal) r)
    rw [List.map_map]
  rw [e5] at g1
  walk_at "s"
  exact q a1 qs H1 f1 k1 g1 nd1 fr1

theorem LstD.ints {K : PySem.W.Frag} {H : Hp} {p : Addr} {ns : List Int} (h : LstD K H p (ns.map PyData.int)) : SqL K H p (ns.map V.int) := by
  obtain ⟨ws, e, g⟩ := h
  have := g.ints_of
  subst this
  exact SqL.of e
theorem w_min {K : PySem.W.Frag} {H : Hp} {Q : VK} {p : Addr} {ns : List Int} (h : SqL K H p (ns.map V.int)) (l : 0 < ns.length) (q : ∀ m, m ∈ ns → (∀ y ∈ ns, m ≤ y) → Q (.int m) H) : rMin K [.ref p] H Q := ⟨p, ns, rfl, h, l, q⟩
def sp_law_lost (K : PySem.W.Frag) : Sp := fun vs H Q _ => ∃ v0, vs = [v0] ∧ ∃ (o : Addr) (F : List Addr) (w : Int) (pic : List (List (List Int))) (pal : List (List Int)), v0 = .ref o ∧ On K H o F pic pal ∧ Wd w pic pal ∧
  ∀ H', Kp no H H' → Q (.int (lostI pal pic)) H'
def rd_law_lost (K : PySem.W.Frag) : TS :=
 (tSeq (tAsg (tC (.int 0)) (gName 1))
 (tSeq (tFor (iList K (tDGet (tVar 0) (tC (.str "picture")))) (gName 2) (tAsg (tOp rAddI (tVar 1) (tCB (rSum K) (tCons (tLc (iList K (tVar 2)) (gName 3) tYes (tCB (rMin K) (tCons (tLc (iList K (tDGet (tVar 0) (tC (.str "palette")))) (gName 4) tYes (tCall (sp_law_apart K) [] E0 (tCons (tVar 4) (tCons (tVar 3) tNil))) [4]) tNil)) [3]) tNil))) (gName 1)))
 (tRet (tVar 1))))
theorem sm_law_lost {K : PySem.W.Frag} {vs : List V} {H : Hp} {Q : VK} {E : XK} (h : sp_law_lost K vs H Q E) : rd_law_lost K { nx := fun _ H' => Q .non H', rt := Q } (start ["own", "total", "row", "colour", "one"] vs) H := by
  obtain ⟨v0, rfl, o, F, w, pic, pal, rfl, ⟨a, b, rs, rfl, O⟩, W, q⟩ := h
  obtain ⟨ho, g, L, nd⟩ := id O
  show rd_law_lost K _ [some (.ref o), none, none, none, none] H
  unfold rd_law_lost
  walk_at "s"
  have hl := g.len
  rw [List.length_map] at hl
  refine w_klist (SqL.of g.at_) ?_
  refine w_forG (wk_list (xs := rs.map V.ref)) (fun i σ H' => ∃ c, σ = [some (.ref o), some (.int (((pic.take i).flatMap fun r => r.map fun c => (nearP pal c).1).sum)), c, none, none] ∧ Kp no H H') ⟨none, rfl, Kp.refl⟩ (fun i σ H' _ ⟨_, _, k⟩ => SqL.of (k.at (fun z => z) g.at_)) ?_ ?_
  · rintro i x σ H2 H3 hi ⟨c, rfl, k2⟩ k3 y
    rw [List.length_map] at hi
    have hi2 : i < pic.length := by omega
    have hR := List.getElem?_eq_getElem hi2
    obtain ⟨r, hr, Lr⟩ := g.get hR
    rw [List.getElem?_map, hr] at y
    cases y
    have k03 : Kp no H H3 := k2.tr0 k3
    have ho3 := k03.at (fun z => z) ho
    have Lr3 := Lr.kp k03 fun z => z
    have hRm := List.getElem_mem hi2
    obtain ⟨ws, er, gr⟩ := id Lr3
    walk_at "s"
    refine w_klist (SqL.of er) ?_
    refine w_lcMap (f := colD) (h := PyData.int ∘ fun c => (nearP pal c).1) (fun x => ⟨rfl, rfl⟩) Lr3 (by have := W.lr _ hRm; omega) ?_ fun t H4 f4 k4 L4 => ?_
    · intro x v H4 hx k4 dv R r1
      have ho4 := k4.at (fun z => z) ho3
      have L4 : LstD K H4 b (pal.map colD) := (L.kp k03 fun z => z).kp k4 fun z => z
      obtain ⟨us, eb, gb⟩ := id L4
      have cx := W.pc _ hRm x hx
      walk_at "s"
      refine w_klist (SqL.of eb) ?_
      refine w_lcMap (f := colD) (h := PyData.int ∘ fun d => apartI d x) (fun x => ⟨rfl, rfl⟩) L4 W.lp ?_ fun u H5 f5 k5 L5 => ?_
      · intro d v' H5 hd k5 dv' R' r2
        walk_at "s"
        refine ⟨_, _, rfl, d, x, dv', Dz.kp k5 dv, (W.pl d hd).sm, cx.sm, by have := (W.pl d hd).1; have := W.hw; omega, fun H6 k6 => ?_⟩
        exact r2 _ H6 k6 (.int _)
      · rw [← List.map_map] at L5
        walk_at "s"
        refine w_min L5.ints (by rw [List.length_map]; have := W.l1; omega) fun m hm hle => ?_
        refine r1 _ H5 k5 ?_
        obtain ⟨d, hd, e1⟩ := List.mem_map.mp hm
        obtain ⟨d', h1, h2, h3⟩ := near_least (c := x) W.l1
        have em : m = (nearP pal x).1 := by
          have a1 := h3 d hd
          have a2 := hle _ (List.mem_map.mpr ⟨d', List.mem_of_getElem? h1, rfl⟩)
          omega
        rw [em]
        exact .int _
    · rw [← List.map_map] at L4
      walk_at "s"
      refine w_sum L4.ints ?_
      walk_at "s"
      refine ⟨some (.ref r), ?_, k03.tr0 k4⟩
      rw [take_succ_of hR, List.flatMap_append, List.sum_append]
      simp
  · rintro σ H2 ⟨c, rfl, k2⟩
    rw [List.length_map, hl, List.take_length]
    walk_at "s"
    exact q H2 k2
/-! ### the law's list of changes -/
def optD : Option Int → PyData
  | none => .none
  | some n => .int n
theorem opt_of {K : PySem.W.Frag} {H : Hp} {v : V} {o : Option Int} (h : Dz K H v (optD o)) : v = goneV o := by
  cases o with
  | none => exact h.non_of
  | some n => exact h.int_of
theorem w_neO {o : Option Int} {j : Int} {H : Hp} {Q : VK} (q : Q (.bl (!decide (o = some j))) H) : rNe (goneV o) (.int j) H Q := by
  cases o with
  | none =>
    have e : decide (goneV none = V.int j) = false := decide_eq_false fun z => nomatch z
    exact ⟨rfl, by rw [e]; simpa using q⟩
  | some n => exact w_neI (by simpa using q)
def mv (ms : List (Option Int)) (a : Int) : Option Int := (ms[a.toNat]?).getD none
def sp_law_changes (K : PySem.W.Frag) : Sp := fun vs H Q _ => ∃ v0 v1 v2, vs = [v0, v1, v2] ∧ ∃ (a1 a2 a3 : Addr) (rs ss : List Addr) (old new : List (List Int)) (ms : List (Option Int)), v0 = .ref a1 ∧ v1 = .ref a2 ∧ v2 = .ref a3 ∧ Grid K H a1 rs (numR old) ∧ Grid K H a2 ss (numR new) ∧ LstD K H a3 (ms.map optD) ∧ Sh old new ∧
  (∀ r ∈ old, ∀ n ∈ r, 0 ≤ n ∧ n < ms.length) ∧ old.length ≤ 100 ∧ (∀ r ∈ old, r.length ≤ 100) ∧
  ∀ f H', H f = none → Kp no H H' → LstD K H' f ((chg (mv ms) old new).map chD) → Q (.ref f) H'
def rd_law_changes (K : PySem.W.Frag) : TS :=
 (tSeq (tAsg (tLst tNil) (gName 3))
 (tSeq (tFor (iEnum K (tCons (tVar 0) tNil)) (gTup K 2 (gCons (gName 4) (gCons (gName 5) gNil))) (tFor (iEnum K (tCons (tVar 5) tNil)) (gTup K 2 (gCons (gName 6) (gCons (gName 7) gNil))) (tIfS (tTest (tOp rNe (tOp (rIxL K) (tVar 2) (tVar 7)) (tOp (rIxL K) (tOp (rIxL K) (tVar 1) (tVar 4)) (tVar 6)))) (tDrop (tBM K "list" rAppend (tVar 3) (tCons (tTup (tCons (tVar 4) (tCons (tVar 6) (tCons (tVar 7) (tCons (tOp (rIxL K) (tOp (rIxL K) (tVar 1) (tVar 4)) (tVar 6)) tNil))))) tNil))) tNext)))
 (tRet (tVar 3))))
theorem sm_law_changes {K : PySem.W.Frag} {vs : List V} {H : Hp} {Q : VK} {E : XK} (h : sp_law_changes K vs H Q E) : rd_law_changes K { nx := fun _ H' => Q .non H', rt := Q } (start ["old", "new", "moved", "found", "k", "row", "j", "number"] vs) H := by
  obtain ⟨v0, v1, v2, rfl, a1, a2, a3, rs, ss, old, new, ms, rfl, rfl, rfl, g1, g2, L3, sh, hn, lo, lr, q⟩ := h
  show rd_law_changes K _ [some (.ref a1), some (.ref a2), some (.ref a3), none, none, none, none, none] H
  unfold rd_law_changes
  walk_at "s"
  intro f H1 f1 k1 h1
  have e1 := k1.at (fun z => z) g1.at_
  have hl := g1.len
  rw [List.length_map] at hl
  walk_at "s"
  refine w_kenum (SqL.of e1) ?_
  refine w_forG wk_enum (fun i σ H' => ∃ a b c d, σ = [some (.ref a1), some (.ref a2), some (.ref a3), some (.ref f), a, b, c, d] ∧ Kp no H H' ∧ LstD K H' f (((spotsTo old i).filterMap (chF (mv ms) old new)).map chD)) ⟨none, none, none, none, rfl, k1, [], h1, .nil⟩ (fun i σ H' _ ⟨_, _, _, _, _, k, _⟩ => SqL.of (k.at (fun z => z) g1.at_)) ?_ ?_
  · rintro i x σ H2 H3 hi ⟨a, b, c, d, rfl, k2, L2⟩ k3 ⟨T, u, v, rfl, hT, hu, hx⟩
    cases hu
    have hi2 : i < old.length := by rw [List.length_map] at hi; omega
    have hR := List.getElem?_eq_getElem hi2
    obtain ⟨r, hr, Lr⟩ := g1.get hR
    have hx' : (rs.map V.ref)[i]? = some v := hx
    rw [List.getElem?_map, hr] at hx'
    cases hx'
    have hT' : SqT K H3 T [.int (i : Nat), .ref r] := hT
    have k03 : Kp no H H3 := k2.tr0 k3
    have Lr3 : LstD K H3 r (old[i].map PyData.int) := Lr.kp k03 fun z => z
    have L3' : LstD K H3 f (((spotsTo old i).filterMap (chF (mv ms) old new)).map chD) := L2.kp k3 fun z => z
    have lri := lr old[i] (List.getElem_mem hi2)
    have nfr : f ≠ r := Lr.ne f1
    obtain ⟨ws, er, gr⟩ := id Lr
    have hlw := gr.len
    rw [List.length_map] at hlw
    have er3 := k03.at (fun z => z) er
    walk_at "s"
    refine w_kenum (SqL.of er3) ?_
    refine w_forG wk_enum (fun j σ H' => ∃ c d, σ = [some (.ref a1), some (.ref a2), some (.ref a3), some (.ref f), some (.int (i : Nat)), some (.ref r), c, d] ∧ Kp no H H' ∧ LstD K H' f (((spotsTo old i ++ (List.range j).map fun (j : Nat) => ((i : Int), (j : Int))).filterMap (chF (mv ms) old new)).map chD)) ⟨_, _, rfl, k03, by simpa using L3'⟩ (fun j σ H' _ ⟨_, _, _, k, _⟩ => SqL.of (k.at (fun z => z) er)) ?_ ?_
    · rintro j x σ H4 H5 hj ⟨c, d, rfl, k4, L4⟩ k5 ⟨T, u, v, rfl, hT, hu, hx⟩
      cases hu
      have hj2 : j < old[i].length := by omega
      have hRj := List.getElem?_eq_getElem hj2
      obtain ⟨d', hd', dx'⟩ := gr.getV hx
      rw [List.getElem?_map, hRj] at hd'
      cases hd'
      cases dx'
      have hT' : SqT K H5 T [.int (j : Nat), .int old[i][j]] := hT
      have k05 : Kp no H H5 := k4.tr0 k5
      have L5 := L4.kp k5 fun z => z
      obtain ⟨b0, b1⟩ := hn old[i] (List.getElem_mem hi2) old[i][j] (List.getElem_mem hj2)
      obtain ⟨N, n, hN, hNj⟩ := sh.get hR hRj
      have c1 : cell old ((i : Int), (j : Int)) = some old[i][j] := by rw [cell_at hR]; exact hRj
      have c2 : cell new ((i : Int), (j : Int)) = some n := by rw [cell_at hN]; exact hNj
      have hm : ms[old[i][j].toNat]? = some ms[old[i][j].toNat] := List.getElem?_eq_getElem (by omega)
      have em : mv ms old[i][j] = ms[old[i][j].toNat]'(by omega) := by unfold mv; rw [hm]; rfl
      have ech : chF (mv ms) old new ((i : Int), (j : Int)) = if mv ms old[i][j] = some n then none else some ((i : Int), (j : Int), old[i][j], n) := by
        unfold chF
        rw [c1, c2]
        rfl
      have el : (spotsTo old i ++ (List.range (j + 1)).map fun (j : Nat) => ((i : Int), (j : Int))).filterMap (chF (mv ms) old new) = (spotsTo old i ++ (List.range j).map fun (j : Nat) => ((i : Int), (j : Int))).filterMap (chF (mv ms) old new) ++ (chF (mv ms) old new ((i : Int), (j : Int))).toList := by
        rw [List.range_succ, List.map_append, ← List.append_assoc, List.filterMap_append]
        have e1 : ([j].map fun (j : Nat) => ((i : Int), (j : Int))).filterMap (chF (mv ms) old new) = (chF (mv ms) old new ((i : Int), (j : Int))).toList := by
          rw [List.map_cons, List.map_nil, List.filterMap_cons]
          cases chF (mv ms) old new ((i : Int), (j : Int)) <;> rfl
        rw [e1]
      obtain ⟨m, hm0⟩ : ∃ m : Nat, old[i][j] = (m : Int) := ⟨old[i][j].toNat, by omega⟩
      have L3a : LstD K H5 a3 (ms.map optD) := L3.kp k05 fun z => z
      have g25 := g2.kp k05 (fun z => z) fun _ _ z => z
      walk_at "s"
      refine w_ixR L3a ⟨b0, b1⟩ fun v o ho _ dv => ?_
      rw [hm] at ho
      cases ho
      have ev := opt_of dv
      subst ev
      walk_at "s"
      refine w_ixG g25 hN fun r' hr' Lr' => ?_
      walk_at "s"
      refine w_ixN Lr' hNj fun v dv => ?_
      cases dv
      refine w_neO ?_
      walk_at "s"
      rw [← em]
      refine w_if (fun z => ?_) (fun z => ?_)
      · have zz : ¬ mv ms old[i][j] = some n := by simpa using z
        walk_at "s"
        refine w_ixG g25 hN fun r' hr' Lr' => ?_
        walk_at "s"
        refine w_ixN Lr' hNj fun v dv => ?_
        cases dv
        walk_at "s"
        intro t H6 f6 k6 h6
        walk_at "s"
        have b2 := len_spotsTo old i lr
        refine w_appendLd (L5.kp k6 fun z => z) (Dg.tupI (ns := [_, _, _, _]) (SqT.of h6)) ?_ fun H7 k7 L7 => ?_
        · have := List.length_filterMap_le (chF (mv ms) old new) (spotsTo old i ++ (List.range j).map fun (j : Nat) => ((i : Int), (j : Int)))
          rw [List.length_append, List.length_map, List.length_range] at this
          rw [List.length_map, sizeLine_eq]
          omega
        · refine ⟨_, _, rfl, (k05.tr0 k6).own f1 k7, ?_⟩
          rw [el, ech, if_neg zz]
          simpa using L7
      · have zz : mv ms old[i][j] = some n := by simpa using z
        walk_at "s"
        refine ⟨_, _, rfl, k05, ?_⟩
        rw [el, ech, if_pos zz]
        simpa using L5
    · rintro σ H4 ⟨c, d, rfl, k4, L4⟩
      refine ⟨_, _, _, _, rfl, k4, ?_⟩
      rw [spotsTo_succ, List.getD_eq_getElem?_getD, hR]
      rw [hlw] at L4
      exact L4
  · rintro σ H2 ⟨a, b, c, d, rfl, k2, L2⟩
    rw [List.length_map, hl] at L2
    walk_at "s"
    exact q f H2 f1 k2 L2

theorem Dg.top {G : Addr → Prop} {K : PySem.W.Frag} {H : Hp} {v : V} {d : PyData} (h : Dg G K H v d) : Dg (fun _ => True) K H v d := h.mono fun _ _ => trivial
theorem dg_lst {K : PySem.W.Frag} {H : Hp} {a : Addr} {xs : List V} {ds : List PyData} (h : H a = some (.lst xs)) (g : DA (fun _ => True) K H xs ds) : Dg (fun _ => True) K H (.ref a) (.list ds) := .lst trivial (SqL.of h) g
theorem ok_grid {n : Nat} {rows : List (List PyData)} (l : rows.length ≤ 100000) (h : ∀ r ∈ rows, r.length ≤ 100000 ∧ ∀ d ∈ r, Ok n d) : Ok (n + 2) (.list (rows.map PyData.list)) := by
  refine .lst (by rw [List.length_map]; exact l) fun d hd => ?_
  obtain ⟨r, hr, rfl⟩ := List.mem_map.mp hd
  exact .lst (h r hr).1 (h r hr).2
theorem ok_num {num : List (List Int)} (l : num.length ≤ 100) (h : ∀ r ∈ num, r.length ≤ 100) : Ok 7 (.list ((numR num).map PyData.list)) := by
  refine ok_grid (n := 5) (by rw [List.length_map]; omega) fun r hr => ?_
  obtain ⟨s, hs, rfl⟩ := List.mem_map.mp hr
  exact ⟨by rw [List.length_map]; have := h s hs; omega, Ok.ints s⟩
theorem ok_pic {w : Int} {pic : List (List (List Int))} {pal : List (List Int)} (W : Wd w pic pal) : Ok 7 (.list ((picR pic).map PyData.list)) := by
  refine ok_grid (n := 5) (by rw [List.length_map]; have := W.lm; omega) fun r hr => ?_
  obtain ⟨s, hs, rfl⟩ := List.mem_map.mp hr
  refine ⟨by rw [List.length_map]; have := W.lr s hs; omega, fun d hd => ?_⟩
  obtain ⟨c, hc, rfl⟩ := List.mem_map.mp hd
  have := (W.pc s hs c hc).1
  have := W.hw
  exact .col (by omega)
theorem nums_size {w : Int} {pic : List (List (List Int))} {pal : List (List Int)} (W : Wd w pic pal) : (numsOf pal pic).length ≤ 100 ∧ ∀ r ∈ numsOf pal pic, r.length ≤ 100 := by
  unfold numsOf
  refine ⟨by rw [List.length_map]; exact W.lm, fun r hr => ?_⟩
  obtain ⟨s, hs, rfl⟩ := List.mem_map.mp hr
  rw [List.length_map]
  exact W.lr s hs
theorem nums_range {w : Int} {pic : List (List (List Int))} {pal : List (List Int)} (W : Wd w pic pal) : ∀ r ∈ numsOf pal pic, ∀ n ∈ r, 0 ≤ n ∧ n < pal.length := by
  unfold numsOf
  intro r hr n hn
  obtain ⟨s, hs, rfl⟩ := List.mem_map.mp hr
  obtain ⟨c, hc, rfl⟩ := List.mem_map.mp hn
  exact near_range c W.l1
def sp_law_stands (K : PySem.W.Frag) (C : Addr) : Sp := fun vs H Q _ => ∃ v0 v1, vs = [v0, v1] ∧ ∃ (p o : Addr) (F F2 : List Addr) (w : Int) (pic : List (List (List Int))) (pal : List (List Int)) (past : List Once), v0 = .ref p ∧ v1 = .ref o ∧ Pt K C H p F pic pal (numsOf pal pic) past ∧ On K H o F2 pic pal ∧ Wd w pic pal ∧
  ∀ H', Kp no H H' → Q (.bl true) H'
def rd_law_stands (K : PySem.W.Frag) (C_Painting : Addr) : TS :=
 (tSeq (tAsg (tLst (tCons (tMeth C_Painting "numbers" (sp_Painting_numbers K C_Painting) [] E0 (tVar 0) tNil) (tCons (tMeth C_Painting "palette" (sp_Painting_palette K C_Painting) [] E0 (tVar 0) tNil) (tCons (tMeth C_Painting "picture" (sp_Painting_picture K C_Painting) [] E0 (tVar 0) tNil) (tCons (tMeth C_Painting "lost" (sp_Painting_lost K C_Painting) [] E0 (tVar 0) tNil) tNil))))) (gName 2))
 (tRet (tCall (sp_law_same K) [] E0 (tCons (tVar 2) (tCons (tLst (tCons (tCall (sp_law_numbers K) [] E0 (tCons (tVar 1) tNil)) (tCons (tDGet (tVar 1) (tC (.str "palette"))) (tCons (tDGet (tVar 1) (tC (.str "picture"))) (tCons (tCall (sp_law_lost K) [] E0 (tCons (tVar 1) tNil)) tNil))))) tNil)))))
theorem sm_law_stands {K : PySem.W.Frag} {C_Painting : Addr} {vs : List V} {H : Hp} {Q : VK} {E : XK} (h : sp_law_stands K C_Painting vs H Q E) : rd_law_stands K C_Painting { nx := fun _ H' => Q .non H', rt := Q } (start ["painting", "own", "told"] vs) H := by
  obtain ⟨v0, v1, rfl, p, o, F, F2, w, pic, pal, past, rfl, rfl, P, O, W, q⟩ := h
  show rd_law_stands K _ _ [some (.ref p), some (.ref o), none] H
  unfold rd_law_stands
  have P' := P
  obtain ⟨dx, a1, a2, a3, a4, rs, ss, G, vs, _, PA⟩ := P'
  have hi := PA.hi
  have nz := nums_size W
  walk_at "s"
  refine ⟨_, rfl, p, F, pic, pal, _, past, rfl, P, by omega, fun a qs H1 f1 k1 g1 nd1 fr1 => ?_⟩
  have hi1 := k1.at (fun z => z) hi
  walk_at "s"
  refine ⟨_, rfl, p, F, pic, pal, _, past, rfl, P.kp0 k1, fun b H2 f2 k2 L2 => ?_⟩
  have hi2 := k2.at (fun z => z) hi1
  walk_at "s"
  refine ⟨_, rfl, p, F, pic, pal, _, past, rfl, (P.kp0 k1).kp0 k2, by have := W.lm; omega, fun c us H3 f3 k3 g3 nd3 fr3 => ?_⟩
  have hi3 := k3.at (fun z => z) hi2
  walk_at "s"
  refine ⟨_, rfl, p, F, w, pic, pal, past, rfl, ((P.kp0 k1).kp0 k2).kp0 k3, W, fun H4 k4 => ?_⟩
  walk_at "s"
  intro t H5 f5 k5 h5
  have k05 : Kp no H H5 := (((k1.tr0 k2).tr0 k3).tr0 k4).tr0 k5
  have O5 := O.kp0 k05
  have O5' := O5
  obtain ⟨oa, ob, ors, _, OA5⟩ := O5'
  have ho5 := OA5.h
  walk_at "s"
  refine ⟨_, rfl, o, F2, w, pic, pal, rfl, O5, W, fun a' qs' H6 f6 k6 g6 nd6 fr6 => ?_⟩
  have ho6 := k6.at (fun z => z) ho5
  have OA6 := OA5.kp k6 (fun z => z) fun _ _ z => z
  walk_at "s"
  refine ⟨_, rfl, o, F2, w, pic, pal, rfl, O5.kp0 k6, W, fun H7 k7 => ?_⟩
  walk_at "s"
  intro t' H8 f8 k8 h8
  walk_at "s"
  have OA8 := (OA6.kp k7 (fun z => z) fun _ _ z => z).kp k8 (fun z => z) fun _ _ z => z
  have k58 : Kp no H5 H8 := (k6.tr0 k7).tr0 k8
  have k18 : Kp no H1 H8 := (((k2.tr0 k3).tr0 k4).tr0 k5).tr0 k58
  have k28 : Kp no H2 H8 := ((k3.tr0 k4).tr0 k5).tr0 k58
  have k38 : Kp no H3 H8 := (k4.tr0 k5).tr0 k58
  have k68 : Kp no H6 H8 := k7.tr0 k8
  refine ⟨_, _, rfl, _, _, .list [.list ((numR (numsOf pal pic)).map PyData.list), palD pal, .list ((picR pic).map PyData.list), .int (lostI pal pic)],
    dg_lst (k58.at (fun z => z) h5) (.cons (g1.kp k18 (fun z => z) fun _ _ z => z).dg.top (.cons (L2.kp k28 fun z => z).dg.top (.cons (g3.kp k38 (fun z => z) fun _ _ z => z).dg.top (.cons (.int _) .nil)))),
    dg_lst h8 (.cons (g6.kp k68 (fun z => z) fun _ _ z => z).dg.top (.cons OA8.l.dg.top (.cons OA8.g.dg.top (.cons (.int _) .nil)))), ?_, by decide, fun H9 k9 => ?_⟩
  · refine .lst (by simp) fun d hd => ?_
    simp only [List.mem_cons, List.not_mem_nil, or_false] at hd
    rcases hd with rfl | rfl | rfl | rfl
    · exact ok_num nz.1 nz.2
    · exact ok_pal (n := 4) W.pl W.hw W.lp
    · exact ok_pic W
    · exact .int _
  · exact q H9 ((k05.tr0 k58).tr0 k9)
def sp_law_spot (K : PySem.W.Frag) : Sp := fun vs H Q _ => ∃ v0 v1 v2, vs = [v0, v1, v2] ∧ ∃ (l : Addr) (n : Nat) (o : Addr) (F : List Addr) (wide span : Int) (m : Nat) (pic : List (List (List Int))) (pal : List (List Int)), v0 = .ref l ∧ v2 = .ref o ∧ Rand H l n ∧ n < 2147300000 ∧ KindD K H v1 wide span ∧ 1 ≤ wide ∧ 3 ≤ span ∧ span ≤ 1000 ∧ On K H o F pic pal ∧ l ∉ F ∧ Big wide m pic pal ∧
  ∀ (t : Addr) (k j : Nat) (cv : V) (c : List Int) (H' : Hp), H' t = some (.tup [.int (k : Int), .int (j : Int), cv]) → Dz K H' cv (colD c) → ColOk wide c → k < pic.length → j < m → Kp (at1 l) H H' → Rand H' l (n + 40) → Q (.ref t) H'
def rd_law_spot (K : PySem.W.Frag) : TS :=
 (tSeq (tPar 3 4 (tCons (tCall (sp_law_pick K) [] E0 (tCons (tVar 0) (tCons (tCB (rLenQ K) (tCons (tDGet (tVar 2) (tC (.str "picture"))) tNil)) tNil))) (tCons (tCall (sp_law_pick K) [] E0 (tCons (tVar 0) (tCons (tCB (rLenQ K) (tCons (tOp (rIxL K) (tDGet (tVar 2) (tC (.str "picture"))) (tC (.int 0))) tNil)) tNil))) tNil)))
 (tSeq (tAsg (tOp (rIxL K) (tOp (rIxL K) (tDGet (tVar 2) (tC (.str "picture"))) (tCall (sp_law_pick K) [] E0 (tCons (tVar 0) (tCons (tCB (rLenQ K) (tCons (tDGet (tVar 2) (tC (.str "picture"))) tNil)) tNil)))) (tC (.int 0))) (gName 5))
 (tSeq (tAsg (tLst (tCons (tOp (rIxL K) (tDGet (tVar 2) (tC (.str "palette"))) (tCall (sp_law_pick K) [] E0 (tCons (tVar 0) (tCons (tCB (rLenQ K) (tCons (tDGet (tVar 2) (tC (.str "palette"))) tNil)) tNil)))) (tCons (tVar 5) (tCons (tCall (sp_law_colour K) [] E0 (tCons (tVar 0) (tCons (tVar 1) tNil))) tNil)))) (gName 6))
 (tRet (tTup (tCons (tVar 3) (tCons (tVar 4) (tCons (tOp (rIxL K) (tVar 6) (tCall (sp_law_pick K) [] E0 (tCons (tVar 0) (tCons (tC (.int 3)) tNil)))) tNil))))))))
theorem sm_law_spot {K : PySem.W.Frag} {vs : List V} {H : Hp} {Q : VK} {E : XK} (h : sp_law_spot K vs H Q E) : rd_law_spot K { nx := fun _ H' => Q .non H', rt := Q } (start ["left", "kind", "own", "row", "column", "other", "some"] vs) H := by
  obtain ⟨v0, v1, v2, rfl, l, n, o, F, wide, span, m, pic, pal, rfl, rfl, R, hn, hk, w1, s3, s1000, O, nl, B, q⟩ := h
  show rd_law_spot K _ [some (.ref l), some v1, some (.ref o), none, none, none, none] H
  unfold rd_law_spot
  have O' := O
  obtain ⟨oa, ob, ors, rfl, OA⟩ := O'
  have nlo : l ≠ o := fun z => by
    obtain ⟨a, b, c, e, _⟩ := R
    rw [z, OA.h] at e; cases e
  have step : ∀ {H1 H2 : Hp}, OnAt K H1 o oa ob ors pic pal → Kp (at1 l) H1 H2 → OnAt K H2 o oa ob ors pic pal := fun A k => A.kp k (fun z => nlo z.symm) fun x hx z => nl (z ▸ hx)
  have ho := OA.h
  have p1 := B.p1
  have p16 := B.p16
  have m1 := B.m1
  have m16 := B.m16
  have hl := OA.g.len
  rw [List.length_map] at hl
  walk_at "s"
  refine w_lenL (SqL.of OA.g.at_) ?_
  walk_at "s"
  rw [List.length_map, hl]
  refine ⟨_, _, rfl, l, n, _, rfl, rfl, R, by omega, by omega, by omega, fun k H1 k0 k1' k1 R1 => ?_⟩
  have A1 := step OA k1
  have ho1 := A1.h
  walk_at "s"
  refine w_ixG (k := 0) A1.g (List.getElem?_eq_getElem (by omega)) fun r0 hr0 L0 => ?_
  walk_at "s"
  have e0 := B.sq pic[0] (List.getElem_mem (by omega))
  rw [List.length_map, e0]
  refine ⟨_, _, rfl, l, n + 1, _, rfl, rfl, R1, by omega, by omega, by omega, fun j H2 j0 j1 k2 R2 => ?_⟩
  have A2 := step A1 k2
  have ho2 := A2.h
  walk_at "s"
  refine w_lenL (SqL.of A2.g.at_) ?_
  walk_at "s"
  rw [List.length_map, hl]
  refine ⟨_, _, rfl, l, n + 2, _, rfl, rfl, R2, by omega, by omega, by omega, fun r H3 r0 r1 k3 R3 => ?_⟩
  have A3 := step A2 k3
  have ho3 := A3.h
  obtain ⟨i, rfl⟩ : ∃ i : Nat, r = i := ⟨r.toNat, by omega⟩
  have hiL : i < pic.length := by omega
  refine w_ixG A3.g (List.getElem?_eq_getElem hiL) fun r' hr' Lr' => ?_
  have ei := B.sq pic[i] (List.getElem_mem hiL)
  have hi0 : 0 < pic[i].length := by omega
  walk_at "s"
  refine w_ixN (j := 0) Lr' (List.getElem?_eq_getElem hi0) fun cv dv => ?_
  have c2 := B.W.pc pic[i] (List.getElem_mem hiL) (pic[i][0]) (List.getElem_mem hi0)
  walk_at "s"
  refine w_lenLd A3.l ?_
  walk_at "s"
  refine ⟨_, _, rfl, l, n + 3, _, rfl, rfl, R3, by omega, by rw [List.length_map]; have := B.W.l1; omega, by rw [List.length_map]; have := B.l100; omega, fun s H4 s0 s1 k4 R4 => ?_⟩
  rw [List.length_map] at s1
  have A4 := step A3 k4
  refine w_ixR A4.l ⟨s0, s1⟩ fun dv1 d hd dm ddv => ?_
  walk_at "s"
  refine ⟨_, _, rfl, l, n + 4, wide, span, rfl, R4, by omega, Dz.kp (((k1.tr' k2).tr' k3).tr' k4) hk, w1, B.w5, s3, s1000, fun v c H5 hcc dc k5 R5 => ?_⟩
  walk_at "s"
  intro sm H6 f6 k6 h6
  have nsm : sm ≠ l := R5.ne f6
  walk_at "s"
  refine ⟨_, _, rfl, l, n + 14, 3, rfl, rfl, R5.kp k6 (fun z => z), by omega, by omega, by omega, fun x H7 x0 x1 k7 R7 => ?_⟩
  have h7 := k7.at nsm h6
  have k47 : Kp (at1 l) H4 H7 := (k5.tr0 k6).tr' k7
  obtain ⟨y, hy, cc, yd, yc⟩ : ∃ y, atI [dv1, cv, v] x = some y ∧ ∃ cc, Dz K H7 y (colD cc) ∧ ColOk wide cc := by
    obtain ⟨z, rfl⟩ : ∃ z : Nat, x = z := ⟨x.toNat, by omega⟩
    match z, x1 with
    | 0, _ => exact ⟨dv1, rfl, d, Dz.kp k47 ddv, B.W.pl d dm⟩
    | 1, _ => exact ⟨cv, rfl, _, Dz.kp k47 (Dz.kp k4 dv), c2⟩
    | 2, _ => exact ⟨v, rfl, c, Dz.kp k7 (Dz.kp k6 dc), hcc⟩
    | z + 3, h => omega
  refine w_ixL (SqL.of h7) hy ?_
  walk_at "s"
  intro t H8 f8 k8 h8
  obtain ⟨k, rfl⟩ : ∃ z : Nat, k = z := ⟨k.toNat, by omega⟩
  obtain ⟨j, rfl⟩ : ∃ z : Nat, j = z := ⟨j.toNat, by omega⟩
  exact q t k j y cc H8 h8 (Dz.kp k8 yd) yc (by omega) (by omega) (((((k1.tr' k2).tr' k3).tr' k4).tr' k47).tr0 k8) ((R7.kp k8 fun z => z).mono (by omega))

/-! ### what is told, and what is due -/
theorem filter_one {α : Type} [DecidableEq α] : ∀ {l : List α} {x : α}, l.Nodup → x ∈ l → l.filter (fun y => decide (y = x)) = [x]
  | y :: l, x, nd, h => by
    obtain ⟨n1, n2⟩ := List.nodup_cons.mp nd
    by_cases e : y = x
    · subst e
      rw [List.filter_cons_of_pos (by simp)]
      congr 1
      refine List.filter_eq_nil_iff.mpr fun z hz => ?_
      simp only [decide_eq_true_eq]
      exact fun q => n1 (q ▸ hz)
    · rw [List.filter_cons_of_neg (by simpa using e)]
      rcases List.mem_cons.mp h with q | q
      · exact absurd q.symm e
      · exact filter_one n2 q
theorem filterMap_same {α β : Type} {f g : α → Option β} : ∀ {l : List α}, (∀ x ∈ l, f x = g x) → l.filterMap f = l.filterMap g
  | [], _ => rfl
  | x :: l, h => by rw [List.filterMap_cons, List.filterMap_cons, h x (List.mem_cons_self ..), filterMap_same fun y hy => h y (List.mem_cons_of_mem _ hy)]
theorem chg_told {pal : List (List Int)} {pic : List (List (List Int))} {old : List (List Int)} {ms : List (Option Int)} (P : Int × Int → Bool) (sh : Sh old pic) (hmv : ∀ s ∈ spots old, ∀ a, cell old s = some a → mv ms a = some a) (hout : ∀ s ∈ spots old, P s = false → cell old s = cell (numsOf pal pic) s) :
    chg (mv ms) old (numsOf pal pic) = told pal pic old ((spots old).filter P) := by
  unfold chg told
  rw [filterMap_filter]
  · refine filterMap_same fun s hs => ?_
    obtain ⟨a, ha⟩ := spots_cell hs
    unfold chF
    rw [ha]
    show ((cell (numsOf pal pic) s).bind fun b => if mv ms a = some b then none else some (s.1, s.2, a, b)) = ((cell (numsOf pal pic) s).bind fun b => if some a = some b then none else some (s.1, s.2, a, b))
    rw [hmv s hs a ha]
  · intro s hs hP
    obtain ⟨a, ha⟩ := spots_cell hs
    unfold chF
    rw [← hout s hs hP, ha]
    show (if some a = some a then none else _) = none
    rw [if_pos rfl]
theorem anew_nums {pal : List (List Int)} {pic : List (List (List Int))} {old : List (List Int)} (P : Int × Int → Bool) (sh : Sh old pic) (hout : ∀ s ∈ spots old, P s = false → cell old s = cell (numsOf pal pic) s) : anew pal pic ((spots old).filter P) old = numsOf pal pic := by
  refine eq_of_cells (((sh_anew pal pic _ old).trans sh).trans (sh_map pic (near pal)).symm) fun s hs => ?_
  have hs' : s ∈ spots old := by rw [← (sh_anew pal pic ((spots old).filter P) old).spots]; exact hs
  have hp : s ∈ spots pic := by rw [← sh.spots]; exact hs'
  rw [cell_anew sh (fun t ht => by rw [← sh.spots]; exact (List.mem_filter.mp ht).1) hp]
  have e : cell (numsOf pal pic) s = (cell pic s).map (near pal) := cell_map pic (near pal) s
  by_cases c : s ∈ (spots old).filter P
  · rw [if_pos c, e]
  · rw [if_neg c]
    refine hout s hs' ?_
    cases q : P s with
    | false => rfl
    | true => exact absurd (List.mem_filter.mpr ⟨hs', q⟩) c
theorem sh_nums (pal : List (List Int)) (pic : List (List (List Int))) : Sh (numsOf pal pic) pic := sh_map pic (near pal)
theorem mv_to {n : Nat} {a : Int} (h : 0 ≤ a ∧ a < n) : mv ((intsTo n).map some) a = some a := by
  unfold mv intsTo
  rw [List.map_map, List.getElem?_map, List.getElem?_range (by omega)]
  show some ((a.toNat : Nat) : Int) = some a
  congr 1
  omega
theorem cell_nums {w : Int} {pal : List (List Int)} {pic : List (List (List Int))} (W : Wd w pic pal) {s : Int × Int} {a : Int} (h : cell (numsOf pal pic) s = some a) : 0 ≤ a ∧ a < pal.length := by
  unfold numsOf at h
  rw [cell_map] at h
  obtain ⟨c, _, rfl⟩ := Option.map_eq_some_iff.mp h
  exact near_range c W.l1
/-- one spot of the law's own picture is set -/
theorem OnAt.setPic {K : PySem.W.Frag} {H H' : Hp} {o a b r : Addr} {rs : List Addr} {pic : List (List (List Int))} {pal : List (List Int)} {i : Nat} {cs : List (List Int)} (h : OnAt K H o a b rs pic pal) (e : rs[i]? = some r) (k : Kp (at1 r) H H') (L : LstD K H' r (cs.map colD)) : OnAt K H' o a b rs (pic.set i cs) pal := by
  have hr := List.mem_of_getElem? e
  have nd := h.nd
  simp only [List.nodup_cons, List.mem_cons] at nd
  have no : o ≠ r := fun z => by
    obtain ⟨xs, q⟩ := h.g.there r hr
    rw [← z, h.h] at q; cases q
  refine ⟨k.at no h.h, ?_, h.l.kp k (fun z => by have z' : b = r := z; grind), h.nd⟩
  have := h.g.set (by grind) (by grind) e k L
  rw [show picR (pic.set i cs) = (picR pic).set i (cs.map colD) from List.map_set]
  exact this
theorem ok_chg {n : Nat} {cs : List (Int × Int × Int × Int)} (l : cs.length ≤ 100000) : Ok (n + 3) (.list (cs.map chD)) := by
  refine .lst (by rw [List.length_map]; exact l) fun d hd => ?_
  obtain ⟨c, hc, rfl⟩ := List.mem_map.mp hd
  exact .tup (by simp) fun e he => by
    simp only [List.mem_cons, List.not_mem_nil, or_false] at he
    rcases he with rfl | rfl | rfl | rfl <;> exact .int _
theorem len_chg {f : Int → Option Int} {old new : List (List Int)} (h : ∀ r ∈ old, r.length ≤ 100) (l : old.length ≤ 100) : (chg f old new).length ≤ 100000 := by
  have h1 := len_spotsTo old old.length h
  have h2 : (chg f old new).length ≤ (spots old).length := List.length_filterMap_le ..
  have h3 : (spots old).length = (spotsTo old old.length).length := rfl
  omega
theorem setPic_is {pic : List (List (List Int))} {k j : Nat} {c : List Int} (hk : k < pic.length) : setCell pic ((k : Int), (j : Int)) c = pic.set k (pic[k].set j c) := setCell_some (s := ((k : Int), (j : Int))) (List.getElem?_eq_getElem hk)
theorem Big.setCell {w : Int} {m : Nat} {pic : List (List (List Int))} {pal : List (List Int)} {c : List Int} {k j : Int} (B : Big w m pic pal) (h : ColOk w c) : Big w m (setCell pic (k, j) c) pal := by
  have sl := (sh_setCell pic (k, j) c).len
  refine ⟨B.W.setCell h, B.w5, by rw [sl]; exact B.p1, by rw [sl]; exact B.p16, B.m1, B.m16, fun r hr => ?_, B.l100⟩
  obtain ⟨r0, h1, e, _⟩ := setCell_mem r hr
  rw [e]
  exact B.sq r0 h1
def sp_law_set (K : PySem.W.Frag) (C : Addr) : Sp := fun vs H Q _ => ∃ v0 v1 v2, vs = [v0, v1, v2] ∧ ∃ (p o t : Addr) (F F2 : List Addr) (w : Int) (m : Nat) (pic : List (List (List Int))) (pal : List (List Int)) (past : List Once) (k j : Nat) (cv : V) (c : List Int), v0 = .ref p ∧ v1 = .ref o ∧ v2 = .ref t ∧ Pt K C H p F pic pal (numsOf pal pic) past ∧ On K H o F2 pic pal ∧ (∀ x ∈ F, x ∉ F2) ∧ Big w m pic pal ∧ past.length ≤ 1000 ∧
  SqT K H t [.int (k : Int), .int (j : Int), cv] ∧ Dz K H cv (colD c) ∧ ColOk w c ∧ k < pic.length ∧ j < m ∧
  ∀ F' past' H', Kp (fun x => x ∈ F ∨ x ∈ F2) H H' → past'.length = past.length + 1 → Pt K C H' p F' (setCell pic ((k : Int), (j : Int)) c) pal (numsOf pal (setCell pic ((k : Int), (j : Int)) c)) past' → On K H' o F2 (setCell pic ((k : Int), (j : Int)) c) pal → (∀ a ∈ F', a ∈ F ∨ H a = none) → Q (.bl true) H'
def rd_law_set (K : PySem.W.Frag) (C_NoSpot : Addr) (C_Painting : Addr) : TS :=
 (tSeq (tAsg (tVar 2) (gTup K 3 (gCons (gName 3) (gCons (gName 4) (gCons (gName 5) gNil)))))
 (tSeq (tAsg (tCall (sp_law_numbers K) [] E0 (tCons (tVar 1) tNil)) (gName 6))
 (tSeq (tAsg (tVar 5) (gSub (tOp (rIxL K) (tDGet (tVar 1) (tC (.str "picture"))) (tVar 3)) (tVar 4) rSetL))
 (tSeq (tAsg (tCall (sp_law_changes K) [] E0 (tCons (tVar 6) (tCons (tCall (sp_law_numbers K) [] E0 (tCons (tVar 1) tNil)) (tCons (tLstRg (tRg1 (tCB (rLenQ K) (tCons (tDGet (tVar 1) (tC (.str "palette"))) tNil)))) tNil)))) (gName 7))
 (tRet (tCall (sp_law_same K) [] E0 (tCons (tMeth C_Painting "set_spot" (sp_Painting_set_spot K C_Painting C_NoSpot) [] E0 (tVar 0) (tCons (tVar 3) (tCons (tVar 4) (tCons (tVar 5) tNil)))) (tCons (tVar 7) tNil))))))))
theorem sm_law_set {K : PySem.W.Frag} {C_NoSpot : Addr} {C_Painting : Addr} {vs : List V} {H : Hp} {Q : VK} {E : XK} (h : sp_law_set K C_Painting vs H Q E) : rd_law_set K C_NoSpot C_Painting { nx := fun _ H' => Q .non H', rt := Q } (start ["painting", "own", "spot", "row", "column", "colour", "old", "due"] vs) H := by
  obtain ⟨v0, v1, v2, rfl, p, o, t, F, F2, w, m, pic, pal, past, k, j, cv, c, rfl, rfl, rfl, P, O, dj, B, lpa, ht, dc, cc, hk, hj, q⟩ := h
  show rd_law_set K _ _ _ [some (.ref p), some (.ref o), some (.ref t), none, none, none, none, none] H
  unfold rd_law_set
  have W := B.W
  have O' := O
  obtain ⟨oa, ob, ors, rfl, OA⟩ := O'
  have ho := OA.h
  walk_at "s"
  refine ⟨_, rfl, o, _, w, pic, pal, rfl, O, W, fun a0 q0 H1 f1 k1 g1 nd1 fr1 => ?_⟩
  have OA1 := OA.kp k1 (fun z => z) fun _ _ z => z
  have ho1 := OA1.h
  walk_at "s"
  refine w_ixG OA1.g (List.getElem?_eq_getElem hk) fun r hr Lr => ?_
  walk_at "s"
  have lk := B.sq pic[k] (List.getElem_mem hk)
  refine w_setLd Lr ⟨by omega, by rw [List.length_map]; omega⟩ (Dz.kp k1 dc) fun H2 k2 L2 => ?_
  rw [Int.toNat_natCast, show (pic[k].map colD).set j (colD c) = (pic[k].set j c).map colD from List.map_set.symm] at L2
  have OA2 := OA1.setPic hr k2 L2
  rw [← setPic_is (j := j) (c := c) hk] at OA2
  have B' := B.setCell (k := (k : Int)) (j := (j : Int)) cc
  have W' := B'.W
  have hrm := List.mem_of_getElem? hr
  have hrF : r ∉ F := fun hf => dj r hf (by simp [hrm])
  have hrp : r ≠ p := fun z => by
    obtain ⟨dx, fs, e⟩ := P.ins
    obtain ⟨xs, e'⟩ := OA.g.there r hrm
    rw [z, e] at e'; cases e'
  have P1 := P.kp0 k1
  have P2 := P1.kp k2 (fun z => hrp z.symm) fun x hx z => hrF (z ▸ hx)
  have ha0 := OA.g.ne f1
  have hra : r ≠ a0 := fun z => ha0.2 (z ▸ hrm)
  have hrq : r ∉ q0 := fun hq => by
    obtain ⟨xs, e⟩ := OA.g.there r hrm
    rw [fr1 r hq] at e; cases e
  have g2 := g1.kp k2 (fun z => hra z.symm) fun x hx z => hrq (z ▸ hx)
  have ho2 := OA2.h
  generalize hpic' : setCell pic ((k : Int), (j : Int)) c = pic' at *
  walk_at "s"
  refine ⟨_, rfl, o, _, w, pic', pal, rfl, ⟨oa, ob, ors, rfl, OA2⟩, W', fun a1 q1 H3 f3 k3 g3 nd3 fr3 => ?_⟩
  have OA3 := OA2.kp k3 (fun z => z) fun _ _ z => z
  have ho3 := OA3.h
  have Lp3 := OA3.l
  walk_at "s"
  refine w_krg ⟨by omega, by omega, by rw [List.length_map]; have := B.l100; omega, by rw [List.length_map]; have := B.l100; omega, by rw [List.length_map]; have := B.l100; omega⟩ fun a2 H4 f4 k4 h4 => ?_
  rw [List.length_map, rgV_0] at h4
  have L4 : LstD K H4 a2 (((intsTo pal.length).map some).map optD) := ⟨_, h4, by rw [List.map_map]; exact DA.ints _⟩
  walk_at "s"
  have sz := nums_size W
  refine ⟨_, _, _, rfl, a0, a1, a2, q0, q1, numsOf pal pic, numsOf pal pic', (intsTo pal.length).map some, rfl, rfl, rfl, (g2.kp k3 (fun z => z) fun _ _ z => z).kp k4 (fun z => z) fun _ _ z => z, g3.kp k4 (fun z => z) fun _ _ z => z, L4, ?_, ?_, sz.1, sz.2, fun f H5 f5 k5 L5 => ?_⟩
  · refine (sh_nums pal pic).trans (Sh.trans ?_ (sh_nums pal pic').symm)
    rw [← hpic']
    exact (sh_setCell pic _ c).symm
  · rw [List.length_map, len_intsTo]
    exact nums_range W
  have k25 : Kp no H2 H5 := (k3.tr0 k4).tr0 k5
  have P5 := P2.kp0 k25
  have OA5 := (OA3.kp k4 (fun z => z) fun _ _ z => z).kp k5 (fun z => z) fun _ _ z => z
  have dc5 : Dz K H5 cv (colD c) := Dz.kp k25 (Dz.kp k2 (Dz.kp k1 dc))
  have P5' := P5
  obtain ⟨dx, b1, b2, b3, b4, rs, ss, G, vs, _, PA5⟩ := P5'
  have hi5 := PA5.hi
  have k05 : Kp (fun x => x ∈ F ∨ x ∈ oa :: ob :: ors) H H5 := ((k1.of0).tr' (k2.mono fun x e => .inl (.inr (by have e' : x = r := e; rw [e']; simp [hrm])))).tr0 k25
  have R0 := List.getElem?_eq_getElem (show 0 < pic.length by omega)
  have l0 := B.sq pic[0] (List.getElem_mem _)
  walk_at "s"
  refine ⟨_, _, _, _, rfl, p, F, w, pic, pal, numsOf pal pic, past, (k : Int), (j : Int), c, pic[0], rfl, rfl, rfl, P5, R0, fun r hr => by rw [B.sq r hr, l0], W, cc, sh_nums pal pic, lpa, dc5, fun z => absurd (by omega) z, fun _ f' F' past' H6 f6 nf6 k6 hp' P6 fr6 L6 => ?_⟩
  rw [hpic'] at P6 L6
  have hs : ((k : Int), (j : Int)) ∈ spots (numsOf pal pic) := by
    rw [(sh_nums pal pic).spots]
    exact mem_spots.mpr ⟨k, j, pic[k], pic[k][j]'(by omega), rfl, List.getElem?_eq_getElem hk, List.getElem?_eq_getElem _⟩
  have one := filter_one (spots_nodup (numsOf pal pic)) hs
  have shp : Sh pic' pic := by rw [← hpic']; exact sh_setCell pic _ c
  have sho : Sh (numsOf pal pic) pic' := (sh_nums pal pic).trans shp.symm
  have hout : ∀ s ∈ spots (numsOf pal pic), decide (s = ((k : Int), (j : Int))) = false → cell (numsOf pal pic) s = cell (numsOf pal pic') s := fun s hs' hd => by
    have e1 : cell (numsOf pal pic) s = (cell pic s).map (near pal) := cell_map pic (near pal) s
    have e2 : cell (numsOf pal pic') s = (cell pic' s).map (near pal) := cell_map pic' (near pal) s
    have e3 : cell pic' s = cell pic s := by
      rw [← hpic', cell_setCell (by rw [← (sh_nums pal pic).spots]; exact hs) (by rw [← (sh_nums pal pic).spots]; exact hs'), if_neg (by simpa using hd)]
    rw [e1, e2, e3]
  have eT := chg_told (ms := (intsTo pal.length).map some) (fun s => decide (s = ((k : Int), (j : Int)))) sho (fun s hs' a ha => mv_to (cell_nums W ha)) hout
  have eA := anew_nums (fun s => decide (s = ((k : Int), (j : Int)))) sho hout
  rw [one] at eT eA
  rw [eA] at P6
  rw [← eT] at L6
  have nf : f ∉ F := (P2.kp0 (k3.tr0 k4)).free f5 |>.1
  have L56 : LstD K H6 f _ := L5.kp k6 nf
  walk_at "s"
  refine ⟨_, _, rfl, _, _, _, L6.dg, L56.dg, ok_chg (len_chg sz.2 sz.1), by decide, fun H7 k7 => ?_⟩
  have oF : o ∉ F := fun hf => by
    obtain ⟨xs, e⟩ := P.there o hf
    rw [ho] at e; cases e
  have OA6 := OA5.kp k6 oF fun x hx z => dj x z hx
  refine q F' past' H7 ((k05.tr (k6.mono (N := fun x => x ∈ F ∨ x ∈ oa :: ob :: ors) fun x e => .inl (.inl e)) fun x e => .inl e).tr0 k7) hp' (P6.kp0 k7) ⟨oa, ob, ors, rfl, OA6.kp k7 (fun z => z) fun _ _ z => z⟩ ?_
  intro a ha
  rcases fr6 a ha with h | h
  · exact .inl h
  · exact .inr (k05.free h)

def sp_Painting_undo_k62 (K : PySem.W.Frag) (C : Addr) : Sp := fun vs H Q _ => ∃ v0, vs = [v0] ∧ ∃ (p : Addr) (F : List Addr) (pic : List (List (List Int))) (pal : List (List Int)) (num : List (List Int)), v0 = .ref p ∧ Pt K C H p F pic pal num [] ∧ Q .non H
def rd_Painting_undo_k62 (K : PySem.W.Frag) : TS :=
 (tSeq (tIfS (tTest (tOp rEq (tCB (rLenQ K) (tCons (tFld K (tVar 0) "own_past") tNil)) (tC (.int 0)))) (tRet (tC .non)) tNext)
 tNever)
theorem sm_Painting_undo_k62 {K : PySem.W.Frag} {C_Painting : Addr} {vs : List V} {H : Hp} {Q : VK} {E : XK} (h : sp_Painting_undo_k62 K C_Painting vs H Q E) : rd_Painting_undo_k62 K { nx := fun _ H' => Q .non H', rt := Q } (start ["self", "picture", "palette", "numbers", "gone", "changed", "row", "column", "old", "new"] vs) H := by
  obtain ⟨v0, rfl, p, F, pic, pal, num, rfl, ⟨dx, a1, a2, a3, a4, rs, ss, G, vs, rfl, P⟩, q⟩ := h
  obtain ⟨pc, hi, g1, g2, g3, h4, g4, nd⟩ := id P
  show rd_Painting_undo_k62 K _ [some (.ref p), none, none, none, none, none, none, none, none, none] H
  unfold rd_Painting_undo_k62
  have l0 : vs.length = 0 := g4.len
  walk_at "s"
  rw [l0, if_pos (by decide)]
  walk_at "s"
  exact q
def sp_law_copied (K : PySem.W.Frag) : Sp := fun vs H Q _ => ∃ v0, vs = [v0] ∧ ∃ (o : Addr) (F : List Addr) (w : Int) (pic : List (List (List Int))) (pal : List (List Int)), v0 = .ref o ∧ On K H o F pic pal ∧ Wd w pic pal ∧
  ∀ o' F' H', H o' = none → (∀ x ∈ F', H x = none) → Kp no H H' → On K H' o' F' pic pal → Q (.ref o') H'
def rd_law_copied (K : PySem.W.Frag) : TS :=
 (tRet (tDisp (((tC (.str "picture")), (tLc (iList K (tDGet (tVar 0) (tC (.str "picture")))) (gName 1) tYes (tCB (rListOf K) (tCons (tVar 1) tNil)) [1])) :: (((tC (.str "palette")), (tCB (rListOf K) (tCons (tDGet (tVar 0) (tC (.str "palette"))) tNil))) :: []))))
theorem sm_law_copied {K : PySem.W.Frag} {vs : List V} {H : Hp} {Q : VK} {E : XK} (h : sp_law_copied K vs H Q E) : rd_law_copied K { nx := fun _ H' => Q .non H', rt := Q } (start ["own", "row"] vs) H := by
  obtain ⟨v0, rfl, o, F, w, pic, pal, rfl, ⟨a, b, rs, rfl, O⟩, W, q⟩ := h
  show rd_law_copied K _ [some (.ref o), none] H
  unfold rd_law_copied
  have ho := O.h
  have lm := W.lm
  walk_at "s"
  refine w_disp2 kne fun d H1 f1 k1 h1 => ?_
  have O1 := O.kp k1 (fun z => z) fun _ _ z => z
  have ho1 := O1.h
  walk_at "s"
  refine w_klist (SqL.of O1.g.at_) ?_
  refine w_copyG (fun x => ⟨rfl, rfl⟩) O1.g (by rw [List.length_map]; omega) fun a' qs H2 f2 k2 g2 nd2 fr2 => ?_
  have O2 := O1.kp k2 (fun z => z) fun _ _ z => z
  have ho2 := O2.h
  walk_at "s"
  refine w_listOfLd O2.l fun b' H3 f3 k3 L3 => ?_
  have h3 : H3 d = some (.dK []) := k3.at (fun z => z) (k2.at (fun z => z) h1)
  refine ⟨h3, ?_⟩
  have k4 := Kp.set (o := .dK (ownK (.ref a') (.ref b'))) h3 rfl rfl
  have h4 : upd H3 d (.dK (ownK (.ref a') (.ref b'))) d = some (.dK (ownK (.ref a') (.ref b'))) := upd_same
  generalize upd H3 d (.dK (ownK (.ref a') (.ref b'))) = H4 at k4 h4 ⊢
  have k03 : Kp no H H3 := (k1.tr0 k2).tr0 k3
  have g3 := g2.kp k3 (fun z => z) fun _ _ z => z
  have da : a' ≠ d ∧ ∀ r ∈ qs, r ≠ d := ⟨ne_none h1 f2, fun r hr => ne_none h1 (fr2 r hr)⟩
  have db : b' ≠ d := ne_none (k2.at (fun z => z) h1) f3
  have nb := g2.ne f3
  refine q d (a' :: b' :: qs) H4 f1 ?_ (k03.own f1 k4) ⟨a', b', qs, rfl, h4, g3.kp k4 da.1 da.2, L3.kp k4 db, ?_⟩
  · intro x hx
    simp only [List.mem_cons] at hx
    rcases hx with rfl | rfl | hx
    · exact k1.free f2
    · exact (k1.tr0 k2).free f3
    · exact k1.free (fr2 x hx)
  · simp only [List.nodup_cons, List.mem_cons] at nd2 ⊢
    grind
/-- the rows of a made list of lists, each one longer by one, then the list itself -/
def sp_law_stained (K : PySem.W.Frag) (C : Addr) : Sp := fun vs H Q _ => ∃ v0, vs = [v0] ∧ ∃ (p : Addr) (F : List Addr) (w : Int) (pic : List (List (List Int))) (pal : List (List Int)) (past : List Once), v0 = .ref p ∧ Pt K C H p F pic pal (numsOf pal pic) past ∧ Wd w pic pal ∧ ∀ H', Kp no H H' → Q (.bl true) H'
structure Bag (H : Hp) (a : Addr) (rs : List Addr) (n : Nat) : Prop where
  at_ : H a = some (.lst (rs.map V.ref))
  rows : ∀ r ∈ rs, ∃ xs, H r = some (.lst xs) ∧ xs.length ≤ n
theorem Grid.bag {K : PySem.W.Frag} {H : Hp} {a : Addr} {rs : List Addr} {rows : List (List PyData)} {n : Nat} (g : Grid K H a rs rows) (h : ∀ r ∈ rows, r.length ≤ n) : Bag H a rs n := by
  refine ⟨g.at_, fun r hr => ?_⟩
  obtain ⟨i, hi, rfl⟩ := List.getElem_of_mem hr
  have hl := g.len
  have hi2 : i < rows.length := by omega
  obtain ⟨xs, e, d⟩ := g.row i rs[i] rows[i] (List.getElem?_eq_getElem hi) (List.getElem?_eq_getElem hi2)
  exact ⟨xs, e, by rw [d.len]; exact h _ (List.getElem_mem hi2)⟩
theorem Bag.kp {M : Addr → Prop} {H H' : Hp} {a : Addr} {rs : List Addr} {n : Nat} (k : Kp M H H') (m : ¬ M a) (ms : ∀ r ∈ rs, ¬ M r) (b : Bag H a rs n) : Bag H' a rs n :=
  ⟨k.at m b.at_, fun r hr => by
    obtain ⟨xs, e, l⟩ := b.rows r hr
    exact ⟨xs, k.at (ms r hr) e, l⟩⟩
def rd_law_stained (K : PySem.W.Frag) (C_Painting : Addr) : TS :=
 (tSeq (tFor (iTup K (tTup (tCons (tMeth C_Painting "numbers" (sp_Painting_numbers K C_Painting) [] E0 (tVar 0) tNil) (tCons (tMeth C_Painting "picture" (sp_Painting_picture K C_Painting) [] E0 (tVar 0) tNil) tNil)))) (gName 1) (tSeq (tFor (iList K (tVar 1)) (gName 2) (tDrop (tBM K "list" rAppend (tVar 2) (tCons (tC (.int 9)) tNil))))
 (tDrop (tBM K "list" rAppend (tVar 1) (tCons (tLst tNil) tNil)))))
 (tSeq (tDrop (tBM0 K "list" rReverse (tMeth C_Painting "palette" (sp_Painting_palette K C_Painting) [] E0 (tVar 0) tNil)))
 (tSeq (tDrop (tBM K "list" rAppend (tMeth C_Painting "palette" (sp_Painting_palette K C_Painting) [] E0 (tVar 0) tNil) (tCons (tTup tNil) tNil)))
 (tRet (tC (.bl true))))))
theorem sm_law_stained {K : PySem.W.Frag} {C_Painting : Addr} {vs : List V} {H : Hp} {Q : VK} {E : XK} (h : sp_law_stained K C_Painting vs H Q E) : rd_law_stained K C_Painting { nx := fun _ H' => Q .non H', rt := Q } (start ["painting", "some", "row"] vs) H := by
  obtain ⟨v0, rfl, p, F, w, pic, pal, past, rfl, P, W, q⟩ := h
  show rd_law_stained K _ _ [some (.ref p), none, none] H
  unfold rd_law_stained
  have P' := P
  obtain ⟨dx, a1, a2, a3, a4, rs, ss, G, vs, _, PA⟩ := P'
  have hi := PA.hi
  have lm := W.lm
  have sz := nums_size W
  walk_at "s"
  refine ⟨_, rfl, p, F, pic, pal, _, past, rfl, P, by omega, fun a qs H1 f1 k1 g1 nd1 fr1 => ?_⟩
  have hi1 := k1.at (fun z => z) hi
  walk_at "s"
  refine ⟨_, rfl, p, F, pic, pal, _, past, rfl, P.kp0 k1, by omega, fun b us H2 f2 k2 g2 nd2 fr2 => ?_⟩
  walk_at "s"
  intro t H3 f3 k3 h3
  have hB1 : Bag H3 a qs 100 := ((g1.bag (n := 100) fun r hr => by
    obtain ⟨s, hs, rfl⟩ := List.mem_map.mp hr
    rw [List.length_map]; exact sz.2 s hs).kp k2 (fun z => z) fun _ _ z => z).kp k3 (fun z => z) fun _ _ z => z
  have hB2 : Bag H3 b us 100 := (g2.bag (n := 100) fun r hr => by
    obtain ⟨s, hs, rfl⟩ := List.mem_map.mp hr
    rw [List.length_map]; exact W.lr s hs).kp k3 (fun z => z) fun _ _ z => z
  have k03 : Kp no H H3 := (k1.tr0 k2).tr0 k3
  have b0 : H b = none := k1.free f2
  have u0 : ∀ r ∈ us, H r = none := fun r hr => k1.free (fr2 r hr)
  have nba := g1.ne f2
  have nua : ∀ r ∈ us, r ≠ a ∧ r ∉ qs := fun r hr => g1.ne (fr2 r hr)
  have ht : SqT K H3 t [.ref a, .ref b] := SqT.of h3
  walk_at "s"
  refine w_ktupI ht ?_
  refine w_forG (wk_tup (xs := [V.ref a, .ref b])) (fun i σ H' => ∃ c d, σ = [some (.ref p), c, d] ∧ Kp no H H' ∧ SqT K H' t [.ref a, .ref b] ∧ (i ≤ 0 → Bag H' a qs 100) ∧ (i ≤ 1 → Bag H' b us 100)) ⟨none, none, rfl, k03, ht, fun _ => hB1, fun _ => hB2⟩ (fun i σ H' _ ⟨_, _, _, _, h, _⟩ => h) ?_ ?_
  · rintro i x σ H4 H5 hi' ⟨c, d, rfl, k4, ht4, B1, B2⟩ k5 y
    have k05 : Kp no H H5 := k4.tr0 k5
    have ht5 := SqT.kp k5 ht4
    have lq : qs.length ≤ 100 := by
      have := g1.len
      rw [List.length_map] at this
      omega
    have lu : us.length ≤ 100 := by
      have := g2.len
      rw [List.length_map] at this
      omega
    -- one of the two
    obtain ⟨m, ms, hm, Bm, m0, ms0, ndm, lms, oth⟩ : ∃ (m : Addr) (ms : List Addr), x = .ref m ∧ Bag H5 m ms 100 ∧ H m = none ∧ (∀ r ∈ ms, H r = none) ∧ (m :: ms).Nodup ∧ ms.length ≤ 100 ∧ (i + 1 ≤ 1 → Bag H5 b us 100 ∧ b ≠ m ∧ b ∉ ms ∧ ∀ r ∈ us, r ≠ m ∧ r ∉ ms) := by
      match i, hi', y, B1, B2 with
      | 0, _, y, B1, B2 =>
        cases y
        exact ⟨a, qs, rfl, (B1 (Nat.le_refl _)).kp k5 (fun z => z) (fun _ _ z => z), f1, fr1, nd1, lq, fun _ => ⟨(B2 (by omega)).kp k5 (fun z => z) fun _ _ z => z, nba.1, nba.2, nua⟩⟩
      | 1, _, y, B1, B2 =>
        cases y
        exact ⟨b, us, rfl, (B2 (Nat.le_refl _)).kp k5 (fun z => z) (fun _ _ z => z), b0, u0, nd2, lu, fun z => absurd z (by omega)⟩
      | i + 2, h, _, _, _ => exact absurd h (by simp)
    subst hm
    walk_at "s"
    refine w_klist (SqL.of Bm.at_) ?_
    refine w_forG (wk_list (xs := ms.map V.ref)) (fun j σ H' => ∃ d, σ = [some (.ref p), some (.ref m), d] ∧ Kp no H H' ∧ SqT K H' t [.ref a, .ref b] ∧ Bag H' m ms (100 + j) ∧ (i + 1 ≤ 1 → Bag H' b us 100)) ⟨d, rfl, k05, ht5, Bm, fun z => (oth z).1⟩ (fun j σ H' _ ⟨_, _, _, _, B, _⟩ => SqL.of B.at_) ?_ ?_
    · rintro j x σ H6 H7 hj ⟨d, rfl, k6, ht6, B6, O6⟩ k7 y
      rw [List.length_map] at hj
      rw [List.getElem?_map, List.getElem?_eq_getElem hj] at y
      cases y
      have hr := List.getElem_mem hj
      have B7 := B6.kp k7 (fun z => z) fun _ _ z => z
      obtain ⟨xs, e7, lx⟩ := B7.rows _ hr
      walk_at "s"
      intro H8 k8 h8
      have nm : m ≠ ms[j] := fun z => (List.nodup_cons.mp ndm).1 (z ▸ hr)
      refine ⟨_, rfl, (k6.tr0 k7).own (ms0 _ hr) k8, SqT.kp k8 (SqT.kp k7 ht6), ⟨k8.at nm B7.at_, fun r hr' => ?_⟩, fun z => ((O6 z).kp k7 (fun z => z) fun _ _ z => z).kp k8 (fun e => (oth z).2.2.1 (e ▸ hr)) fun r hr' e => ((oth z).2.2.2 r hr').2 (e ▸ hr)⟩
      by_cases z : r = ms[j]
      · subst z
        exact ⟨_, h8, by rw [List.length_append, List.length_singleton]; omega⟩
      · obtain ⟨ys, e, l⟩ := B7.rows r hr'
        exact ⟨ys, k8.at z e, by omega⟩
    · rintro σ H6 ⟨d, rfl, k6, ht6, B6, O6⟩
      walk_at "s"
      refine w_kbmL (SqL.of B6.at_) ?_
      walk_at "s"
      intro e H7 f7 k7 h7
      walk_at "s"
      refine w_append (k7.at (fun z => z) B6.at_) (by rw [List.length_map, sizeLine_eq]; omega) fun H8 k8 h8 => ?_
      walk_at "s"
      exact ⟨_, _, rfl, (k6.tr0 k7).own m0 k8, SqT.kp k8 (SqT.kp k7 ht6), fun z => absurd z (by omega), fun z => ((O6 z).kp k7 (fun z => z) fun _ _ z => z).kp k8 (oth z).2.1 fun r hr' => ((oth z).2.2.2 r hr').1⟩
  · rintro σ H4 ⟨c, d, rfl, k4, ht4, _, _⟩
    have P4 := P.kp0 k4
    have hi4 := k4.at (fun z => z) hi
    walk_at "s"
    refine ⟨_, rfl, p, F, pic, pal, _, past, rfl, P4, fun e H5 f5 k5 L5 => ?_⟩
    obtain ⟨xs, e5, _⟩ := id L5
    walk_at "s"
    refine w_reverse e5 fun H6 k6 h6 => ?_
    have k06 : Kp no H H6 := (k4.tr0 k5).own (k4.free f5) k6
    have P6 := P.kp0 k06
    have hi6 := k06.at (fun z => z) hi
    walk_at "s"
    refine ⟨_, rfl, p, F, pic, pal, _, past, rfl, P6, fun e' H7 f7 k7 L7 => ?_⟩
    obtain ⟨ys, e7, g7⟩ := id L7
    walk_at "s"
    intro t' H8 f8 k8 h8
    walk_at "s"
    refine w_append (k8.at (fun z => z) e7) (by rw [g7.len, List.length_map, sizeLine_eq]; have := W.lp; omega) fun H9 k9 h9 => ?_
    walk_at "s"
    exact q H9 (((k06.tr0 k7).tr0 k8).own (k06.free f7) k9)
theorem w_script {K : PySem.W.Frag} {H : Hp} {Q : VK} {a : Addr} {ns : List Int} (h : SqL K H a (ns.map V.int)) (q : Q (.int ns.length) H) : rLenQ K [.ref a] H Q := w_lenL h (by rw [List.length_map]; exact q)
theorem atI_last {xs : List V} (h : 0 < xs.length) : ∃ v, atI xs (-1) = some v := by
  refine ⟨xs[xs.length - 1], ?_⟩
  unfold atI ixN
  rw [if_neg (by decide)]
  split
  · have e : ((-1 : Int) + (xs.length : Int)).toNat = xs.length - 1 := by omega
    simp [e]
  · omega
theorem w_clear {H : Hp} {Q : VK} {l : Addr} {xs : List V} (h : H l = some (.lst xs)) (q : ∀ H', Kp (at1 l) H H' → H' l = some (.lst []) → Q .non H') : rClear (.ref l) [] H Q :=
  ⟨l, xs, rfl, rfl, h, q _ (Kp.set h rfl rfl) upd_same⟩
theorem w_neOwn {K : PySem.W.Frag} {H : Hp} {Q : VK} {o o' : Addr} {F F' : List Addr} {w : Int} {pic : List (List (List Int))} {pal : List (List Int)} (h1 : On K H o F pic pal) (h2 : On K H o' F' pic pal) (W : Wd w pic pal) (q : Q (.bl false) H) : rNeDD K (.ref o) (.ref o') H Q := by
  obtain ⟨a, b, rs, _, A⟩ := h1
  obtain ⟨a', b', rs', _, B⟩ := h2
  refine ⟨o, o', _, _, rfl, rfl, A.h, B.h, rfl, fun p hp => ?_, q⟩
  simp only [List.mem_cons, List.not_mem_nil, or_false] at hp
  rcases hp with rfl | rfl
  · exact ⟨.ref a', _, valV_pos rfl, A.g.dg.dp, B.g.dg.dp, (ok_pic W).shaped (by decide), (ok_pic W).refl⟩
  · exact ⟨.ref b', _, by rw [valV_neg kne]; exact valV_pos rfl, A.l.dg.dp, B.l.dg.dp, (ok_pal (n := 4) W.pl W.hw W.lp).shaped (by decide), (ok_pal (n := 4) W.pl W.hw W.lp).refl⟩
def sp_law_k62 (K : PySem.W.Frag) : Sp := fun vs H Q _ => ∃ v0, vs = [v0] ∧ ∃ (a : Addr) (ns : List Int), v0 = .ref a ∧ SqL K H a (ns.map V.int) ∧ ns.length ≤ 63 ∧ ∀ H', Q (.bl true) H'
def rd_law_k62 (K : PySem.W.Frag) (C_Painting : Addr) : TS :=
 (tSeq (tFor (iRng1 (tCons (tCB rMax2 (tCons (tC (.int 1)) (tCons (tCB rMin2 (tCons (tCB (rLenQ K) (tCons (tVar 0) tNil)) (tCons (tC (.int 6)) tNil))) tNil))) tNil)) (gName 1) (tSeq (tAsg (tCall (sp_law_world K) [] E0 (tCons (tCall (sp_law_left K) [] E0 (tCons (tVar 0) (tCons (tVar 1) tNil))) tNil)) (gTup K 2 (gCons (gName 2) (gCons (gName 3) gNil))))
 (tSeq (tAsg (tCall (sp_law_copied K) [] E0 (tCons (tVar 3) tNil)) (gName 4))
 (tSeq (tAsg (tMake C_Painting (sp_Painting_init K C_Painting) [] E0 (tCons (tDGet (tVar 4) (tC (.str "picture"))) (tCons (tDGet (tVar 4) (tC (.str "palette"))) tNil))) (gName 5))
 (tSeq (tIfS (tOr (tTest (tOp (rNeDD K) (tVar 4) (tVar 3))) (tNot (tB (tCall (sp_law_stands K C_Painting) [] E0 (tCons (tVar 5) (tCons (tVar 3) tNil)))))) (tRet (tC (.bl false))) tNext)
 (tSeq (tDrop (tBM0 K "list" rClear (tDGet (tVar 4) (tC (.str "palette")))))
 (tSeq (tFor (iList K (tDGet (tVar 4) (tC (.str "picture")))) (gName 6) (tAsg (tOp (rIxL K) (tVar 6) (tUn rNegI (tC (.int 1)))) (gSub (tVar 6) (tC (.int 0)) rSetL)))
 (tSeq (tDrop (tBM0 K "list" rReverse (tDGet (tVar 4) (tC (.str "picture")))))
 (tSeq (tIfS (tOr (tNot (tB (tCall (sp_law_stained K C_Painting) [] E0 (tCons (tVar 5) tNil)))) (tNot (tB (tCall (sp_law_stands K C_Painting) [] E0 (tCons (tVar 5) (tCons (tVar 3) tNil)))))) (tRet (tC (.bl false))) tNext)
 (tIfS (tOr (tTest (tOp rNotN (tMeth C_Painting "undo" (sp_Painting_undo_k62 K C_Painting) [] E0 (tVar 5) tNil) (tC .non))) (tNot (tB (tCall (sp_law_stands K C_Painting) [] E0 (tCons (tVar 5) (tCons (tVar 3) tNil)))))) (tRet (tC (.bl false))) tNext))))))))))
 (tRet (tC (.bl true))))
theorem sm_law_k62 {K : PySem.W.Frag} {C_Painting : Addr} (fx : PaintC K C_Painting) {vs : List V} {H : Hp} {Q : VK} {E : XK} (h : sp_law_k62 K vs H Q E) : rd_law_k62 K C_Painting { nx := fun _ H' => Q .non H', rt := Q } (start ["script", "k", "kind", "own", "handed", "painting", "row"] vs) H := by
  obtain ⟨v0, rfl, a, ns, rfl, hs, hl, q⟩ := h
  show rd_law_k62 K _ _ [some (.ref a), none, none, none, none, none, none] H
  unfold rd_law_k62
  walk_at "s"
  refine w_forG wk_rng (fun i σ H' => ∃ x1 x2 x3 x4 x5 x6, σ = [some (.ref a), x1, x2, x3, x4, x5, x6] ∧ Kp no H H') ⟨none, none, none, none, none, none, rfl, Kp.refl⟩ (fun _ _ _ _ _ => trivial) ?_ ?_
  · rintro i x σ H1 H2 hi ⟨_, _, _, _, _, _, rfl, k1⟩ k2 rfl
    have k02 : Kp no H H2 := k1.tr0 k2
    walk_at "s"
    refine ⟨_, _, rfl, a, ns, i, rfl, by simp, SqL.kp k02 (fun z => z) hs, fun l H3 f3 k3 R3 => ?_⟩
    have k03 : Kp no H H3 := k02.tr0 k3
    walk_at "s"
    refine ⟨_, rfl, l, 0, rfl, R3, by omega, fun t o kv wide span F2 m pic pal H4 h4 hk w1 w5 s3 s1000 fo fF2 O B l40 k4 R4 => ?_⟩
    have W := B.W
    have k04 : Kp no H H4 := k03.own (k02.free f3) k4
    walk_at "s"
    refine ⟨_, rfl, o, F2, wide, pic, pal, rfl, O, W, fun h F3 H5 fh fF3 k5 Oh => ?_⟩
    have O5 := O.kp0 k5
    have ho := O5.dict
    have k05 : Kp no H H5 := k04.tr0 k5
    have hOh := Oh
    obtain ⟨ha, hb, hrs, eF3, Ah⟩ := hOh
    have hh := Ah.h
    walk_at "s"
    intro p dx fp fdx ndx
    have k6 : Kp no H5 (upd (upd H5 dx (.own p)) p (.ins C_Painting dx [])) := (Kp.new fdx).tr0 (Kp.new (by rw [upd_ne ndx.symm]; exact fp))
    have hi6 : (upd (upd H5 dx (.own p)) p (.ins C_Painting dx [])) p = some (.ins C_Painting dx []) := upd_same
    generalize upd (upd H5 dx (.own p)) p (.ins C_Painting dx []) = H6 at k6 hi6 ⊢
    have Ah6 := Ah.kp k6 (fun z => z) fun _ _ z => z
    refine ⟨_, _, _, rfl, p, dx, ha, hb, hrs, wide, pic, pal, rfl, rfl, rfl, fx, hi6, Ah6.g, Ah6.l, W, fun F H7 k7 P7 fF => ⟨rfl, ?_⟩⟩
    have k06 : Kp no H H6 := k05.tr0 k6
    have p0 : H p = none := k05.free fp
    have k07 : Kp no H H7 := k06.own p0 k7
    have nphF : p ∉ F3 := (Oh.free fp).1
    have nph : p ≠ h := (Oh.free fp).2
    have npF2 : p ∉ F2 := (O5.free fp).1
    have npo : p ≠ o := (O5.free fp).2
    have O7 : On K H7 o F2 pic pal := (O5.kp0 k6).kp k7 (fun z => npo z.symm) fun x hx z => npF2 (z ▸ hx)
    have Oh7 : On K H7 h F3 pic pal := (Oh.kp0 k6).kp k7 (fun z => nph z.symm) fun x hx z => nphF (z ▸ hx)
    have d3 : ∀ x ∈ F3, x ∉ F2 ∧ x ∉ F ∧ x ≠ p ∧ x ≠ o ∧ H x = none := fun x hx => by
      refine ⟨fun z => ?_, fun z => ?_, fun z => nphF (z ▸ hx), fun z => ?_, k04.free (fF3 x hx)⟩
      · obtain ⟨xs, e⟩ := O.there x z
        rw [fF3 x hx] at e; cases e
      · obtain ⟨xs, e⟩ := (Oh.kp0 k6).there x hx
        rw [fF x z] at e; cases e
      · obtain ⟨kvs, e⟩ := O.dict
        rw [← z, fF3 x hx] at e; cases e
    have A7 := Ah6.kp k7 (fun z => nph z.symm) fun x hx z => nphF (by rw [eF3]; exact z ▸ hx)
    have hh7 := A7.h
    walk_at "s"
    refine w_neOwn Oh7 O7 W ?_
    walk_at "s"
    refine ⟨_, _, rfl, p, o, F, F2, wide, pic, pal, [], rfl, rfl, P7, O7, W, fun H8 k8 => ?_⟩
    have A8 := A7.kp k8 (fun z => z) fun _ _ z => z
    have hh8 := A8.h
    have P8 := P7.kp0 k8
    have O8 := O7.kp0 k8
    have k08 : Kp no H H8 := k07.tr0 k8
    have hbF3 : hb ∈ F3 := by rw [eF3]; simp
    have haF3 : ha ∈ F3 := by rw [eF3]; simp
    have hrF3 : ∀ r ∈ hrs, r ∈ F3 := fun r hr => by rw [eF3]; simp [hr]
    have step : ∀ {HA HB : Hp} {x : Addr}, x ∈ F3 → Kp (at1 x) HA HB → Kp no H HA → Pt K C_Painting HA p F pic pal (numsOf pal pic) [] → On K HA o F2 pic pal → Kp no H HB ∧ Pt K C_Painting HB p F pic pal (numsOf pal pic) [] ∧ On K HB o F2 pic pal := by
      intro HA HB x hx kx kA PA OA
      obtain ⟨n1, n2, n3, n4, n5⟩ := d3 x hx
      exact ⟨kA.own n5 kx, PA.kp kx (fun z => n3 z.symm) fun y hy z => n2 (z ▸ hy), OA.kp kx (fun z => n4 z.symm) fun y hy z => n1 (z ▸ hy)⟩
    obtain ⟨xb, eb⟩ := A8.l.there
    walk_at "s"
    refine w_clear eb fun H9 k9 h9 => ?_
    obtain ⟨k09, P9, O9⟩ := step hbF3 k9 k08 P8 O8
    have nd := A8.nd
    simp only [List.nodup_cons, List.mem_cons] at nd
    have nho : h ≠ hb := fun z => by rw [z, eb] at hh8; cases hh8
    have hh9 := k9.at nho hh8
    have g9 := A8.g.kp k9 (fun z => by have z' : ha = hb := z; grind) fun r hr z => by have z' : r = hb := z; grind
    walk_at "s"
    refine w_klist (SqL.of g9.at_) ?_
    have bag9 : ∀ r ∈ hrs, ∃ xs, H9 r = some (.lst xs) ∧ xs.length = m := fun r hr => by
      obtain ⟨j, hj, rfl⟩ := List.getElem_of_mem hr
      have hlen := g9.len
      rw [List.length_map] at hlen
      have hj2 : j < pic.length := by omega
      obtain ⟨xs, e, d⟩ := g9.row j hrs[j] (pic[j].map colD) (List.getElem?_eq_getElem hj) (by rw [List.getElem?_map, List.getElem?_eq_getElem hj2]; rfl)
      exact ⟨xs, e, by rw [d.len, List.length_map]; exact B.sq _ (List.getElem_mem hj2)⟩
    have nhr : ∀ r ∈ hrs, h ≠ r := fun r hr z => by
      obtain ⟨xs, e, _⟩ := bag9 r hr
      rw [← z, hh9] at e; cases e
    refine w_forG (wk_list (xs := hrs.map V.ref)) (fun j σ H' => ∃ d, σ = [some (.ref a), some (.int (0 + (i : Int))), some kv, some (.ref o), some (.ref h), some (.ref p), d] ∧ Kp no H H' ∧ Pt K C_Painting H' p F pic pal (numsOf pal pic) [] ∧ On K H' o F2 pic pal ∧ H' ha = some (.lst (hrs.map V.ref)) ∧ (∀ r ∈ hrs, ∃ xs, H' r = some (.lst xs) ∧ xs.length = m) ∧ H' h = some (.dK (ownK (.ref ha) (.ref hb)))) ⟨_, rfl, k09, P9, O9, g9.at_, bag9, hh9⟩ (fun j σ H' _ ⟨_, _, _, _, _, e, _⟩ => SqL.of e) ?_ ?_
    · rintro j x σ H10 H11 hj ⟨d, rfl, k10, P10, O10, e10, b10, hh10⟩ k11 y
      rw [List.length_map] at hj
      rw [List.getElem?_map, List.getElem?_eq_getElem hj] at y
      cases y
      have hr := List.getElem_mem hj
      obtain ⟨xs, ex, lx⟩ := b10 _ hr
      have ex11 := k11.at (fun z => z) ex
      have m1 := B.m1
      obtain ⟨v, hv⟩ := atI_last (xs := xs) (by omega)
      walk_at "s"
      refine w_ixL (SqL.of ex11) hv ?_
      walk_at "s"
      refine w_setL ex11 (j := 0) (by unfold ixN; rw [if_pos (by decide), if_pos (by omega)]; rfl) fun H12 k12 e12 => ?_
      obtain ⟨k012, P12, O12⟩ := step (hrF3 _ hr) k12 (k10.tr0 k11) (P10.kp0 k11) (O10.kp0 k11)
      have nda : ha ≠ hrs[j] := fun z => by grind
      refine ⟨_, rfl, k012, P12, O12, k12.at nda (k11.at (fun z => z) e10), fun r hr' => ?_, k12.at (nhr _ hr) (k11.at (fun z => z) hh10)⟩
      by_cases z : r = hrs[j]
      · subst z
        exact ⟨_, e12, by rw [List.length_set]; exact lx⟩
      · obtain ⟨ys, e, ly⟩ := b10 r hr'
        exact ⟨ys, k12.at z (k11.at (fun z => z) e), ly⟩
    · rintro σ H10 ⟨d, rfl, k10, P10, O10, e10, b10, hh10⟩
      walk_at "s"
      refine w_reverse e10 fun H11 k11 e11 => ?_
      obtain ⟨k011, P11, O11⟩ := step haF3 k11 k10 P10 O10
      walk_at "s"
      refine ⟨_, rfl, p, F, wide, pic, pal, [], rfl, P11, W, fun H12 k12 => ?_⟩
      walk_at "s"
      refine ⟨_, _, rfl, p, o, F, F2, wide, pic, pal, [], rfl, rfl, P11.kp0 k12, O11.kp0 k12, W, fun H13 k13 => ?_⟩
      have P13 := (P11.kp0 k12).kp0 k13
      have O13 := (O11.kp0 k12).kp0 k13
      have P13' := P13
      obtain ⟨dx3, b1, b2, b3, b4, rs3, ss3, G3, vs3, _, PA13⟩ := P13'
      have hi13 := PA13.hi
      walk_at "s"
      refine ⟨_, rfl, p, F, pic, pal, numsOf pal pic, rfl, P13, ?_⟩
      walk_at "s"
      refine ⟨_, _, rfl, p, o, F, F2, wide, pic, pal, [], rfl, rfl, P13, O13, W, fun H14 k14 => ?_⟩
      walk_at "s"
      exact ⟨_, _, _, _, _, _, rfl, ((k011.tr0 k12).tr0 k13).tr0 k14⟩
  · rintro σ H1 ⟨_, _, _, _, _, _, rfl, k1⟩
    walk_at "s"
    exact q H1

end Fc
namespace Fc
open PySem PySem.Spec PyProof.Rows L2 RZ
theorem blk_here {N : List Str} {sc scope : Scope} {own : List (Str × Nat)} (h : blkC N sc scope own = true) : BlkOk N sc scope own := blkOk_by h
def top (i : Nat) : Stmt := PySem.Challenge.pw_fewcolours_k62_a_painting_at_first.main.body.getD i (.Pass ⟨0, 0, 0, 0⟩)
abbrev s_apart : Stmt := top 2
theorem sc_apart : FnScope ["one", "other", "a", "b"] ["one", "other"] (defScope s_apart) := ⟨rfl, rfl, rfl, by decide +kernel, rfl, by decide +kernel, by decide +kernel⟩
abbrev s_squares_by : Stmt := top 4
theorem sc_squares_by : FnScope ["palette", "colour", "number", "one"] ["palette", "colour"] (defScope s_squares_by) := ⟨rfl, rfl, rfl, by decide +kernel, rfl, by decide +kernel, by decide +kernel⟩
abbrev s_nearest : Stmt := top 5
theorem sc_nearest : FnScope ["palette", "colour"] ["palette", "colour"] (defScope s_nearest) := ⟨rfl, rfl, rfl, by decide +kernel, rfl, by decide +kernel, by decide +kernel⟩
abbrev s_Painting_init : Stmt := inClass (top 7) 0
theorem sc_Painting_init : FnScope ["self", "picture", "palette", "row", "colour"] ["self", "picture", "palette"] (defScope s_Painting_init) := ⟨rfl, rfl, rfl, by decide +kernel, rfl, by decide +kernel, by decide +kernel⟩
abbrev s_Painting_undo_k62 : Stmt := inClass (top 7) 12
theorem sc_Painting_undo_k62 : FnScope ["self", "picture", "palette", "numbers", "gone", "changed", "row", "column", "old", "new"] ["self"] (defScope s_Painting_undo_k62) := ⟨rfl, rfl, rfl, by decide +kernel, rfl, by decide +kernel, by decide +kernel⟩
abbrev s_law_left : Stmt := top 10
theorem sc_law_left : FnScope ["script", "k", "cell"] ["script", "k"] (defScope s_law_left) := ⟨rfl, rfl, rfl, by decide +kernel, rfl, by decide +kernel, by decide +kernel⟩
abbrev s_law_mix : Stmt := top 9
theorem sc_law_mix : FnScope ["cell", "k", "m"] ["cell", "k"] (defScope s_law_mix) := ⟨rfl, rfl, rfl, by decide +kernel, rfl, by decide +kernel, by decide +kernel⟩
abbrev s_law_pick : Stmt := top 11
theorem sc_law_pick : FnScope ["left", "many", "digit"] ["left", "many"] (defScope s_law_pick) := ⟨rfl, rfl, rfl, by decide +kernel, rfl, by decide +kernel, by decide +kernel⟩
abbrev s_law_kind : Stmt := top 12
theorem sc_law_kind : FnScope ["left"] ["left"] (defScope s_law_kind) := ⟨rfl, rfl, rfl, by decide +kernel, rfl, by decide +kernel, by decide +kernel⟩
abbrev s_law_colour : Stmt := top 13
theorem sc_law_colour : FnScope ["left", "kind", "wide", "span", "place"] ["left", "kind"] (defScope s_law_colour) := ⟨rfl, rfl, rfl, by decide +kernel, rfl, by decide +kernel, by decide +kernel⟩
abbrev s_law_palette : Stmt := top 16
theorem sc_law_palette : FnScope ["left", "kind", "many", "found", "k", "colour"] ["left", "kind"] (defScope s_law_palette) := ⟨rfl, rfl, rfl, by decide +kernel, rfl, by decide +kernel, by decide +kernel⟩
abbrev s_law_picture : Stmt := top 17
theorem sc_law_picture : FnScope ["left", "kind", "high", "wide", "some", "found", "row", "spots", "column", "colour", "side", "k"] ["left", "kind"] (defScope s_law_picture) := ⟨rfl, rfl, rfl, by decide +kernel, rfl, by decide +kernel, by decide +kernel⟩
abbrev s_law_world : Stmt := top 19
theorem sc_law_world : FnScope ["left", "kind", "picture", "palette", "many"] ["left"] (defScope s_law_world) := ⟨rfl, rfl, rfl, by decide +kernel, rfl, by decide +kernel, by decide +kernel⟩
abbrev s_Painting_numbers : Stmt := inClass (top 7) 13
theorem sc_Painting_numbers : FnScope ["self", "row"] ["self"] (defScope s_Painting_numbers) := ⟨rfl, rfl, rfl, by decide +kernel, rfl, by decide +kernel, by decide +kernel⟩
abbrev s_Painting_palette : Stmt := inClass (top 7) 14
theorem sc_Painting_palette : FnScope ["self"] ["self"] (defScope s_Painting_palette) := ⟨rfl, rfl, rfl, by decide +kernel, rfl, by decide +kernel, by decide +kernel⟩
abbrev s_Painting_picture : Stmt := inClass (top 7) 15
theorem sc_Painting_picture : FnScope ["self", "row"] ["self"] (defScope s_Painting_picture) := ⟨rfl, rfl, rfl, by decide +kernel, rfl, by decide +kernel, by decide +kernel⟩
abbrev s_Painting_all_spots : Stmt := inClass (top 7) 3
theorem sc_Painting_all_spots : FnScope ["self", "found", "k", "row", "j"] ["self"] (defScope s_Painting_all_spots) := ⟨rfl, rfl, rfl, by decide +kernel, rfl, by decide +kernel, by decide +kernel⟩
abbrev s_Painting_far_now : Stmt := inClass (top 7) 5
theorem sc_Painting_far_now : FnScope ["self", "row", "column", "n"] ["self", "row", "column"] (defScope s_Painting_far_now) := ⟨rfl, rfl, rfl, by decide +kernel, rfl, by decide +kernel, by decide +kernel⟩
abbrev s_Painting_lost : Stmt := inClass (top 7) 16
theorem sc_Painting_lost : FnScope ["self", "row", "column"] ["self"] (defScope s_Painting_lost) := ⟨rfl, rfl, rfl, by decide +kernel, rfl, by decide +kernel, by decide +kernel⟩
abbrev s_law_same : Stmt := top 14
theorem sc_law_same : FnScope ["found", "due", "one", "other"] ["found", "due"] (defScope s_law_same) := ⟨rfl, rfl, rfl, by decide +kernel, rfl, by decide +kernel, by decide +kernel⟩
abbrev s_law_apart : Stmt := top 15
theorem sc_law_apart : FnScope ["one", "other", "a", "b"] ["one", "other"] (defScope s_law_apart) := ⟨rfl, rfl, rfl, by decide +kernel, rfl, by decide +kernel, by decide +kernel⟩
abbrev s_law_nearest : Stmt := top 18
theorem sc_law_nearest : FnScope ["palette", "colour", "k", "one"] ["palette", "colour"] (defScope s_law_nearest) := ⟨rfl, rfl, rfl, by decide +kernel, rfl, by decide +kernel, by decide +kernel⟩
abbrev s_law_numbers : Stmt := top 20
theorem sc_law_numbers : FnScope ["own", "row", "colour"] ["own"] (defScope s_law_numbers) := ⟨rfl, rfl, rfl, by decide +kernel, rfl, by decide +kernel, by decide +kernel⟩
abbrev s_law_lost : Stmt := top 21
theorem sc_law_lost : FnScope ["own", "total", "row", "colour", "one"] ["own"] (defScope s_law_lost) := ⟨rfl, rfl, rfl, by decide +kernel, rfl, by decide +kernel, by decide +kernel⟩
abbrev s_law_stands : Stmt := top 22
theorem sc_law_stands : FnScope ["painting", "own", "told"] ["painting", "own"] (defScope s_law_stands) := ⟨rfl, rfl, rfl, by decide +kernel, rfl, by decide +kernel, by decide +kernel⟩
abbrev s_law_copied : Stmt := top 23
theorem sc_law_copied : FnScope ["own", "row"] ["own"] (defScope s_law_copied) := ⟨rfl, rfl, rfl, by decide +kernel, rfl, by decide +kernel, by decide +kernel⟩
abbrev s_law_stained : Stmt := top 24
theorem sc_law_stained : FnScope ["painting", "some", "row"] ["painting"] (defScope s_law_stained) := ⟨rfl, rfl, rfl, by decide +kernel, rfl, by decide +kernel, by decide +kernel⟩
abbrev s_law_k62 : Stmt := top 25
theorem sc_law_k62 : FnScope ["script", "k", "kind", "own", "handed", "painting", "row"] ["script"] (defScope s_law_k62) := ⟨rfl, rfl, rfl, by decide +kernel, rfl, by decide +kernel, by decide +kernel⟩
structure Txt (K : PySem.W.Frag) (mg : Str → Option Value) (ad : Nat → Addr) (fd : Nat → FuncData) (C_Painting : Addr) : Prop where
  F_apart : Fun K "apart" "apart" s_apart (ad 0) (fd 0)
  b_apart : Binds K (fd 0) ["one", "other"] []
  m_apart : mg "apart" = some (.ref (ad 0))
  F_squares_by : Fun K "squares_by" "squares_by" s_squares_by (ad 1) (fd 1)
  b_squares_by : Binds K (fd 1) ["palette", "colour"] []
  m_squares_by : mg "squares_by" = some (.ref (ad 1))
  F_nearest : Fun K "nearest" "nearest" s_nearest (ad 2) (fd 2)
  b_nearest : Binds K (fd 2) ["palette", "colour"] []
  m_nearest : mg "nearest" = some (.ref (ad 2))
  F_Painting_init : Fun K "__init__" "Painting.__init__" s_Painting_init (ad 3) (fd 3)
  b_Painting_init : Binds K (fd 3) ["self", "picture", "palette"] []
  F_Painting_undo_k62 : Fun K "undo" "Painting.undo" s_Painting_undo_k62 (ad 4) (fd 4)
  b_Painting_undo_k62 : Binds K (fd 4) ["self"] []
  mt_Painting_undo_k62 : Meth K C_Painting "undo" (ad 4)
  F_law_left : Fun K "_law_left" "_law_left" s_law_left (ad 5) (fd 5)
  b_law_left : Binds K (fd 5) ["script", "k"] []
  m_law_left : mg "_law_left" = some (.ref (ad 5))
  F_law_mix : Fun K "_law_mix" "_law_mix" s_law_mix (ad 6) (fd 6)
  b_law_mix : Binds K (fd 6) ["cell", "k"] []
  m_law_mix : mg "_law_mix" = some (.ref (ad 6))
  F_law_pick : Fun K "_law_pick" "_law_pick" s_law_pick (ad 7) (fd 7)
  b_law_pick : Binds K (fd 7) ["left", "many"] []
  m_law_pick : mg "_law_pick" = some (.ref (ad 7))
  F_law_kind : Fun K "_law_kind" "_law_kind" s_law_kind (ad 8) (fd 8)
  b_law_kind : Binds K (fd 8) ["left"] []
  m_law_kind : mg "_law_kind" = some (.ref (ad 8))
  F_law_colour : Fun K "_law_colour" "_law_colour" s_law_colour (ad 9) (fd 9)
  b_law_colour : Binds K (fd 9) ["left", "kind"] []
  m_law_colour : mg "_law_colour" = some (.ref (ad 9))
  F_law_palette : Fun K "_law_palette" "_law_palette" s_law_palette (ad 10) (fd 10)
  b_law_palette : Binds K (fd 10) ["left", "kind"] []
  m_law_palette : mg "_law_palette" = some (.ref (ad 10))
  F_law_picture : Fun K "_law_picture" "_law_picture" s_law_picture (ad 11) (fd 11)
  b_law_picture : Binds K (fd 11) ["left", "kind"] []
  m_law_picture : mg "_law_picture" = some (.ref (ad 11))
  F_law_world : Fun K "_law_world" "_law_world" s_law_world (ad 12) (fd 12)
  b_law_world : Binds K (fd 12) ["left"] []
  m_law_world : mg "_law_world" = some (.ref (ad 12))
  F_Painting_numbers : Fun K "numbers" "Painting.numbers" s_Painting_numbers (ad 13) (fd 13)
  b_Painting_numbers : Binds K (fd 13) ["self"] []
  mt_Painting_numbers : Meth K C_Painting "numbers" (ad 13)
  F_Painting_palette : Fun K "palette" "Painting.palette" s_Painting_palette (ad 14) (fd 14)
  b_Painting_palette : Binds K (fd 14) ["self"] []
  mt_Painting_palette : Meth K C_Painting "palette" (ad 14)
  F_Painting_picture : Fun K "picture" "Painting.picture" s_Painting_picture (ad 15) (fd 15)
  b_Painting_picture : Binds K (fd 15) ["self"] []
  mt_Painting_picture : Meth K C_Painting "picture" (ad 15)
  F_Painting_all_spots : Fun K "all_spots" "Painting.all_spots" s_Painting_all_spots (ad 16) (fd 16)
  b_Painting_all_spots : Binds K (fd 16) ["self"] []
  mt_Painting_all_spots : Meth K C_Painting "all_spots" (ad 16)
  F_Painting_far_now : Fun K "far_now" "Painting.far_now" s_Painting_far_now (ad 17) (fd 17)
  b_Painting_far_now : Binds K (fd 17) ["self", "row", "column"] []
  mt_Painting_far_now : Meth K C_Painting "far_now" (ad 17)
  F_Painting_lost : Fun K "lost" "Painting.lost" s_Painting_lost (ad 18) (fd 18)
  b_Painting_lost : Binds K (fd 18) ["self"] []
  mt_Painting_lost : Meth K C_Painting "lost" (ad 18)
  F_law_same : Fun K "_law_same" "_law_same" s_law_same (ad 19) (fd 19)
  b_law_same : Binds K (fd 19) ["found", "due"] []
  m_law_same : mg "_law_same" = some (.ref (ad 19))
  F_law_apart : Fun K "_law_apart" "_law_apart" s_law_apart (ad 20) (fd 20)
  b_law_apart : Binds K (fd 20) ["one", "other"] []
  m_law_apart : mg "_law_apart" = some (.ref (ad 20))
  F_law_nearest : Fun K "_law_nearest" "_law_nearest" s_law_nearest (ad 21) (fd 21)
  b_law_nearest : Binds K (fd 21) ["palette", "colour"] []
  m_law_nearest : mg "_law_nearest" = some (.ref (ad 21))
  F_law_numbers : Fun K "_law_numbers" "_law_numbers" s_law_numbers (ad 22) (fd 22)
  b_law_numbers : Binds K (fd 22) ["own"] []
  m_law_numbers : mg "_law_numbers" = some (.ref (ad 22))
  F_law_lost : Fun K "_law_lost" "_law_lost" s_law_lost (ad 23) (fd 23)
  b_law_lost : Binds K (fd 23) ["own"] []
  m_law_lost : mg "_law_lost" = some (.ref (ad 23))
  F_law_stands : Fun K "_law_stands" "_law_stands" s_law_stands (ad 24) (fd 24)
  b_law_stands : Binds K (fd 24) ["painting", "own"] []
  m_law_stands : mg "_law_stands" = some (.ref (ad 24))
  F_law_copied : Fun K "_law_copied" "_law_copied" s_law_copied (ad 25) (fd 25)
  b_law_copied : Binds K (fd 25) ["own"] []
  m_law_copied : mg "_law_copied" = some (.ref (ad 25))
  F_law_stained : Fun K "_law_stained" "_law_stained" s_law_stained (ad 26) (fd 26)
  b_law_stained : Binds K (fd 26) ["painting"] []
  m_law_stained : mg "_law_stained" = some (.ref (ad 26))
  F_law_k62 : Fun K "law" "law" s_law_k62 (ad 27) (fd 27)
  b_law_k62 : Binds K (fd 27) ["script"] []
  m_law_k62 : mg "law" = some (.ref (ad 27))
  mc_Painting : mg "Painting" = some (.ref C_Painting)
  cl_Painting : Cls K C_Painting
  mk_Painting : Mk K C_Painting (ad 3)
  fx_PaintC : PaintC K C_Painting
  n_abs : mg "abs" = none
  n_all : mg "all" = none
  n_bool : mg "bool" = none
  n_enumerate : mg "enumerate" = none
  n_int : mg "int" = none
  n_isinstance : mg "isinstance" = none
  n_len : mg "len" = none
  n_list : mg "list" = none
  n_max : mg "max" = none
  n_min : mg "min" = none
  n_range : mg "range" = none
  n_str : mg "str" = none
  n_sum : mg "sum" = none
  n_tuple : mg "tuple" = none
  n_zip : mg "zip" = none
theorem dv_apart {P : Program} {w : World} {K : PySem.W.Frag} {mg : Str → Option Value} {base : Heap} {ad : Nat → Addr} {fd : Nat → FuncData} {C_Painting : Addr} (T : Txt K mg ad fd C_Painting) {cdv : Value} {A : Around} {outer : List Env} {s : Shared} {H : Hp} {E : XK} (hr : Room 0 (A.deeper (envOfC "apart" (defScope s_apart) s.heap.objs.size (ad 0) cdv))) :
  PSs (cxOf CX0 P w K mg base ["one", "other", "a", "b"] "apart" (defScope s_apart) (ad 0) cdv A outer s H E).nox (defBody s_apart) (rd_apart K) :=
 (pss_one (ps_ret (pe_callB (cr_sum rfl) (by rfl) T.n_sum (by decide +kernel) (pa_cons (pe_lc (own := [("a", 2), ("b", 3)]) (g := (gTup K 2 (gCons (gName 2) (gCons (gName 3) gNil)))) (tt := tYes) rfl sc_apart.nd (pi_zipA (by rfl) T.n_zip (pa_cons (pv 0) (pa_cons (pv 1) pa_nil))) (blk_here (by kernel_rfl)) (fun _ _ _ _ _ => (pg_tup rfl (pgs_cons (pg_name (i := 2) sc_apart.nd rfl (Or.inl rfl)) (pgs_cons (pg_name (i := 3) sc_apart.nd rfl (Or.inl rfl)) pgs_nil)))) (fun _ _ _ _ _ => pts_nil) (fun _ _ _ _ _ => (pe_op op_mul (pe_op op_sub (pv 2) (pv 3)) (pe_op op_sub (pv 2) (pv 3))))) pa_nil))))
theorem ok_apart {P : Program} {w : World} {K : PySem.W.Frag} {mg : Str → Option Value} {base : Heap} {ad : Nat → Addr} {fd : Nat → FuncData} {C_Painting : Addr} (T : Txt K mg ad fd C_Painting) : FnOk P w K mg base CX0 1 (ad 0) (fd 0) ["one", "other"] (sp_apart K) :=
  T.F_apart.ok sc_apart (fun vs H Q E h => by
    obtain ⟨_, _, rfl, _⟩ := h
    rfl) (fun cdv A outer s H vs Q E hr h => ⟨_, dv_apart T hr, sm_apart h⟩)
theorem dv_squares_by {P : Program} {w : World} {K : PySem.W.Frag} {mg : Str → Option Value} {base : Heap} {ad : Nat → Addr} {fd : Nat → FuncData} {C_Painting : Addr} (T : Txt K mg ad fd C_Painting) {cdv : Value} {A : Around} {outer : List Env} {s : Shared} {H : Hp} {E : XK} (hr : Room 1 (A.deeper (envOfC "squares_by" (defScope s_squares_by) s.heap.objs.size (ad 1) cdv))) :
  PSs (cxOf CX0 P w K mg base ["palette", "colour", "number", "one"] "squares_by" (defScope s_squares_by) (ad 1) cdv A outer s H E).nox (defBody s_squares_by) (rd_squares_by K) :=
 (pss_one (ps_ret (pe_lc (own := [("number", 2), ("one", 3)]) (g := (gTup K 2 (gCons (gName 2) (gCons (gName 3) gNil)))) (tt := tYes) rfl sc_squares_by.nd (pi_enum (by rfl) T.n_enumerate (pa_cons (pv 0) pa_nil)) (blk_here (by kernel_rfl)) (fun _ _ _ _ _ => (pg_tup rfl (pgs_cons (pg_name (i := 2) sc_squares_by.nd rfl (Or.inl rfl)) (pgs_cons (pg_name (i := 3) sc_squares_by.nd rfl (Or.inl rfl)) pgs_nil)))) (fun _ _ _ _ _ => pts_nil) (fun _ _ _ _ _ => (pe_tup (pa_cons (pe_call (ok_apart T) (hr.mono (by decide)) (by rfl) T.m_apart T.F_apart.kp T.b_apart .nil pass0 (pa_cons (pv 3) (pa_cons (pv 1) pa_nil))) (pa_cons (pv 2) pa_nil)))))))
theorem ok_squares_by {P : Program} {w : World} {K : PySem.W.Frag} {mg : Str → Option Value} {base : Heap} {ad : Nat → Addr} {fd : Nat → FuncData} {C_Painting : Addr} (T : Txt K mg ad fd C_Painting) : FnOk P w K mg base CX0 2 (ad 1) (fd 1) ["palette", "colour"] (sp_squares_by K) :=
  T.F_squares_by.ok sc_squares_by (fun vs H Q E h => by
    obtain ⟨_, _, rfl, _⟩ := h
    rfl) (fun cdv A outer s H vs Q E hr h => ⟨_, dv_squares_by T hr, sm_squares_by h⟩)
theorem dv_nearest {P : Program} {w : World} {K : PySem.W.Frag} {mg : Str → Option Value} {base : Heap} {ad : Nat → Addr} {fd : Nat → FuncData} {C_Painting : Addr} (T : Txt K mg ad fd C_Painting) {cdv : Value} {A : Around} {outer : List Env} {s : Shared} {H : Hp} {E : XK} (hr : Room 2 (A.deeper (envOfC "nearest" (defScope s_nearest) s.heap.objs.size (ad 2) cdv))) :
  PSs (cxOf CX0 P w K mg base ["palette", "colour"] "nearest" (defScope s_nearest) (ad 2) cdv A outer s H E).nox (defBody s_nearest) (rd_nearest K) :=
 (pss_one (ps_ret (pe_ix ix_tup (pe_callB (cr_minD rfl hr.units) (by rfl) T.n_min (by decide +kernel) (pa_cons (pe_call (ok_squares_by T) (hr.mono (by decide)) (by rfl) T.m_squares_by T.F_squares_by.kp T.b_squares_by .nil pass0 (pa_cons (pv 0) (pa_cons (pv 1) pa_nil))) pa_nil)) pe_int (fun _ _ => rfl))))
theorem ok_nearest {P : Program} {w : World} {K : PySem.W.Frag} {mg : Str → Option Value} {base : Heap} {ad : Nat → Addr} {fd : Nat → FuncData} {C_Painting : Addr} (T : Txt K mg ad fd C_Painting) : FnOk P w K mg base CX0 3 (ad 2) (fd 2) ["palette", "colour"] (sp_nearest K) :=
  T.F_nearest.ok sc_nearest (fun vs H Q E h => by
    obtain ⟨_, _, rfl, _⟩ := h
    rfl) (fun cdv A outer s H vs Q E hr h => ⟨_, dv_nearest T hr, sm_nearest h⟩)
theorem dv_Painting_init {P : Program} {w : World} {K : PySem.W.Frag} {mg : Str → Option Value} {base : Heap} {ad : Nat → Addr} {fd : Nat → FuncData} {C_Painting : Addr} (T : Txt K mg ad fd C_Painting) {cdv : Value} {A : Around} {outer : List Env} {s : Shared} {H : Hp} {E : XK} (hr : Room 3 (A.deeper (envOfC "Painting.__init__" (defScope s_Painting_init) s.heap.objs.size (ad 3) cdv))) :
  PSs (cxOf CX0 P w K mg base ["self", "picture", "palette", "row", "colour"] "Painting.__init__" (defScope s_Painting_init) (ad 3) cdv A outer s H E).nox (defBody s_Painting_init) (rd_Painting_init K) :=
 (pss_cons (ps_fld (pv 0) (pe_lc (own := [("row", 3)]) (g := (gName 3)) (tt := tYes) rfl sc_Painting_init.nd (pi_list (pv 1)) (blk_here (by kernel_rfl)) (fun _ _ _ _ _ => (pg_name (i := 3) sc_Painting_init.nd rfl (Or.inl rfl))) (fun _ _ _ _ _ => pts_nil) (fun _ _ _ _ _ => (pe_lc (own := [("colour", 4)]) (g := (gName 4)) (tt := tYes) rfl sc_Painting_init.nd (pi_list (pv 3)) (blk_here (by kernel_rfl)) (fun _ _ _ _ _ => (pg_name (i := 4) sc_Painting_init.nd rfl (Or.inl rfl))) (fun _ _ _ _ _ => pts_nil) (fun _ _ _ _ _ => (pe_callTy call_tuple_of (by rfl) T.n_tuple (by decide +kernel) (pa_cons (pv 4) pa_nil)))))) rfl)
 (pss_cons (ps_fld (pv 0) (pe_lc (own := [("colour", 4)]) (g := (gName 4)) (tt := tYes) rfl sc_Painting_init.nd (pi_list (pv 2)) (blk_here (by kernel_rfl)) (fun _ _ _ _ _ => (pg_name (i := 4) sc_Painting_init.nd rfl (Or.inl rfl))) (fun _ _ _ _ _ => pts_nil) (fun _ _ _ _ _ => (pe_callTy call_tuple_of (by rfl) T.n_tuple (by decide +kernel) (pa_cons (pv 4) pa_nil)))) rfl)
 (pss_cons (ps_fld (pv 0) (pe_lc (own := [("row", 3)]) (g := (gName 3)) (tt := tYes) rfl sc_Painting_init.nd (pi_list (pe_fld (pv 0) rfl)) (blk_here (by kernel_rfl)) (fun _ _ _ _ _ => (pg_name (i := 3) sc_Painting_init.nd rfl (Or.inl rfl))) (fun _ _ _ _ _ => pts_nil) (fun _ _ _ _ _ => (pe_lc (own := [("colour", 4)]) (g := (gName 4)) (tt := tYes) rfl sc_Painting_init.nd (pi_list (pv 3)) (blk_here (by kernel_rfl)) (fun _ _ _ _ _ => (pg_name (i := 4) sc_Painting_init.nd rfl (Or.inl rfl))) (fun _ _ _ _ _ => pts_nil) (fun _ _ _ _ _ => (pe_call (ok_nearest T) (hr.mono (by decide)) (by rfl) T.m_nearest T.F_nearest.kp T.b_nearest .nil pass0 (pa_cons (pe_fld (pv 0) rfl) (pa_cons (pv 4) pa_nil))))))) rfl)
 (pss_one (ps_fld (pv 0) (pe_lst pa_nil) rfl)))))
theorem ok_Painting_init {P : Program} {w : World} {K : PySem.W.Frag} {mg : Str → Option Value} {base : Heap} {ad : Nat → Addr} {fd : Nat → FuncData} {C_Painting : Addr} (T : Txt K mg ad fd C_Painting) : FnOk P w K mg base CX0 4 (ad 3) (fd 3) ["self", "picture", "palette"] (sp_Painting_init K C_Painting) :=
  T.F_Painting_init.ok sc_Painting_init (fun vs H Q E h => by
    obtain ⟨_, _, _, rfl, _⟩ := h
    rfl) (fun cdv A outer s H vs Q E hr h => ⟨_, dv_Painting_init T hr, sm_Painting_init h⟩)
theorem dv_Painting_undo_k62 {P : Program} {w : World} {K : PySem.W.Frag} {mg : Str → Option Value} {base : Heap} {ad : Nat → Addr} {fd : Nat → FuncData} {C_Painting : Addr} (T : Txt K mg ad fd C_Painting) {cdv : Value} {A : Around} {outer : List Env} {s : Shared} {H : Hp} {E : XK} (hr : Room 0 (A.deeper (envOfC "Painting.undo" (defScope s_Painting_undo_k62) s.heap.objs.size (ad 4) cdv))) :
  PSs (cxOf CX0 P w K mg base ["self", "picture", "palette", "numbers", "gone", "changed", "row", "column", "old", "new"] "Painting.undo" (defScope s_Painting_undo_k62) (ad 4) cdv A outer s H E).nox (defBody s_Painting_undo_k62) (rd_Painting_undo_k62 K) :=
 (pss_cons (ps_if (pt_cmpR op_eq (pe_callB call_len_seq (by rfl) T.n_len (by decide +kernel) (pa_cons (pe_fld (pv 0) rfl) pa_nil)) pe_int (nomark _)) (pss_one (ps_ret pe_non)) pss_nil)
 pss_never)
theorem ok_Painting_undo_k62 {P : Program} {w : World} {K : PySem.W.Frag} {mg : Str → Option Value} {base : Heap} {ad : Nat → Addr} {fd : Nat → FuncData} {C_Painting : Addr} (T : Txt K mg ad fd C_Painting) : FnOk P w K mg base CX0 1 (ad 4) (fd 4) ["self"] (sp_Painting_undo_k62 K C_Painting) :=
  T.F_Painting_undo_k62.ok sc_Painting_undo_k62 (fun vs H Q E h => by
    obtain ⟨_, rfl, _⟩ := h
    rfl) (fun cdv A outer s H vs Q E hr h => ⟨_, dv_Painting_undo_k62 T hr, sm_Painting_undo_k62 h⟩)
theorem dv_law_left {P : Program} {w : World} {K : PySem.W.Frag} {mg : Str → Option Value} {base : Heap} {ad : Nat → Addr} {fd : Nat → FuncData} {C_Painting : Addr} (T : Txt K mg ad fd C_Painting) {cdv : Value} {A : Around} {outer : List Env} {s : Shared} {H : Hp} {E : XK} (hr : Room 0 (A.deeper (envOfC "_law_left" (defScope s_law_left) s.heap.objs.size (ad 5) cdv))) :
  PSs (cxOf CX0 P w K mg base ["script", "k", "cell"] "_law_left" (defScope s_law_left) (ad 5) cdv A outer s H E).nox (defBody s_law_left) (rd_law_left K) :=
 (pss_cons (ps_asg (pe_ifExp (pt_cmpR op_lt (pv 1) (pe_callB call_len_seq (by rfl) T.n_len (by decide +kernel) (pa_cons (pv 0) pa_nil)) (nomark _)) (pe_ix ix_list (pv 0) (pv 1) (fun _ _ => rfl)) pe_int) (pg_name (i := 2) sc_law_left.nd rfl (Or.inl rfl)))
 (pss_one (ps_ret (pe_lst (pa_cons (pe_op op_mul (pe_callB call_abs (by rfl) T.n_abs (by decide +kernel) (pa_cons (pv 2) pa_nil)) (pe_callTy call_int1 (by rfl) T.n_int (by decide +kernel) (pa_cons (pe_cmpR op_ge (pe_callB call_abs (by rfl) T.n_abs (by decide +kernel) (pa_cons (pv 2) pa_nil)) (pe_op op_pow pe_int pe_int) (nomark _)) pa_nil))) (pa_cons (pe_op op_add (pv 2) (pe_op op_mul pe_int (pv 1))) (pa_cons pe_int pa_nil)))))))
theorem ok_law_left {P : Program} {w : World} {K : PySem.W.Frag} {mg : Str → Option Value} {base : Heap} {ad : Nat → Addr} {fd : Nat → FuncData} {C_Painting : Addr} (T : Txt K mg ad fd C_Painting) : FnOk P w K mg base CX0 1 (ad 5) (fd 5) ["script", "k"] (sp_law_left K) :=
  T.F_law_left.ok sc_law_left (fun vs H Q E h => by
    obtain ⟨_, _, rfl, _⟩ := h
    rfl) (fun cdv A outer s H vs Q E hr h => ⟨_, dv_law_left T hr, sm_law_left h⟩)
theorem dv_law_mix {P : Program} {w : World} {K : PySem.W.Frag} {mg : Str → Option Value} {base : Heap} {ad : Nat → Addr} {fd : Nat → FuncData} {C_Painting : Addr} (T : Txt K mg ad fd C_Painting) {cdv : Value} {A : Around} {outer : List Env} {s : Shared} {H : Hp} {E : XK} (hr : Room 0 (A.deeper (envOfC "_law_mix" (defScope s_law_mix) s.heap.objs.size (ad 6) cdv))) :
  PSs (cxOf CX0 P w K mg base ["cell", "k", "m"] "_law_mix" (defScope s_law_mix) (ad 6) cdv A outer s H E).nox (defBody s_law_mix) (rd_law_mix K) :=
 (pss_cons (ps_asg (pe_op op_mod (pe_op op_mul (pe_op op_add (pe_op op_add (pe_op op_mod (pv 0) pe_int) (pe_op op_mul (pe_op op_mul (pv 1) (pv 1)) pe_int)) pe_int) pe_int) pe_int) (pg_name (i := 2) sc_law_mix.nd rfl (Or.inl rfl)))
 (pss_one (ps_ret (pe_op op_mod (pe_op op_mul (pv 2) (pv 2)) pe_int))))
theorem ok_law_mix {P : Program} {w : World} {K : PySem.W.Frag} {mg : Str → Option Value} {base : Heap} {ad : Nat → Addr} {fd : Nat → FuncData} {C_Painting : Addr} (T : Txt K mg ad fd C_Painting) : FnOk P w K mg base CX0 1 (ad 6) (fd 6) ["cell", "k"] (sp_law_mix K) :=
  T.F_law_mix.ok sc_law_mix (fun vs H Q E h => by
    obtain ⟨_, _, rfl, _⟩ := h
    rfl) (fun cdv A outer s H vs Q E hr h => ⟨_, dv_law_mix T hr, sm_law_mix h⟩)
theorem dv_law_pick {P : Program} {w : World} {K : PySem.W.Frag} {mg : Str → Option Value} {base : Heap} {ad : Nat → Addr} {fd : Nat → FuncData} {C_Painting : Addr} (T : Txt K mg ad fd C_Painting) {cdv : Value} {A : Around} {outer : List Env} {s : Shared} {H : Hp} {E : XK} (hr : Room 1 (A.deeper (envOfC "_law_pick" (defScope s_law_pick) s.heap.objs.size (ad 7) cdv))) :
  PSs (cxOf CX0 P w K mg base ["left", "many", "digit"] "_law_pick" (defScope s_law_pick) (ad 7) cdv A outer s H E).nox (defBody s_law_pick) (rd_law_pick K) :=
 (pss_cons (ps_asg (pe_op op_add (pe_ix ix_list (pv 0) pe_int (fun _ _ => rfl)) pe_int) (pg_sub (pv 0) pe_int set_list))
 (pss_cons (ps_if (pt_cmpR op_gt (pe_ix ix_list (pv 0) pe_int (fun _ _ => rfl)) pe_int (nomark _)) (pss_cons (ps_asg (pe_op op_mod (pe_ix ix_list (pv 0) pe_int (fun _ _ => rfl)) (pv 1)) (pg_name (i := 2) sc_law_pick.nd rfl (Or.inl rfl)))
 (pss_cons (ps_asg (pe_op op_fdiv (pe_ix ix_list (pv 0) pe_int (fun _ _ => rfl)) (pv 1)) (pg_sub (pv 0) pe_int set_list))
 (pss_one (ps_ret (pv 2))))) pss_nil)
 (pss_one (ps_ret (pe_op op_mod (pe_op op_fdiv (pe_call (ok_law_mix T) (hr.mono (by decide)) (by rfl) T.m_law_mix T.F_law_mix.kp T.b_law_mix .nil pass0 (pa_cons (pe_call (ok_law_mix T) (hr.mono (by decide)) (by rfl) T.m_law_mix T.F_law_mix.kp T.b_law_mix .nil pass0 (pa_cons (pe_ix ix_list (pv 0) pe_int (fun _ _ => rfl)) (pa_cons (pe_ix ix_list (pv 0) pe_int (fun _ _ => rfl)) pa_nil))) (pa_cons (pe_op op_add (pe_ix ix_list (pv 0) pe_int (fun _ _ => rfl)) pe_int) pa_nil))) pe_int) (pv 1))))))
theorem ok_law_pick {P : Program} {w : World} {K : PySem.W.Frag} {mg : Str → Option Value} {base : Heap} {ad : Nat → Addr} {fd : Nat → FuncData} {C_Painting : Addr} (T : Txt K mg ad fd C_Painting) : FnOk P w K mg base CX0 2 (ad 7) (fd 7) ["left", "many"] (sp_law_pick K) :=
  T.F_law_pick.ok sc_law_pick (fun vs H Q E h => by
    obtain ⟨_, _, rfl, _⟩ := h
    rfl) (fun cdv A outer s H vs Q E hr h => ⟨_, dv_law_pick T hr, sm_law_pick h⟩)
theorem dv_law_kind {P : Program} {w : World} {K : PySem.W.Frag} {mg : Str → Option Value} {base : Heap} {ad : Nat → Addr} {fd : Nat → FuncData} {C_Painting : Addr} (T : Txt K mg ad fd C_Painting) {cdv : Value} {A : Around} {outer : List Env} {s : Shared} {H : Hp} {E : XK} (hr : Room 2 (A.deeper (envOfC "_law_kind" (defScope s_law_kind) s.heap.objs.size (ad 8) cdv))) :
  PSs (cxOf CX0 P w K mg base ["left"] "_law_kind" (defScope s_law_kind) (ad 8) cdv A outer s H E).nox (defBody s_law_kind) (rd_law_kind K) :=
 (pss_one (ps_ret (pe_tup (pa_cons (pe_ix ix_list (pe_lst (pa_cons pe_int (pa_cons pe_int (pa_cons pe_int (pa_cons pe_int (pa_cons pe_int (pa_cons pe_int (pa_cons pe_int (pa_cons pe_int pa_nil))))))))) (pe_call (ok_law_pick T) (hr.mono (by decide)) (by rfl) T.m_law_pick T.F_law_pick.kp T.b_law_pick .nil pass0 (pa_cons (pv 0) (pa_cons pe_int pa_nil))) (fun _ _ => rfl)) (pa_cons (pe_ix ix_list (pe_lst (pa_cons pe_int (pa_cons pe_int (pa_cons pe_int (pa_cons pe_int (pa_cons pe_int (pa_cons pe_int pa_nil))))))) (pe_call (ok_law_pick T) (hr.mono (by decide)) (by rfl) T.m_law_pick T.F_law_pick.kp T.b_law_pick .nil pass0 (pa_cons (pv 0) (pa_cons pe_int pa_nil))) (fun _ _ => rfl)) pa_nil)))))
theorem ok_law_kind {P : Program} {w : World} {K : PySem.W.Frag} {mg : Str → Option Value} {base : Heap} {ad : Nat → Addr} {fd : Nat → FuncData} {C_Painting : Addr} (T : Txt K mg ad fd C_Painting) : FnOk P w K mg base CX0 3 (ad 8) (fd 8) ["left"] (sp_law_kind K) :=
  T.F_law_kind.ok sc_law_kind (fun vs H Q E h => by
    obtain ⟨_, rfl, _⟩ := h
    rfl) (fun cdv A outer s H vs Q E hr h => ⟨_, dv_law_kind T hr, sm_law_kind h⟩)
theorem dv_law_colour {P : Program} {w : World} {K : PySem.W.Frag} {mg : Str → Option Value} {base : Heap} {ad : Nat → Addr} {fd : Nat → FuncData} {C_Painting : Addr} (T : Txt K mg ad fd C_Painting) {cdv : Value} {A : Around} {outer : List Env} {s : Shared} {H : Hp} {E : XK} (hr : Room 2 (A.deeper (envOfC "_law_colour" (defScope s_law_colour) s.heap.objs.size (ad 9) cdv))) :
  PSs (cxOf CX0 P w K mg base ["left", "kind", "wide", "span", "place"] "_law_colour" (defScope s_law_colour) (ad 9) cdv A outer s H E).nox (defBody s_law_colour) (rd_law_colour K) :=
 (pss_cons (ps_asg (pv 1) (pg_tup rfl (pgs_cons (pg_name (i := 2) sc_law_colour.nd rfl (Or.inl rfl)) (pgs_cons (pg_name (i := 3) sc_law_colour.nd rfl (Or.inr rfl)) pgs_nil))))
 (pss_one (ps_ret (pe_callTy call_tuple_of (by rfl) T.n_tuple (by decide +kernel) (pa_cons (pe_lc (own := [("place", 4)]) (g := (gName 4)) (tt := tYes) rfl sc_law_colour.nd (pi_range1 (by rfl) T.n_range (pa_cons (pv 2) pa_nil)) (blk_here (by kernel_rfl)) (fun _ _ _ _ _ => (pg_name (i := 4) sc_law_colour.nd rfl (Or.inl rfl))) (fun _ _ _ _ _ => pts_nil) (fun _ _ _ _ _ => (pe_ix ix_list (pe_lst (pa_cons (pe_call (ok_law_pick T) (hr.mono (by decide)) (by rfl) T.m_law_pick T.F_law_pick.kp T.b_law_pick .nil pass0 (pa_cons (pv 0) (pa_cons (pv 3) pa_nil))) (pa_cons pe_int pa_nil))) (pe_callTy call_int1 (by rfl) T.n_int (by decide +kernel) (pa_cons (pe_cmpR op_eq (pe_call (ok_law_pick T) (hr.mono (by decide)) (by rfl) T.m_law_pick T.F_law_pick.kp T.b_law_pick .nil pass0 (pa_cons (pv 0) (pa_cons pe_int pa_nil))) pe_int (nomark _)) pa_nil)) (fun _ _ => rfl)))) pa_nil)))))
theorem ok_law_colour {P : Program} {w : World} {K : PySem.W.Frag} {mg : Str → Option Value} {base : Heap} {ad : Nat → Addr} {fd : Nat → FuncData} {C_Painting : Addr} (T : Txt K mg ad fd C_Painting) : FnOk P w K mg base CX0 3 (ad 9) (fd 9) ["left", "kind"] (sp_law_colour K) :=
  T.F_law_colour.ok sc_law_colour (fun vs H Q E h => by
    obtain ⟨_, _, rfl, _⟩ := h
    rfl) (fun cdv A outer s H vs Q E hr h => ⟨_, dv_law_colour T hr, sm_law_colour h⟩)
theorem dv_law_palette {P : Program} {w : World} {K : PySem.W.Frag} {mg : Str → Option Value} {base : Heap} {ad : Nat → Addr} {fd : Nat → FuncData} {C_Painting : Addr} (T : Txt K mg ad fd C_Painting) {cdv : Value} {A : Around} {outer : List Env} {s : Shared} {H : Hp} {E : XK} (hr : Room 3 (A.deeper (envOfC "_law_palette" (defScope s_law_palette) s.heap.objs.size (ad 10) cdv))) :
  PSs (cxOf CX0 P w K mg base ["left", "kind", "many", "found", "k", "colour"] "_law_palette" (defScope s_law_palette) (ad 10) cdv A outer s H E).nox (defBody s_law_palette) (rd_law_palette K) :=
 (pss_cons (ps_asg (pe_ix ix_list (pe_lst (pa_cons pe_int (pa_cons pe_int (pa_cons pe_int (pa_cons pe_int (pa_cons pe_int (pa_cons pe_int (pa_cons pe_int (pa_cons (pe_op op_add pe_int (pe_call (ok_law_pick T) (hr.mono (by decide)) (by rfl) T.m_law_pick T.F_law_pick.kp T.b_law_pick .nil pass0 (pa_cons (pv 0) (pa_cons pe_int pa_nil)))) pa_nil))))))))) (pe_call (ok_law_pick T) (hr.mono (by decide)) (by rfl) T.m_law_pick T.F_law_pick.kp T.b_law_pick .nil pass0 (pa_cons (pv 0) (pa_cons pe_int pa_nil))) (fun _ _ => rfl)) (pg_name (i := 2) sc_law_palette.nd rfl (Or.inl rfl)))
 (pss_cons (ps_asg (pe_lst pa_nil) (pg_name (i := 3) sc_law_palette.nd rfl (Or.inl rfl)))
 (pss_cons (ps_for PassesOwn.never rfl (pi_range1 (by rfl) T.n_range (pa_cons (pv 2) pa_nil)) (pg_name (i := 4) sc_law_palette.nd rfl (Or.inl rfl)) (pss_cons (ps_asg (pe_call (ok_law_colour T) (hr.mono (by decide)) (by rfl) T.m_law_colour T.F_law_colour.kp T.b_law_colour .nil pass0 (pa_cons (pv 0) (pa_cons (pv 1) pa_nil))) (pg_name (i := 5) sc_law_palette.nd rfl (Or.inl rfl)))
 (Evl.pss_cut (ps_if (PW.pt (pw_and (pt_cmpR (op_neD hr.units) (pv 3) (pe_lst pa_nil) (nomark _)) (pw_and1 (pt_cmpR op_eq (pe_call (ok_law_pick T) (hr.mono (by decide)) (by rfl) T.m_law_pick T.F_law_pick.kp T.b_law_pick .nil pass0 (pa_cons (pv 0) (pa_cons pe_int pa_nil))) pe_int (nomark _))))) (pss_one (ps_asg (pe_ix ix_list (pv 3) (pe_call (ok_law_pick T) (hr.mono (by decide)) (by rfl) T.m_law_pick T.F_law_pick.kp T.b_law_pick .nil pass0 (pa_cons (pv 0) (pa_cons (pe_callB call_len_seq (by rfl) T.n_len (by decide +kernel) (pa_cons (pv 3) pa_nil)) pa_nil))) (fun _ _ => rfl)) (pg_name (i := 5) sc_law_palette.nd rfl (Or.inl rfl)))) pss_nil)
 (pss_one (ps_expr (pe_bm PySem.F.plainAttrs_list PySem.F.slot_list_append PySem.F.type_list_append mt_append (pv 3) (pa_cons (pv 5) pa_nil)))))))
 (pss_one (ps_ret (pv 3))))))
theorem ok_law_palette {P : Program} {w : World} {K : PySem.W.Frag} {mg : Str → Option Value} {base : Heap} {ad : Nat → Addr} {fd : Nat → FuncData} {C_Painting : Addr} (T : Txt K mg ad fd C_Painting) : FnOk P w K mg base CX0 4 (ad 10) (fd 10) ["left", "kind"] (sp_law_palette K) :=
  T.F_law_palette.ok sc_law_palette (fun vs H Q E h => by
    obtain ⟨_, _, rfl, _⟩ := h
    rfl) (fun cdv A outer s H vs Q E hr h => ⟨_, dv_law_palette T hr, sm_law_palette h⟩)
theorem dv_law_picture {P : Program} {w : World} {K : PySem.W.Frag} {mg : Str → Option Value} {base : Heap} {ad : Nat → Addr} {fd : Nat → FuncData} {C_Painting : Addr} (T : Txt K mg ad fd C_Painting) {cdv : Value} {A : Around} {outer : List Env} {s : Shared} {H : Hp} {E : XK} (hr : Room 3 (A.deeper (envOfC "_law_picture" (defScope s_law_picture) s.heap.objs.size (ad 11) cdv))) :
  PSs (cxOf CX0 P w K mg base ["left", "kind", "high", "wide", "some", "found", "row", "spots", "column", "colour", "side", "k"] "_law_picture" (defScope s_law_picture) (ad 11) cdv A outer s H E).nox (defBody s_law_picture) (rd_law_picture K) :=
 (pss_cons (ps_asg (pe_lc (own := [("side", 10)]) (g := (gName 10)) (tt := tYes) rfl sc_law_picture.nd (pi_range1 (by rfl) T.n_range (pa_cons pe_int pa_nil)) (blk_here (by kernel_rfl)) (fun _ _ _ _ _ => (pg_name (i := 10) sc_law_picture.nd rfl (Or.inl rfl))) (fun _ _ _ _ _ => pts_nil) (fun _ _ _ _ _ => (pe_ix ix_list (pe_lst (pa_cons (pe_op op_add pe_int (pe_call (ok_law_pick T) (hr.mono (by decide)) (by rfl) T.m_law_pick T.F_law_pick.kp T.b_law_pick .nil pass0 (pa_cons (pv 0) (pa_cons pe_int pa_nil)))) (pa_cons (pe_op op_add pe_int (pe_call (ok_law_pick T) (hr.mono (by decide)) (by rfl) T.m_law_pick T.F_law_pick.kp T.b_law_pick .nil pass0 (pa_cons (pv 0) (pa_cons pe_int pa_nil)))) pa_nil))) (pe_callTy call_int1 (by rfl) T.n_int (by decide +kernel) (pa_cons (pe_cmpR op_eq (pe_call (ok_law_pick T) (hr.mono (by decide)) (by rfl) T.m_law_pick T.F_law_pick.kp T.b_law_pick .nil pass0 (pa_cons (pv 0) (pa_cons pe_int pa_nil))) pe_int (nomark _)) pa_nil)) (fun _ _ => rfl)))) (pg_lst rfl (pgs_cons (pg_name (i := 2) sc_law_picture.nd rfl (Or.inl rfl)) (pgs_cons (pg_name (i := 3) sc_law_picture.nd rfl (Or.inl rfl)) pgs_nil))))
 (pss_cons (ps_setLc (i := 4) (own := [("k", 11)]) (g := (gName 11)) (tt := tYes) rfl sc_law_picture.nd rfl rfl (sw_true rfl rfl rfl (by decide +kernel)) (pi_range1 (by rfl) T.n_range (pa_cons (pe_op op_add pe_int (pe_call (ok_law_pick T) (hr.mono (by decide)) (by rfl) T.m_law_pick T.F_law_pick.kp T.b_law_pick .nil pass0 (pa_cons (pv 0) (pa_cons pe_int pa_nil)))) pa_nil)) (blk_here (by kernel_rfl)) (fun _ _ _ _ _ => (pg_name (i := 11) sc_law_picture.nd rfl (Or.inl rfl))) (fun _ _ _ _ _ => pts_nil) (fun _ _ _ _ _ => (pe_call (ok_law_colour T) (hr.mono (by decide)) (by rfl) T.m_law_colour T.F_law_colour.kp T.b_law_colour .nil pass0 (pa_cons (pv 0) (pa_cons (pv 1) pa_nil)))))
 (pss_cons (ps_asg (pe_lst pa_nil) (pg_name (i := 5) sc_law_picture.nd rfl (Or.inl rfl)))
 (pss_cons (ps_for PassesOwn.never rfl (pi_range1 (by rfl) T.n_range (pa_cons (pv 2) pa_nil)) (pg_name (i := 6) sc_law_picture.nd rfl (Or.inl rfl)) (pss_cons (ps_asg (pe_lst pa_nil) (pg_name (i := 7) sc_law_picture.nd rfl (Or.inl rfl)))
 (pss_cons (ps_for PassesOwn.never rfl (pi_range1 (by rfl) T.n_range (pa_cons (pv 3) pa_nil)) (pg_name (i := 8) sc_law_picture.nd rfl (Or.inl rfl)) (pss_cons (ps_asg (pe_ix ix_list (pv 4) (pe_call (ok_law_pick T) (hr.mono (by decide)) (by rfl) T.m_law_pick T.F_law_pick.kp T.b_law_pick .nil pass0 (pa_cons (pv 0) (pa_cons (pe_callB call_len_seq (by rfl) T.n_len (by decide +kernel) (pa_cons (pv 4) pa_nil)) pa_nil))) (fun _ _ => rfl)) (pg_name (i := 9) sc_law_picture.nd rfl (Or.inl rfl)))
 (Evl.pss_cut (ps_if (pt_cmpR op_eq (pe_call (ok_law_pick T) (hr.mono (by decide)) (by rfl) T.m_law_pick T.F_law_pick.kp T.b_law_pick .nil pass0 (pa_cons (pv 0) (pa_cons pe_int pa_nil))) pe_int (nomark _)) (pss_one (ps_asg (pe_call (ok_law_colour T) (hr.mono (by decide)) (by rfl) T.m_law_colour T.F_law_colour.kp T.b_law_colour .nil pass0 (pa_cons (pv 0) (pa_cons (pv 1) pa_nil))) (pg_name (i := 9) sc_law_picture.nd rfl (Or.inl rfl)))) pss_nil)
 (pss_one (ps_expr (pe_bm PySem.F.plainAttrs_list PySem.F.slot_list_append PySem.F.type_list_append mt_append (pv 7) (pa_cons (pv 9) pa_nil)))))))
 (pss_one (ps_expr (pe_bm PySem.F.plainAttrs_list PySem.F.slot_list_append PySem.F.type_list_append mt_append (pv 5) (pa_cons (pv 7) pa_nil)))))))
 (pss_one (ps_ret (pv 5)))))))
theorem ok_law_picture {P : Program} {w : World} {K : PySem.W.Frag} {mg : Str → Option Value} {base : Heap} {ad : Nat → Addr} {fd : Nat → FuncData} {C_Painting : Addr} (T : Txt K mg ad fd C_Painting) : FnOk P w K mg base CX0 4 (ad 11) (fd 11) ["left", "kind"] (sp_law_picture K) :=
  T.F_law_picture.ok sc_law_picture (fun vs H Q E h => by
    obtain ⟨_, _, rfl, _⟩ := h
    rfl) (fun cdv A outer s H vs Q E hr h => ⟨_, dv_law_picture T hr, sm_law_picture h⟩)
theorem dv_law_world {P : Program} {w : World} {K : PySem.W.Frag} {mg : Str → Option Value} {base : Heap} {ad : Nat → Addr} {fd : Nat → FuncData} {C_Painting : Addr} (T : Txt K mg ad fd C_Painting) {cdv : Value} {A : Around} {outer : List Env} {s : Shared} {H : Hp} {E : XK} (hr : Room 4 (A.deeper (envOfC "_law_world" (defScope s_law_world) s.heap.objs.size (ad 12) cdv))) :
  PSs (cxOf CX0 P w K mg base ["left", "kind", "picture", "palette", "many"] "_law_world" (defScope s_law_world) (ad 12) cdv A outer s H E).nox (defBody s_law_world) (rd_law_world K) :=
 (pss_cons (ps_asg (pe_call (ok_law_kind T) (hr.mono (by decide)) (by rfl) T.m_law_kind T.F_law_kind.kp T.b_law_kind .nil pass0 (pa_cons (pv 0) pa_nil)) (pg_name (i := 1) sc_law_world.nd rfl (Or.inl rfl)))
 (pss_cons (ps_par (i := 2) (j := 3) rfl sc_law_world.nd rfl rfl (by decide) rfl rfl (pa_cons (pe_call (ok_law_picture T) (hr.mono (by decide)) (by rfl) T.m_law_picture T.F_law_picture.kp T.b_law_picture .nil pass0 (pa_cons (pv 0) (pa_cons (pv 1) pa_nil))) (pa_cons (pe_call (ok_law_palette T) (hr.mono (by decide)) (by rfl) T.m_law_palette T.F_law_palette.kp T.b_law_palette .nil pass0 (pa_cons (pv 0) (pa_cons (pv 1) pa_nil))) pa_nil)) rfl)
 (pss_cons (ps_asg (pe_op op_mul (pe_callB call_len_seq (by rfl) T.n_len (by decide +kernel) (pa_cons (pv 2) pa_nil)) (pe_callB call_len_seq (by rfl) T.n_len (by decide +kernel) (pa_cons (pe_ix ix_list (pv 2) pe_int (fun _ _ => rfl)) pa_nil))) (pg_name (i := 4) sc_law_world.nd rfl (Or.inl rfl)))
 (pss_one (ps_ret (pe_tup (pa_cons (pv 1) (pa_cons (pe_disp (pps_cons pe_str (pv 2) (pps_cons pe_str (pe_slice sl_list (pv 3) po_none (po_some (pe_callB (call_max2 rfl) (by rfl) T.n_max (by decide +kernel) (pa_cons pe_int (pa_cons (pe_op op_fdiv pe_int (pv 4)) pa_nil))))) pps_nil)) (by rfl) (by rfl) (fun z => by cases z) (by decide)) pa_nil))))))))
theorem ok_law_world {P : Program} {w : World} {K : PySem.W.Frag} {mg : Str → Option Value} {base : Heap} {ad : Nat → Addr} {fd : Nat → FuncData} {C_Painting : Addr} (T : Txt K mg ad fd C_Painting) : FnOk P w K mg base CX0 5 (ad 12) (fd 12) ["left"] (sp_law_world K) :=
  T.F_law_world.ok sc_law_world (fun vs H Q E h => by
    obtain ⟨_, rfl, _⟩ := h
    rfl) (fun cdv A outer s H vs Q E hr h => ⟨_, dv_law_world T hr, sm_law_world h⟩)
theorem dv_Painting_numbers {P : Program} {w : World} {K : PySem.W.Frag} {mg : Str → Option Value} {base : Heap} {ad : Nat → Addr} {fd : Nat → FuncData} {C_Painting : Addr} (T : Txt K mg ad fd C_Painting) {cdv : Value} {A : Around} {outer : List Env} {s : Shared} {H : Hp} {E : XK} (hr : Room 0 (A.deeper (envOfC "Painting.numbers" (defScope s_Painting_numbers) s.heap.objs.size (ad 13) cdv))) :
  PSs (cxOf CX0 P w K mg base ["self", "row"] "Painting.numbers" (defScope s_Painting_numbers) (ad 13) cdv A outer s H E).nox (defBody s_Painting_numbers) (rd_Painting_numbers K) :=
 (pss_one (ps_ret (pe_lc (own := [("row", 1)]) (g := (gName 1)) (tt := tYes) rfl sc_Painting_numbers.nd (pi_list (pe_fld (pv 0) rfl)) (blk_here (by kernel_rfl)) (fun _ _ _ _ _ => (pg_name (i := 1) sc_Painting_numbers.nd rfl (Or.inl rfl))) (fun _ _ _ _ _ => pts_nil) (fun _ _ _ _ _ => (pe_callTy call_list_of (by rfl) T.n_list (by decide +kernel) (pa_cons (pv 1) pa_nil))))))
theorem ok_Painting_numbers {P : Program} {w : World} {K : PySem.W.Frag} {mg : Str → Option Value} {base : Heap} {ad : Nat → Addr} {fd : Nat → FuncData} {C_Painting : Addr} (T : Txt K mg ad fd C_Painting) : FnOk P w K mg base CX0 1 (ad 13) (fd 13) ["self"] (sp_Painting_numbers K C_Painting) :=
  T.F_Painting_numbers.ok sc_Painting_numbers (fun vs H Q E h => by
    obtain ⟨_, rfl, _⟩ := h
    rfl) (fun cdv A outer s H vs Q E hr h => ⟨_, dv_Painting_numbers T hr, sm_Painting_numbers h⟩)
theorem dv_Painting_palette {P : Program} {w : World} {K : PySem.W.Frag} {mg : Str → Option Value} {base : Heap} {ad : Nat → Addr} {fd : Nat → FuncData} {C_Painting : Addr} (T : Txt K mg ad fd C_Painting) {cdv : Value} {A : Around} {outer : List Env} {s : Shared} {H : Hp} {E : XK} (hr : Room 0 (A.deeper (envOfC "Painting.palette" (defScope s_Painting_palette) s.heap.objs.size (ad 14) cdv))) :
  PSs (cxOf CX0 P w K mg base ["self"] "Painting.palette" (defScope s_Painting_palette) (ad 14) cdv A outer s H E).nox (defBody s_Painting_palette) (rd_Painting_palette K) :=
 (pss_one (ps_ret (pe_callTy call_list_of (by rfl) T.n_list (by decide +kernel) (pa_cons (pe_fld (pv 0) rfl) pa_nil))))
theorem ok_Painting_palette {P : Program} {w : World} {K : PySem.W.Frag} {mg : Str → Option Value} {base : Heap} {ad : Nat → Addr} {fd : Nat → FuncData} {C_Painting : Addr} (T : Txt K mg ad fd C_Painting) : FnOk P w K mg base CX0 1 (ad 14) (fd 14) ["self"] (sp_Painting_palette K C_Painting) :=
  T.F_Painting_palette.ok sc_Painting_palette (fun vs H Q E h => by
    obtain ⟨_, rfl, _⟩ := h
    rfl) (fun cdv A outer s H vs Q E hr h => ⟨_, dv_Painting_palette T hr, sm_Painting_palette h⟩)
theorem dv_Painting_picture {P : Program} {w : World} {K : PySem.W.Frag} {mg : Str → Option Value} {base : Heap} {ad : Nat → Addr} {fd : Nat → FuncData} {C_Painting : Addr} (T : Txt K mg ad fd C_Painting) {cdv : Value} {A : Around} {outer : List Env} {s : Shared} {H : Hp} {E : XK} (hr : Room 0 (A.deeper (envOfC "Painting.picture" (defScope s_Painting_picture) s.heap.objs.size (ad 15) cdv))) :
  PSs (cxOf CX0 P w K mg base ["self", "row"] "Painting.picture" (defScope s_Painting_picture) (ad 15) cdv A outer s H E).nox (defBody s_Painting_picture) (rd_Painting_picture K) :=
 (pss_one (ps_ret (pe_lc (own := [("row", 1)]) (g := (gName 1)) (tt := tYes) rfl sc_Painting_picture.nd (pi_list (pe_fld (pv 0) rfl)) (blk_here (by kernel_rfl)) (fun _ _ _ _ _ => (pg_name (i := 1) sc_Painting_picture.nd rfl (Or.inl rfl))) (fun _ _ _ _ _ => pts_nil) (fun _ _ _ _ _ => (pe_callTy call_list_of (by rfl) T.n_list (by decide +kernel) (pa_cons (pv 1) pa_nil))))))
theorem ok_Painting_picture {P : Program} {w : World} {K : PySem.W.Frag} {mg : Str → Option Value} {base : Heap} {ad : Nat → Addr} {fd : Nat → FuncData} {C_Painting : Addr} (T : Txt K mg ad fd C_Painting) : FnOk P w K mg base CX0 1 (ad 15) (fd 15) ["self"] (sp_Painting_picture K C_Painting) :=
  T.F_Painting_picture.ok sc_Painting_picture (fun vs H Q E h => by
    obtain ⟨_, rfl, _⟩ := h
    rfl) (fun cdv A outer s H vs Q E hr h => ⟨_, dv_Painting_picture T hr, sm_Painting_picture h⟩)
theorem dv_Painting_all_spots {P : Program} {w : World} {K : PySem.W.Frag} {mg : Str → Option Value} {base : Heap} {ad : Nat → Addr} {fd : Nat → FuncData} {C_Painting : Addr} (T : Txt K mg ad fd C_Painting) {cdv : Value} {A : Around} {outer : List Env} {s : Shared} {H : Hp} {E : XK} (hr : Room 0 (A.deeper (envOfC "Painting.all_spots" (defScope s_Painting_all_spots) s.heap.objs.size (ad 16) cdv))) :
  PSs (cxOf CX0 P w K mg base ["self", "found", "k", "row", "j"] "Painting.all_spots" (defScope s_Painting_all_spots) (ad 16) cdv A outer s H E).nox (defBody s_Painting_all_spots) (rd_Painting_all_spots K) :=
 (pss_cons (ps_asg (pe_lst pa_nil) (pg_name (i := 1) sc_Painting_all_spots.nd rfl (Or.inl rfl)))
 (pss_cons (ps_for PassesOwn.never rfl (pi_enum (by rfl) T.n_enumerate (pa_cons (pe_fld (pv 0) rfl) pa_nil)) (pg_tup rfl (pgs_cons (pg_name (i := 2) sc_Painting_all_spots.nd rfl (Or.inr rfl)) (pgs_cons (pg_name (i := 3) sc_Painting_all_spots.nd rfl (Or.inl rfl)) pgs_nil))) (pss_one (ps_expr (pe_bm PySem.F.plainAttrs_list PySem.F.slot_list_extend PySem.F.type_list_extend mt_extend (pv 1) (pa_cons (pe_lc (own := [("j", 4)]) (g := (gName 4)) (tt := tYes) rfl sc_Painting_all_spots.nd (pi_range1 (by rfl) T.n_range (pa_cons (pe_callB call_len_seq (by rfl) T.n_len (by decide +kernel) (pa_cons (pv 3) pa_nil)) pa_nil)) (blk_here (by kernel_rfl)) (fun _ _ _ _ _ => (pg_name (i := 4) sc_Painting_all_spots.nd rfl (Or.inl rfl))) (fun _ _ _ _ _ => pts_nil) (fun _ _ _ _ _ => (pe_tup (pa_cons (pv 2) (pa_cons (pv 4) pa_nil))))) pa_nil)))))
 (pss_one (ps_ret (pv 1)))))
theorem ok_Painting_all_spots {P : Program} {w : World} {K : PySem.W.Frag} {mg : Str → Option Value} {base : Heap} {ad : Nat → Addr} {fd : Nat → FuncData} {C_Painting : Addr} (T : Txt K mg ad fd C_Painting) : FnOk P w K mg base CX0 1 (ad 16) (fd 16) ["self"] (sp_Painting_all_spots K C_Painting) :=
  T.F_Painting_all_spots.ok sc_Painting_all_spots (fun vs H Q E h => by
    obtain ⟨_, rfl, _⟩ := h
    rfl) (fun cdv A outer s H vs Q E hr h => ⟨_, dv_Painting_all_spots T hr, sm_Painting_all_spots h⟩)
theorem dv_Painting_far_now {P : Program} {w : World} {K : PySem.W.Frag} {mg : Str → Option Value} {base : Heap} {ad : Nat → Addr} {fd : Nat → FuncData} {C_Painting : Addr} (T : Txt K mg ad fd C_Painting) {cdv : Value} {A : Around} {outer : List Env} {s : Shared} {H : Hp} {E : XK} (hr : Room 1 (A.deeper (envOfC "Painting.far_now" (defScope s_Painting_far_now) s.heap.objs.size (ad 17) cdv))) :
  PSs (cxOf CX0 P w K mg base ["self", "row", "column", "n"] "Painting.far_now" (defScope s_Painting_far_now) (ad 17) cdv A outer s H E).nox (defBody s_Painting_far_now) (rd_Painting_far_now K) :=
 (pss_cons (ps_asg (pe_ix ix_list (pe_ix ix_list (pe_fld (pv 0) rfl) (pv 1) (fun _ _ => rfl)) (pv 2) (fun _ _ => rfl)) (pg_name (i := 3) sc_Painting_far_now.nd rfl (Or.inl rfl)))
 (pss_one (ps_ret (pe_tup (pa_cons (pe_call (ok_apart T) (hr.mono (by decide)) (by rfl) T.m_apart T.F_apart.kp T.b_apart .nil pass0 (pa_cons (pe_ix ix_list (pe_fld (pv 0) rfl) (pv 3) (fun _ _ => rfl)) (pa_cons (pe_ix ix_list (pe_ix ix_list (pe_fld (pv 0) rfl) (pv 1) (fun _ _ => rfl)) (pv 2) (fun _ _ => rfl)) pa_nil))) (pa_cons (pv 3) pa_nil))))))
theorem ok_Painting_far_now {P : Program} {w : World} {K : PySem.W.Frag} {mg : Str → Option Value} {base : Heap} {ad : Nat → Addr} {fd : Nat → FuncData} {C_Painting : Addr} (T : Txt K mg ad fd C_Painting) : FnOk P w K mg base CX0 2 (ad 17) (fd 17) ["self", "row", "column"] (sp_Painting_far_now K C_Painting) :=
  T.F_Painting_far_now.ok sc_Painting_far_now (fun vs H Q E h => by
    obtain ⟨_, _, _, rfl, _⟩ := h
    rfl) (fun cdv A outer s H vs Q E hr h => ⟨_, dv_Painting_far_now T hr, sm_Painting_far_now h⟩)
theorem dv_Painting_lost {P : Program} {w : World} {K : PySem.W.Frag} {mg : Str → Option Value} {base : Heap} {ad : Nat → Addr} {fd : Nat → FuncData} {C_Painting : Addr} (T : Txt K mg ad fd C_Painting) {cdv : Value} {A : Around} {outer : List Env} {s : Shared} {H : Hp} {E : XK} (hr : Room 2 (A.deeper (envOfC "Painting.lost" (defScope s_Painting_lost) s.heap.objs.size (ad 18) cdv))) :
  PSs (cxOf CX0 P w K mg base ["self", "row", "column"] "Painting.lost" (defScope s_Painting_lost) (ad 18) cdv A outer s H E).nox (defBody s_Painting_lost) (rd_Painting_lost K C_Painting) :=
 (pss_one (ps_ret (pe_callB (cr_sum rfl) (by rfl) T.n_sum (by decide +kernel) (pa_cons (pe_lc (own := [("row", 1), ("column", 2)]) (g := (gTup K 2 (gCons (gName 1) (gCons (gName 2) gNil)))) (tt := tYes) rfl sc_Painting_lost.nd (pi_list (pe_meth0 (pv 0) T.cl_Painting T.mt_Painting_all_spots (ok_Painting_all_spots T) (hr.mono (by decide)) T.b_Painting_all_spots .nil pass0)) (blk_here (by kernel_rfl)) (fun _ _ _ _ _ => (pg_tup rfl (pgs_cons (pg_name (i := 1) sc_Painting_lost.nd rfl (Or.inl rfl)) (pgs_cons (pg_name (i := 2) sc_Painting_lost.nd rfl (Or.inl rfl)) pgs_nil)))) (fun _ _ _ _ _ => pts_nil) (fun _ _ _ _ _ => (pe_ix ix_tup (pe_meth (pv 0) T.cl_Painting T.mt_Painting_far_now (ok_Painting_far_now T) (hr.mono (by decide)) T.b_Painting_far_now .nil pass0 (pa_cons (pv 1) (pa_cons (pv 2) pa_nil))) pe_int (fun _ _ => rfl)))) pa_nil))))
theorem ok_Painting_lost {P : Program} {w : World} {K : PySem.W.Frag} {mg : Str → Option Value} {base : Heap} {ad : Nat → Addr} {fd : Nat → FuncData} {C_Painting : Addr} (T : Txt K mg ad fd C_Painting) : FnOk P w K mg base CX0 3 (ad 18) (fd 18) ["self"] (sp_Painting_lost K C_Painting) :=
  T.F_Painting_lost.ok sc_Painting_lost (fun vs H Q E h => by
    obtain ⟨_, rfl, _⟩ := h
    rfl) (fun cdv A outer s H vs Q E hr h => ⟨_, dv_Painting_lost T hr, sm_Painting_lost h⟩)
theorem dv_law_same {P : Program} {w : World} {K : PySem.W.Frag} {mg : Str → Option Value} {base : Heap} {ad : Nat → Addr} {fd : Nat → FuncData} {C_Painting : Addr} (T : Txt K mg ad fd C_Painting) {j : Nat} {sp_rec : Sp} (hj : 0 ≤ j) (OK_self : FnOk P w K mg base CX0 j (ad 19) (fd 19) ["found", "due"] sp_rec) {cdv : Value} {A : Around} {outer : List Env} {s : Shared} {H : Hp} {E : XK} (hr : Room j (A.deeper (envOfC "_law_same" (defScope s_law_same) s.heap.objs.size (ad 19) cdv))) :
  PSs (cxOf CX0 P w K mg base ["found", "due", "one", "other"] "_law_same" (defScope s_law_same) (ad 19) cdv A outer s H E).nox (defBody s_law_same) (rd_law_same K sp_rec) :=
 (pss_cons (ps_if (pt_val (pe_callB call_isiT (by rfl) T.n_isinstance (by decide +kernel) (pa_cons (pv 1) (pa_cons (pe_tup (pa_cons (pe_bltn (v := .ty "list") (by rfl) T.n_list (by decide +kernel) rfl) (pa_cons (pe_bltn (v := .ty "tuple") (by rfl) T.n_tuple (by decide +kernel) rfl) pa_nil))) pa_nil)))) (pss_cons (ps_if (PW.pt (pw_or (pt_cmpR op_ne (pe_callB call_isi (by rfl) T.n_isinstance (by decide +kernel) (pa_cons (pv 0) (pa_cons (pe_bltn (v := .ty "list") (by rfl) T.n_list (by decide +kernel) rfl) pa_nil))) (pe_callB call_isi (by rfl) T.n_isinstance (by decide +kernel) (pa_cons (pv 1) (pa_cons (pe_bltn (v := .ty "list") (by rfl) T.n_list (by decide +kernel) rfl) pa_nil))) (nomark _)) (pw_or1 (pt_cmpR op_ne (pe_callB call_isi (by rfl) T.n_isinstance (by decide +kernel) (pa_cons (pv 0) (pa_cons (pe_bltn (v := .ty "tuple") (by rfl) T.n_tuple (by decide +kernel) rfl) pa_nil))) (pe_callB call_isi (by rfl) T.n_isinstance (by decide +kernel) (pa_cons (pv 1) (pa_cons (pe_bltn (v := .ty "tuple") (by rfl) T.n_tuple (by decide +kernel) rfl) pa_nil))) (nomark _))))) (pss_one (ps_ret pe_bl)) pss_nil)
 (pss_one (ps_ret (pe_and (pe_cmpR op_eq (pe_callB call_len_seq (by rfl) T.n_len (by decide +kernel) (pa_cons (pv 0) pa_nil)) (pe_callB call_len_seq (by rfl) T.n_len (by decide +kernel) (pa_cons (pv 1) pa_nil)) (nomark _)) (pe_one (pe_callB (cr_all rfl) (by rfl) T.n_all (by decide +kernel) (pa_cons (pe_lc (own := [("one", 2), ("other", 3)]) (g := (gTup K 2 (gCons (gName 2) (gCons (gName 3) gNil)))) (tt := tYes) rfl sc_law_same.nd (pi_zipA (by rfl) T.n_zip (pa_cons (pv 0) (pa_cons (pv 1) pa_nil))) (blk_here (by kernel_rfl)) (fun _ _ _ _ _ => (pg_tup rfl (pgs_cons (pg_name (i := 2) sc_law_same.nd rfl (Or.inl rfl)) (pgs_cons (pg_name (i := 3) sc_law_same.nd rfl (Or.inl rfl)) pgs_nil)))) (fun _ _ _ _ _ => pts_nil) (fun _ _ _ _ _ => (pe_call OK_self hr (by rfl) T.m_law_same T.F_law_same.kp T.b_law_same .nil pass0 (pa_cons (pv 2) (pa_cons (pv 3) pa_nil))))) pa_nil))))))) pss_nil)
 (pss_cons (ps_if (PW.pt (pw_or (pt_cmpR op_isN1 (pv 1) pe_non (nomark _)) (pw_or1 (pt_val (pe_callB call_isi (by rfl) T.n_isinstance (by decide +kernel) (pa_cons (pv 1) (pa_cons (pe_bltn (v := .ty "str") (by rfl) T.n_str (by decide +kernel) rfl) pa_nil))))))) (pss_one (ps_ret (pe_and (pe_cmpR (op_eqD hr.units) (pv 0) (pv 1) (nomark _)) (pe_one (pe_cmpR op_eq (pe_callB call_isi (by rfl) T.n_isinstance (by decide +kernel) (pa_cons (pv 0) (pa_cons (pe_bltn (v := .ty "str") (by rfl) T.n_str (by decide +kernel) rfl) pa_nil))) (pe_callB call_isi (by rfl) T.n_isinstance (by decide +kernel) (pa_cons (pv 1) (pa_cons (pe_bltn (v := .ty "str") (by rfl) T.n_str (by decide +kernel) rfl) pa_nil))) (nomark _)))))) pss_nil)
 (pss_cons (ps_if (pt_val (pe_callB call_isi (by rfl) T.n_isinstance (by decide +kernel) (pa_cons (pv 1) (pa_cons (pe_bltn (v := .ty "bool") (by rfl) T.n_bool (by decide +kernel) rfl) pa_nil)))) (pss_one (ps_ret (pe_and (pe_callB call_isi (by rfl) T.n_isinstance (by decide +kernel) (pa_cons (pv 0) (pa_cons (pe_bltn (v := .ty "bool") (by rfl) T.n_bool (by decide +kernel) rfl) pa_nil))) (pe_one (pe_cmpR (op_eqD hr.units) (pv 0) (pv 1) (nomark _)))))) pss_nil)
 (pss_one (ps_ret (pe_and (pe_callB call_isi (by rfl) T.n_isinstance (by decide +kernel) (pa_cons (pv 0) (pa_cons (pe_bltn (v := .ty "int") (by rfl) T.n_int (by decide +kernel) rfl) pa_nil))) (pe_and (pe_not (pe_callB call_isi (by rfl) T.n_isinstance (by decide +kernel) (pa_cons (pv 0) (pa_cons (pe_bltn (v := .ty "bool") (by rfl) T.n_bool (by decide +kernel) rfl) pa_nil)))) (pe_one (pe_cmpR (op_eqD hr.units) (pv 0) (pv 1) (nomark _))))))))))
theorem okn_law_same {P : Program} {w : World} {K : PySem.W.Frag} {mg : Str → Option Value} {base : Heap} {ad : Nat → Addr} {fd : Nat → FuncData} {C_Painting : Addr} (T : Txt K mg ad fd C_Painting) : ∀ n : Nat, FnOk P w K mg base CX0 (0 + n + 1) (ad 19) (fd 19) ["found", "due"] (spn_law_same K n)
  | 0 => T.F_law_same.ok sc_law_same (fun vs H Q E h => by
    obtain ⟨_, _, rfl, _⟩ := h
    rfl) (fun cdv A outer s H vs Q E hr h => (no_law_same h).elim)
  | n + 1 => T.F_law_same.ok sc_law_same (fun vs H Q E h => by
    obtain ⟨_, _, rfl, _⟩ := h
    rfl) (fun cdv A outer s H vs Q E hr h => ⟨_, dv_law_same T (by omega) (okn_law_same T n) (hr.mono (by omega)), sm_law_same n h⟩)
theorem ok_law_same {P : Program} {w : World} {K : PySem.W.Frag} {mg : Str → Option Value} {base : Heap} {ad : Nat → Addr} {fd : Nat → FuncData} {C_Painting : Addr} (T : Txt K mg ad fd C_Painting) : FnOk P w K mg base CX0 9 (ad 19) (fd 19) ["found", "due"] (sp_law_same K) := okn_law_same T 8
theorem dv_law_apart {P : Program} {w : World} {K : PySem.W.Frag} {mg : Str → Option Value} {base : Heap} {ad : Nat → Addr} {fd : Nat → FuncData} {C_Painting : Addr} (T : Txt K mg ad fd C_Painting) {cdv : Value} {A : Around} {outer : List Env} {s : Shared} {H : Hp} {E : XK} (hr : Room 0 (A.deeper (envOfC "_law_apart" (defScope s_law_apart) s.heap.objs.size (ad 20) cdv))) :
  PSs (cxOf CX0 P w K mg base ["one", "other", "a", "b"] "_law_apart" (defScope s_law_apart) (ad 20) cdv A outer s H E).nox (defBody s_law_apart) (rd_law_apart K) :=
 (pss_one (ps_ret (pe_callB (cr_sum rfl) (by rfl) T.n_sum (by decide +kernel) (pa_cons (pe_lc (own := [("a", 2), ("b", 3)]) (g := (gTup K 2 (gCons (gName 2) (gCons (gName 3) gNil)))) (tt := tYes) rfl sc_law_apart.nd (pi_zipA (by rfl) T.n_zip (pa_cons (pv 0) (pa_cons (pv 1) pa_nil))) (blk_here (by kernel_rfl)) (fun _ _ _ _ _ => (pg_tup rfl (pgs_cons (pg_name (i := 2) sc_law_apart.nd rfl (Or.inl rfl)) (pgs_cons (pg_name (i := 3) sc_law_apart.nd rfl (Or.inl rfl)) pgs_nil)))) (fun _ _ _ _ _ => pts_nil) (fun _ _ _ _ _ => (pe_op op_mul (pe_op op_sub (pv 2) (pv 3)) (pe_op op_sub (pv 2) (pv 3))))) pa_nil))))
theorem ok_law_apart {P : Program} {w : World} {K : PySem.W.Frag} {mg : Str → Option Value} {base : Heap} {ad : Nat → Addr} {fd : Nat → FuncData} {C_Painting : Addr} (T : Txt K mg ad fd C_Painting) : FnOk P w K mg base CX0 1 (ad 20) (fd 20) ["one", "other"] (sp_law_apart K) :=
  T.F_law_apart.ok sc_law_apart (fun vs H Q E h => by
    obtain ⟨_, _, rfl, _⟩ := h
    rfl) (fun cdv A outer s H vs Q E hr h => ⟨_, dv_law_apart T hr, sm_law_apart h⟩)
theorem dv_law_nearest {P : Program} {w : World} {K : PySem.W.Frag} {mg : Str → Option Value} {base : Heap} {ad : Nat → Addr} {fd : Nat → FuncData} {C_Painting : Addr} (T : Txt K mg ad fd C_Painting) {cdv : Value} {A : Around} {outer : List Env} {s : Shared} {H : Hp} {E : XK} (hr : Room 1 (A.deeper (envOfC "_law_nearest" (defScope s_law_nearest) s.heap.objs.size (ad 21) cdv))) :
  PSs (cxOf CX0 P w K mg base ["palette", "colour", "k", "one"] "_law_nearest" (defScope s_law_nearest) (ad 21) cdv A outer s H E).nox (defBody s_law_nearest) (rd_law_nearest K) :=
 (pss_one (ps_ret (pe_ix ix_tup (pe_callB (cr_minD rfl hr.units) (by rfl) T.n_min (by decide +kernel) (pa_cons (pe_lc (own := [("k", 2), ("one", 3)]) (g := (gTup K 2 (gCons (gName 2) (gCons (gName 3) gNil)))) (tt := tYes) rfl sc_law_nearest.nd (pi_enum (by rfl) T.n_enumerate (pa_cons (pv 0) pa_nil)) (blk_here (by kernel_rfl)) (fun _ _ _ _ _ => (pg_tup rfl (pgs_cons (pg_name (i := 2) sc_law_nearest.nd rfl (Or.inl rfl)) (pgs_cons (pg_name (i := 3) sc_law_nearest.nd rfl (Or.inl rfl)) pgs_nil)))) (fun _ _ _ _ _ => pts_nil) (fun _ _ _ _ _ => (pe_tup (pa_cons (pe_call (ok_law_apart T) (hr.mono (by decide)) (by rfl) T.m_law_apart T.F_law_apart.kp T.b_law_apart .nil pass0 (pa_cons (pv 3) (pa_cons (pv 1) pa_nil))) (pa_cons (pv 2) pa_nil))))) pa_nil)) pe_int (fun _ _ => rfl))))
theorem ok_law_nearest {P : Program} {w : World} {K : PySem.W.Frag} {mg : Str → Option Value} {base : Heap} {ad : Nat → Addr} {fd : Nat → FuncData} {C_Painting : Addr} (T : Txt K mg ad fd C_Painting) : FnOk P w K mg base CX0 2 (ad 21) (fd 21) ["palette", "colour"] (sp_law_nearest K) :=
  T.F_law_nearest.ok sc_law_nearest (fun vs H Q E h => by
    obtain ⟨_, _, rfl, _⟩ := h
    rfl) (fun cdv A outer s H vs Q E hr h => ⟨_, dv_law_nearest T hr, sm_law_nearest h⟩)
theorem dv_law_numbers {P : Program} {w : World} {K : PySem.W.Frag} {mg : Str → Option Value} {base : Heap} {ad : Nat → Addr} {fd : Nat → FuncData} {C_Painting : Addr} (T : Txt K mg ad fd C_Painting) {cdv : Value} {A : Around} {outer : List Env} {s : Shared} {H : Hp} {E : XK} (hr : Room 2 (A.deeper (envOfC "_law_numbers" (defScope s_law_numbers) s.heap.objs.size (ad 22) cdv))) :
  PSs (cxOf CX0 P w K mg base ["own", "row", "colour"] "_law_numbers" (defScope s_law_numbers) (ad 22) cdv A outer s H E).nox (defBody s_law_numbers) (rd_law_numbers K) :=
 (pss_one (ps_ret (pe_lc (own := [("row", 1)]) (g := (gName 1)) (tt := tYes) rfl sc_law_numbers.nd (pi_list (pe_dget (hu_of hr) (pv 0) pe_str (fun _ _ => rfl))) (blk_here (by kernel_rfl)) (fun _ _ _ _ _ => (pg_name (i := 1) sc_law_numbers.nd rfl (Or.inl rfl))) (fun _ _ _ _ _ => pts_nil) (fun _ _ _ _ _ => (pe_lc (own := [("colour", 2)]) (g := (gName 2)) (tt := tYes) rfl sc_law_numbers.nd (pi_list (pv 1)) (blk_here (by kernel_rfl)) (fun _ _ _ _ _ => (pg_name (i := 2) sc_law_numbers.nd rfl (Or.inl rfl))) (fun _ _ _ _ _ => pts_nil) (fun _ _ _ _ _ => (pe_call (ok_law_nearest T) (hr.mono (by decide)) (by rfl) T.m_law_nearest T.F_law_nearest.kp T.b_law_nearest .nil pass0 (pa_cons (pe_dget (hu_of hr) (pv 0) pe_str (fun _ _ => rfl)) (pa_cons (pv 2) pa_nil)))))))))
theorem ok_law_numbers {P : Program} {w : World} {K : PySem.W.Frag} {mg : Str → Option Value} {base : Heap} {ad : Nat → Addr} {fd : Nat → FuncData} {C_Painting : Addr} (T : Txt K mg ad fd C_Painting) : FnOk P w K mg base CX0 3 (ad 22) (fd 22) ["own"] (sp_law_numbers K) :=
  T.F_law_numbers.ok sc_law_numbers (fun vs H Q E h => by
    obtain ⟨_, rfl, _⟩ := h
    rfl) (fun cdv A outer s H vs Q E hr h => ⟨_, dv_law_numbers T hr, sm_law_numbers h⟩)
theorem dv_law_lost {P : Program} {w : World} {K : PySem.W.Frag} {mg : Str → Option Value} {base : Heap} {ad : Nat → Addr} {fd : Nat → FuncData} {C_Painting : Addr} (T : Txt K mg ad fd C_Painting) {cdv : Value} {A : Around} {outer : List Env} {s : Shared} {H : Hp} {E : XK} (hr : Room 1 (A.deeper (envOfC "_law_lost" (defScope s_law_lost) s.heap.objs.size (ad 23) cdv))) :
  PSs (cxOf CX0 P w K mg base ["own", "total", "row", "colour", "one"] "_law_lost" (defScope s_law_lost) (ad 23) cdv A outer s H E).nox (defBody s_law_lost) (rd_law_lost K) :=
 (pss_cons (ps_asg pe_int (pg_name (i := 1) sc_law_lost.nd rfl (Or.inl rfl)))
 (pss_cons (ps_for PassesOwn.never rfl (pi_list (pe_dget (hu_of hr) (pv 0) pe_str (fun _ _ => rfl))) (pg_name (i := 2) sc_law_lost.nd rfl (Or.inl rfl)) (pss_one (ps_asg (pe_op op_add (pv 1) (pe_callB (cr_sum rfl) (by rfl) T.n_sum (by decide +kernel) (pa_cons (pe_lc (own := [("colour", 3)]) (g := (gName 3)) (tt := tYes) rfl sc_law_lost.nd (pi_list (pv 2)) (blk_here (by kernel_rfl)) (fun _ _ _ _ _ => (pg_name (i := 3) sc_law_lost.nd rfl (Or.inr rfl))) (fun _ _ _ _ _ => pts_nil) (fun _ _ _ _ _ => (pe_callB (cr_min rfl) (by rfl) T.n_min (by decide +kernel) (pa_cons (pe_lc (own := [("one", 4)]) (g := (gName 4)) (tt := tYes) rfl sc_law_lost.nd (pi_list (pe_dget (hu_of hr) (pv 0) pe_str (fun _ _ => rfl))) (blk_here (by kernel_rfl)) (fun _ _ _ _ _ => (pg_name (i := 4) sc_law_lost.nd rfl (Or.inl rfl))) (fun _ _ _ _ _ => pts_nil) (fun _ _ _ _ _ => (pe_call (ok_law_apart T) (hr.mono (by decide)) (by rfl) T.m_law_apart T.F_law_apart.kp T.b_law_apart .nil pass0 (pa_cons (pv 4) (pa_cons (pv 3) pa_nil))))) pa_nil)))) pa_nil))) (pg_name (i := 1) sc_law_lost.nd rfl (Or.inl rfl)))))
 (pss_one (ps_ret (pv 1)))))
theorem ok_law_lost {P : Program} {w : World} {K : PySem.W.Frag} {mg : Str → Option Value} {base : Heap} {ad : Nat → Addr} {fd : Nat → FuncData} {C_Painting : Addr} (T : Txt K mg ad fd C_Painting) : FnOk P w K mg base CX0 2 (ad 23) (fd 23) ["own"] (sp_law_lost K) :=
  T.F_law_lost.ok sc_law_lost (fun vs H Q E h => by
    obtain ⟨_, rfl, _⟩ := h
    rfl) (fun cdv A outer s H vs Q E hr h => ⟨_, dv_law_lost T hr, sm_law_lost h⟩)
theorem dv_law_stands {P : Program} {w : World} {K : PySem.W.Frag} {mg : Str → Option Value} {base : Heap} {ad : Nat → Addr} {fd : Nat → FuncData} {C_Painting : Addr} (T : Txt K mg ad fd C_Painting) {cdv : Value} {A : Around} {outer : List Env} {s : Shared} {H : Hp} {E : XK} (hr : Room 9 (A.deeper (envOfC "_law_stands" (defScope s_law_stands) s.heap.objs.size (ad 24) cdv))) :
  PSs (cxOf CX0 P w K mg base ["painting", "own", "told"] "_law_stands" (defScope s_law_stands) (ad 24) cdv A outer s H E).nox (defBody s_law_stands) (rd_law_stands K C_Painting) :=
 (pss_cons (ps_asg (pe_lst (pa_cons (pe_meth0 (pv 0) T.cl_Painting T.mt_Painting_numbers (ok_Painting_numbers T) (hr.mono (by decide)) T.b_Painting_numbers .nil pass0) (pa_cons (pe_meth0 (pv 0) T.cl_Painting T.mt_Painting_palette (ok_Painting_palette T) (hr.mono (by decide)) T.b_Painting_palette .nil pass0) (pa_cons (pe_meth0 (pv 0) T.cl_Painting T.mt_Painting_picture (ok_Painting_picture T) (hr.mono (by decide)) T.b_Painting_picture .nil pass0) (pa_cons (pe_meth0 (pv 0) T.cl_Painting T.mt_Painting_lost (ok_Painting_lost T) (hr.mono (by decide)) T.b_Painting_lost .nil pass0) pa_nil))))) (pg_name (i := 2) sc_law_stands.nd rfl (Or.inl rfl)))
 (pss_one (ps_ret (pe_call (ok_law_same T) (hr.mono (by decide)) (by rfl) T.m_law_same T.F_law_same.kp T.b_law_same .nil pass0 (pa_cons (pv 2) (pa_cons (pe_lst (pa_cons (pe_call (ok_law_numbers T) (hr.mono (by decide)) (by rfl) T.m_law_numbers T.F_law_numbers.kp T.b_law_numbers .nil pass0 (pa_cons (pv 1) pa_nil)) (pa_cons (pe_dget (hu_of hr) (pv 1) pe_str (fun _ _ => rfl)) (pa_cons (pe_dget (hu_of hr) (pv 1) pe_str (fun _ _ => rfl)) (pa_cons (pe_call (ok_law_lost T) (hr.mono (by decide)) (by rfl) T.m_law_lost T.F_law_lost.kp T.b_law_lost .nil pass0 (pa_cons (pv 1) pa_nil)) pa_nil))))) pa_nil))))))
theorem ok_law_stands {P : Program} {w : World} {K : PySem.W.Frag} {mg : Str → Option Value} {base : Heap} {ad : Nat → Addr} {fd : Nat → FuncData} {C_Painting : Addr} (T : Txt K mg ad fd C_Painting) : FnOk P w K mg base CX0 10 (ad 24) (fd 24) ["painting", "own"] (sp_law_stands K C_Painting) :=
  T.F_law_stands.ok sc_law_stands (fun vs H Q E h => by
    obtain ⟨_, _, rfl, _⟩ := h
    rfl) (fun cdv A outer s H vs Q E hr h => ⟨_, dv_law_stands T hr, sm_law_stands h⟩)
theorem dv_law_copied {P : Program} {w : World} {K : PySem.W.Frag} {mg : Str → Option Value} {base : Heap} {ad : Nat → Addr} {fd : Nat → FuncData} {C_Painting : Addr} (T : Txt K mg ad fd C_Painting) {cdv : Value} {A : Around} {outer : List Env} {s : Shared} {H : Hp} {E : XK} (hr : Room 0 (A.deeper (envOfC "_law_copied" (defScope s_law_copied) s.heap.objs.size (ad 25) cdv))) :
  PSs (cxOf CX0 P w K mg base ["own", "row"] "_law_copied" (defScope s_law_copied) (ad 25) cdv A outer s H E).nox (defBody s_law_copied) (rd_law_copied K) :=
 (pss_one (ps_ret (pe_disp (pps_cons pe_str (pe_lc (own := [("row", 1)]) (g := (gName 1)) (tt := tYes) rfl sc_law_copied.nd (pi_list (pe_dget (hu_of hr) (pv 0) pe_str (fun _ _ => rfl))) (blk_here (by kernel_rfl)) (fun _ _ _ _ _ => (pg_name (i := 1) sc_law_copied.nd rfl (Or.inl rfl))) (fun _ _ _ _ _ => pts_nil) (fun _ _ _ _ _ => (pe_callTy call_list_of (by rfl) T.n_list (by decide +kernel) (pa_cons (pv 1) pa_nil)))) (pps_cons pe_str (pe_callTy call_list_of (by rfl) T.n_list (by decide +kernel) (pa_cons (pe_dget (hu_of hr) (pv 0) pe_str (fun _ _ => rfl)) pa_nil)) pps_nil)) (by rfl) (by rfl) (fun z => by cases z) (by decide))))
theorem ok_law_copied {P : Program} {w : World} {K : PySem.W.Frag} {mg : Str → Option Value} {base : Heap} {ad : Nat → Addr} {fd : Nat → FuncData} {C_Painting : Addr} (T : Txt K mg ad fd C_Painting) : FnOk P w K mg base CX0 1 (ad 25) (fd 25) ["own"] (sp_law_copied K) :=
  T.F_law_copied.ok sc_law_copied (fun vs H Q E h => by
    obtain ⟨_, rfl, _⟩ := h
    rfl) (fun cdv A outer s H vs Q E hr h => ⟨_, dv_law_copied T hr, sm_law_copied h⟩)
theorem dv_law_stained {P : Program} {w : World} {K : PySem.W.Frag} {mg : Str → Option Value} {base : Heap} {ad : Nat → Addr} {fd : Nat → FuncData} {C_Painting : Addr} (T : Txt K mg ad fd C_Painting) {cdv : Value} {A : Around} {outer : List Env} {s : Shared} {H : Hp} {E : XK} (hr : Room 1 (A.deeper (envOfC "_law_stained" (defScope s_law_stained) s.heap.objs.size (ad 26) cdv))) :
  PSs (cxOf CX0 P w K mg base ["painting", "some", "row"] "_law_stained" (defScope s_law_stained) (ad 26) cdv A outer s H E).nox (defBody s_law_stained) (rd_law_stained K C_Painting) :=
 (pss_cons (ps_for PassesOwn.never rfl (pi_tup (pe_tup (pa_cons (pe_meth0 (pv 0) T.cl_Painting T.mt_Painting_numbers (ok_Painting_numbers T) (hr.mono (by decide)) T.b_Painting_numbers .nil pass0) (pa_cons (pe_meth0 (pv 0) T.cl_Painting T.mt_Painting_picture (ok_Painting_picture T) (hr.mono (by decide)) T.b_Painting_picture .nil pass0) pa_nil)))) (pg_name (i := 1) sc_law_stained.nd rfl (Or.inl rfl)) (pss_cons (ps_for PassesOwn.never rfl (pi_list (pv 1)) (pg_name (i := 2) sc_law_stained.nd rfl (Or.inl rfl)) (pss_one (ps_expr (pe_bm PySem.F.plainAttrs_list PySem.F.slot_list_append PySem.F.type_list_append mt_append (pv 2) (pa_cons pe_int pa_nil)))))
 (pss_one (ps_expr (pe_bm PySem.F.plainAttrs_list PySem.F.slot_list_append PySem.F.type_list_append mt_append (pv 1) (pa_cons (pe_lst pa_nil) pa_nil))))))
 (pss_cons (ps_expr (pe_bm0 PySem.F.plainAttrs_list PySem.F.slot_list_reverse PySem.F.type_list_reverse mt_reverse (pe_meth0 (pv 0) T.cl_Painting T.mt_Painting_palette (ok_Painting_palette T) (hr.mono (by decide)) T.b_Painting_palette .nil pass0)))
 (pss_cons (ps_expr (pe_bm PySem.F.plainAttrs_list PySem.F.slot_list_append PySem.F.type_list_append mt_append (pe_meth0 (pv 0) T.cl_Painting T.mt_Painting_palette (ok_Painting_palette T) (hr.mono (by decide)) T.b_Painting_palette .nil pass0) (pa_cons (pe_tup pa_nil) pa_nil)))
 (pss_one (ps_ret pe_bl)))))
theorem ok_law_stained {P : Program} {w : World} {K : PySem.W.Frag} {mg : Str → Option Value} {base : Heap} {ad : Nat → Addr} {fd : Nat → FuncData} {C_Painting : Addr} (T : Txt K mg ad fd C_Painting) : FnOk P w K mg base CX0 2 (ad 26) (fd 26) ["painting"] (sp_law_stained K C_Painting) :=
  T.F_law_stained.ok sc_law_stained (fun vs H Q E h => by
    obtain ⟨_, rfl, _⟩ := h
    rfl) (fun cdv A outer s H vs Q E hr h => ⟨_, dv_law_stained T hr, sm_law_stained h⟩)
theorem dv_law_k62 {P : Program} {w : World} {K : PySem.W.Frag} {mg : Str → Option Value} {base : Heap} {ad : Nat → Addr} {fd : Nat → FuncData} {C_Painting : Addr} (T : Txt K mg ad fd C_Painting) {cdv : Value} {A : Around} {outer : List Env} {s : Shared} {H : Hp} {E : XK} (hr : Room 10 (A.deeper (envOfC "law" (defScope s_law_k62) s.heap.objs.size (ad 27) cdv))) :
  PSs (cxOf CX0 P w K mg base ["script", "k", "kind", "own", "handed", "painting", "row"] "law" (defScope s_law_k62) (ad 27) cdv A outer s H E).nox (defBody s_law_k62) (rd_law_k62 K C_Painting) :=
 (pss_cons (ps_for PassesOwn.never rfl (pi_range1 (by rfl) T.n_range (pa_cons (pe_callB (call_max2 rfl) (by rfl) T.n_max (by decide +kernel) (pa_cons pe_int (pa_cons (pe_callB (call_min2 rfl) (by rfl) T.n_min (by decide +kernel) (pa_cons (pe_callB call_len_seq (by rfl) T.n_len (by decide +kernel) (pa_cons (pv 0) pa_nil)) (pa_cons pe_int pa_nil))) pa_nil))) pa_nil)) (pg_name (i := 1) sc_law_k62.nd rfl (Or.inl rfl)) (pss_cons (ps_asg (pe_call (ok_law_world T) (hr.mono (by decide)) (by rfl) T.m_law_world T.F_law_world.kp T.b_law_world .nil pass0 (pa_cons (pe_call (ok_law_left T) (hr.mono (by decide)) (by rfl) T.m_law_left T.F_law_left.kp T.b_law_left .nil pass0 (pa_cons (pv 0) (pa_cons (pv 1) pa_nil))) pa_nil)) (pg_tup rfl (pgs_cons (pg_name (i := 2) sc_law_k62.nd rfl (Or.inl rfl)) (pgs_cons (pg_name (i := 3) sc_law_k62.nd rfl (Or.inl rfl)) pgs_nil))))
 (pss_cons (ps_asg (pe_call (ok_law_copied T) (hr.mono (by decide)) (by rfl) T.m_law_copied T.F_law_copied.kp T.b_law_copied .nil pass0 (pa_cons (pv 3) pa_nil)) (pg_name (i := 4) sc_law_k62.nd rfl (Or.inl rfl)))
 (pss_cons (ps_asg (pe_make T.mk_Painting (ok_Painting_init T) (hr.mono (by decide)) (by rfl) T.mc_Painting T.b_Painting_init .nil pass0 (pa_cons (pe_dget (hu_of hr) (pv 4) pe_str (fun _ _ => rfl)) (pa_cons (pe_dget (hu_of hr) (pv 4) pe_str (fun _ _ => rfl)) pa_nil))) (pg_name (i := 5) sc_law_k62.nd rfl (Or.inl rfl)))
 (pss_cons (ps_if (PW.pt (pw_or (pt_cmpR (op_neDD (u65 hr)) (pv 4) (pv 3) (nomark _)) (pw_or1 (pt_not (pt_val (pe_call (ok_law_stands T) (hr.mono (by decide)) (by rfl) T.m_law_stands T.F_law_stands.kp T.b_law_stands .nil pass0 (pa_cons (pv 5) (pa_cons (pv 3) pa_nil)))))))) (pss_one (ps_ret pe_bl)) pss_nil)
 (pss_cons (ps_expr (pe_bm0 PySem.F.plainAttrs_list PySem.F.slot_list_clear PySem.F.type_list_clear mt_clear (pe_dget (hu_of hr) (pv 4) pe_str (fun _ _ => rfl))))
 (pss_cons (ps_for PassesOwn.never rfl (pi_list (pe_dget (hu_of hr) (pv 4) pe_str (fun _ _ => rfl))) (pg_name (i := 6) sc_law_k62.nd rfl (Or.inl rfl)) (pss_one (ps_asg (pe_ix ix_list (pv 6) (pe_un un_neg pe_int) (fun _ _ => rfl)) (pg_sub (pv 6) pe_int set_list))))
 (pss_cons (ps_expr (pe_bm0 PySem.F.plainAttrs_list PySem.F.slot_list_reverse PySem.F.type_list_reverse mt_reverse (pe_dget (hu_of hr) (pv 4) pe_str (fun _ _ => rfl))))
 (pss_cons (ps_if (PW.pt (pw_or (pt_not (pt_val (pe_call (ok_law_stained T) (hr.mono (by decide)) (by rfl) T.m_law_stained T.F_law_stained.kp T.b_law_stained .nil pass0 (pa_cons (pv 5) pa_nil)))) (pw_or1 (pt_not (pt_val (pe_call (ok_law_stands T) (hr.mono (by decide)) (by rfl) T.m_law_stands T.F_law_stands.kp T.b_law_stands .nil pass0 (pa_cons (pv 5) (pa_cons (pv 3) pa_nil)))))))) (pss_one (ps_ret pe_bl)) pss_nil)
 (pss_one (ps_if (PW.pt (pw_or (pt_cmpR op_notN1 (pe_meth0 (pv 5) T.cl_Painting T.mt_Painting_undo_k62 (ok_Painting_undo_k62 T) (hr.mono (by decide)) T.b_Painting_undo_k62 .nil pass0) pe_non (nomark _)) (pw_or1 (pt_not (pt_val (pe_call (ok_law_stands T) (hr.mono (by decide)) (by rfl) T.m_law_stands T.F_law_stands.kp T.b_law_stands .nil pass0 (pa_cons (pv 5) (pa_cons (pv 3) pa_nil)))))))) (pss_one (ps_ret pe_bl)) pss_nil)))))))))))
 (pss_one (ps_ret pe_bl)))
theorem ok_law_k62 {P : Program} {w : World} {K : PySem.W.Frag} {mg : Str → Option Value} {base : Heap} {ad : Nat → Addr} {fd : Nat → FuncData} {C_Painting : Addr} (T : Txt K mg ad fd C_Painting) : FnOk P w K mg base CX0 11 (ad 27) (fd 27) ["script"] (sp_law_k62 K) :=
  T.F_law_k62.ok sc_law_k62 (fun vs H Q E h => by
    obtain ⟨_, rfl, _⟩ := h
    rfl) (fun cdv A outer s H vs Q E hr h => ⟨_, dv_law_k62 T hr, sm_law_k62 T.fx_PaintC h⟩)
theorem all_mk {l : PySem.W.OpenLaw} {w : World} {K : PySem.W.Frag} {h : Heap} {mg : Str → Option Value} {fa f0 f1 f2 f3 f4 f5 f6 f7 f8 f9 f10 f11 f12 f13 f14 f15 f16 f17 f18 f19 f20 f21 f22 f23 f24 f25 f26 f27 C_Painting : Addr} (X : K.In h) (G : h.Ns mainGlobals mg) (hfa : mg "law" = some (.ref fa))
    {od0 an0 : Option Addr} {sl0 : Array (Option Value)} {oc0 kV0 dc0 pm0 cd0 ct0 : Value}
    {od1 an1 : Option Addr} {sl1 : Array (Option Value)} {oc1 kV1 dc1 pm1 cd1 ct1 : Value}
    {od2 an2 : Option Addr} {sl2 : Array (Option Value)} {oc2 kV2 dc2 pm2 cd2 ct2 : Value}
    {od3 an3 : Option Addr} {sl3 : Array (Option Value)} {oc3 kV3 dc3 pm3 cd3 ct3 : Value}
    {od4 an4 : Option Addr} {sl4 : Array (Option Value)} {oc4 kV4 dc4 pm4 cd4 ct4 : Value}
    {od5 an5 : Option Addr} {sl5 : Array (Option Value)} {oc5 kV5 dc5 pm5 cd5 ct5 : Value}
    {od6 an6 : Option Addr} {sl6 : Array (Option Value)} {oc6 kV6 dc6 pm6 cd6 ct6 : Value}
    {od7 an7 : Option Addr} {sl7 : Array (Option Value)} {oc7 kV7 dc7 pm7 cd7 ct7 : Value}
    {od8 an8 : Option Addr} {sl8 : Array (Option Value)} {oc8 kV8 dc8 pm8 cd8 ct8 : Value}
    {od9 an9 : Option Addr} {sl9 : Array (Option Value)} {oc9 kV9 dc9 pm9 cd9 ct9 : Value}
    {od10 an10 : Option Addr} {sl10 : Array (Option Value)} {oc10 kV10 dc10 pm10 cd10 ct10 : Value}
    {od11 an11 : Option Addr} {sl11 : Array (Option Value)} {oc11 kV11 dc11 pm11 cd11 ct11 : Value}
    {od12 an12 : Option Addr} {sl12 : Array (Option Value)} {oc12 kV12 dc12 pm12 cd12 ct12 : Value}
    {od13 an13 : Option Addr} {sl13 : Array (Option Value)} {oc13 kV13 dc13 pm13 cd13 ct13 : Value}
    {od14 an14 : Option Addr} {sl14 : Array (Option Value)} {oc14 kV14 dc14 pm14 cd14 ct14 : Value}
    {od15 an15 : Option Addr} {sl15 : Array (Option Value)} {oc15 kV15 dc15 pm15 cd15 ct15 : Value}
    {od16 an16 : Option Addr} {sl16 : Array (Option Value)} {oc16 kV16 dc16 pm16 cd16 ct16 : Value}
    {od17 an17 : Option Addr} {sl17 : Array (Option Value)} {oc17 kV17 dc17 pm17 cd17 ct17 : Value}
    {od18 an18 : Option Addr} {sl18 : Array (Option Value)} {oc18 kV18 dc18 pm18 cd18 ct18 : Value}
    {od19 an19 : Option Addr} {sl19 : Array (Option Value)} {oc19 kV19 dc19 pm19 cd19 ct19 : Value}
    {od20 an20 : Option Addr} {sl20 : Array (Option Value)} {oc20 kV20 dc20 pm20 cd20 ct20 : Value}
    {od21 an21 : Option Addr} {sl21 : Array (Option Value)} {oc21 kV21 dc21 pm21 cd21 ct21 : Value}
    {od22 an22 : Option Addr} {sl22 : Array (Option Value)} {oc22 kV22 dc22 pm22 cd22 ct22 : Value}
    {od23 an23 : Option Addr} {sl23 : Array (Option Value)} {oc23 kV23 dc23 pm23 cd23 ct23 : Value}
    {od24 an24 : Option Addr} {sl24 : Array (Option Value)} {oc24 kV24 dc24 pm24 cd24 ct24 : Value}
    {od25 an25 : Option Addr} {sl25 : Array (Option Value)} {oc25 kV25 dc25 pm25 cd25 ct25 : Value}
    {od26 an26 : Option Addr} {sl26 : Array (Option Value)} {oc26 kV26 dc26 pm26 cd26 ct26 : Value}
    {od27 an27 : Option Addr} {sl27 : Array (Option Value)} {oc27 kV27 dc27 pm27 cd27 ct27 : Value}
    (aC_Painting : PySem.W.nsIn K mainGlobals "Painting" = some (some (.ref C_Painting)))
    (a0 : PySem.W.nsIn K mainGlobals "apart" = some (some (.ref f0)))
    (l0 : K.lookup f0 = some ⟨oc0, od0, .func (PySem.W.fnOf "apart" "apart" (defArgs s_apart) (defBody s_apart) (defScope s_apart) .none kV0 dc0 pm0 an0 cd0 ct0), sl0⟩)
    (c0 : PySem.W.codeIn K cd0 "apart" = true)
    (k0 : PySem.W.keepIn K (.ref f0) = true)
    (a1 : PySem.W.nsIn K mainGlobals "squares_by" = some (some (.ref f1)))
    (l1 : K.lookup f1 = some ⟨oc1, od1, .func (PySem.W.fnOf "squares_by" "squares_by" (defArgs s_squares_by) (defBody s_squares_by) (defScope s_squares_by) .none kV1 dc1 pm1 an1 cd1 ct1), sl1⟩)
    (c1 : PySem.W.codeIn K cd1 "squares_by" = true)
    (k1 : PySem.W.keepIn K (.ref f1) = true)
    (a2 : PySem.W.nsIn K mainGlobals "nearest" = some (some (.ref f2)))
    (l2 : K.lookup f2 = some ⟨oc2, od2, .func (PySem.W.fnOf "nearest" "nearest" (defArgs s_nearest) (defBody s_nearest) (defScope s_nearest) .none kV2 dc2 pm2 an2 cd2 ct2), sl2⟩)
    (c2 : PySem.W.codeIn K cd2 "nearest" = true)
    (k2 : PySem.W.keepIn K (.ref f2) = true)
    (a3 : PySem.W.findIn K (.ref C_Painting) "__init__" = some (some (.ref f3)))
    (i3 : PySem.W.isFn K (.ref f3) = true)
    (l3 : K.lookup f3 = some ⟨oc3, od3, .func (PySem.W.fnOf "__init__" "Painting.__init__" (defArgs s_Painting_init) (defBody s_Painting_init) (defScope s_Painting_init) .none kV3 dc3 pm3 an3 cd3 ct3), sl3⟩)
    (c3 : PySem.W.codeIn K cd3 "Painting.__init__" = true)
    (k3 : PySem.W.keepIn K (.ref f3) = true)
    (a4 : PySem.W.findIn K (.ref C_Painting) "undo" = some (some (.ref f4)))
    (i4 : PySem.W.isFn K (.ref f4) = true)
    (l4 : K.lookup f4 = some ⟨oc4, od4, .func (PySem.W.fnOf "undo" "Painting.undo" (defArgs s_Painting_undo_k62) (defBody s_Painting_undo_k62) (defScope s_Painting_undo_k62) .none kV4 dc4 pm4 an4 cd4 ct4), sl4⟩)
    (c4 : PySem.W.codeIn K cd4 "Painting.undo" = true)
    (k4 : PySem.W.keepIn K (.ref f4) = true)
    (a5 : PySem.W.nsIn K mainGlobals "_law_left" = some (some (.ref f5)))
    (l5 : K.lookup f5 = some ⟨oc5, od5, .func (PySem.W.fnOf "_law_left" "_law_left" (defArgs s_law_left) (defBody s_law_left) (defScope s_law_left) .none kV5 dc5 pm5 an5 cd5 ct5), sl5⟩)
    (c5 : PySem.W.codeIn K cd5 "_law_left" = true)
    (k5 : PySem.W.keepIn K (.ref f5) = true)
    (a6 : PySem.W.nsIn K mainGlobals "_law_mix" = some (some (.ref f6)))
    (l6 : K.lookup f6 = some ⟨oc6, od6, .func (PySem.W.fnOf "_law_mix" "_law_mix" (defArgs s_law_mix) (defBody s_law_mix) (defScope s_law_mix) .none kV6 dc6 pm6 an6 cd6 ct6), sl6⟩)
    (c6 : PySem.W.codeIn K cd6 "_law_mix" = true)
    (k6 : PySem.W.keepIn K (.ref f6) = true)
    (a7 : PySem.W.nsIn K mainGlobals "_law_pick" = some (some (.ref f7)))
    (l7 : K.lookup f7 = some ⟨oc7, od7, .func (PySem.W.fnOf "_law_pick" "_law_pick" (defArgs s_law_pick) (defBody s_law_pick) (defScope s_law_pick) .none kV7 dc7 pm7 an7 cd7 ct7), sl7⟩)
    (c7 : PySem.W.codeIn K cd7 "_law_pick" = true)
    (k7 : PySem.W.keepIn K (.ref f7) = true)
    (a8 : PySem.W.nsIn K mainGlobals "_law_kind" = some (some (.ref f8)))
    (l8 : K.lookup f8 = some ⟨oc8, od8, .func (PySem.W.fnOf "_law_kind" "_law_kind" (defArgs s_law_kind) (defBody s_law_kind) (defScope s_law_kind) .none kV8 dc8 pm8 an8 cd8 ct8), sl8⟩)
    (c8 : PySem.W.codeIn K cd8 "_law_kind" = true)
    (k8 : PySem.W.keepIn K (.ref f8) = true)
    (a9 : PySem.W.nsIn K mainGlobals "_law_colour" = some (some (.ref f9)))
    (l9 : K.lookup f9 = some ⟨oc9, od9, .func (PySem.W.fnOf "_law_colour" "_law_colour" (defArgs s_law_colour) (defBody s_law_colour) (defScope s_law_colour) .none kV9 dc9 pm9 an9 cd9 ct9), sl9⟩)
    (c9 : PySem.W.codeIn K cd9 "_law_colour" = true)
    (k9 : PySem.W.keepIn K (.ref f9) = true)
    (a10 : PySem.W.nsIn K mainGlobals "_law_palette" = some (some (.ref f10)))
    (l10 : K.lookup f10 = some ⟨oc10, od10, .func (PySem.W.fnOf "_law_palette" "_law_palette" (defArgs s_law_palette) (defBody s_law_palette) (defScope s_law_palette) .none kV10 dc10 pm10 an10 cd10 ct10), sl10⟩)
    (c10 : PySem.W.codeIn K cd10 "_law_palette" = true)
    (k10 : PySem.W.keepIn K (.ref f10) = true)
    (a11 : PySem.W.nsIn K mainGlobals "_law_picture" = some (some (.ref f11)))
    (l11 : K.lookup f11 = some ⟨oc11, od11, .func (PySem.W.fnOf "_law_picture" "_law_picture" (defArgs s_law_picture) (defBody s_law_picture) (defScope s_law_picture) .none kV11 dc11 pm11 an11 cd11 ct11), sl11⟩)
    (c11 : PySem.W.codeIn K cd11 "_law_picture" = true)
    (k11 : PySem.W.keepIn K (.ref f11) = true)
    (a12 : PySem.W.nsIn K mainGlobals "_law_world" = some (some (.ref f12)))
    (l12 : K.lookup f12 = some ⟨oc12, od12, .func (PySem.W.fnOf "_law_world" "_law_world" (defArgs s_law_world) (defBody s_law_world) (defScope s_law_world) .none kV12 dc12 pm12 an12 cd12 ct12), sl12⟩)
    (c12 : PySem.W.codeIn K cd12 "_law_world" = true)
    (k12 : PySem.W.keepIn K (.ref f12) = true)
    (a13 : PySem.W.findIn K (.ref C_Painting) "numbers" = some (some (.ref f13)))
    (i13 : PySem.W.isFn K (.ref f13) = true)
    (l13 : K.lookup f13 = some ⟨oc13, od13, .func (PySem.W.fnOf "numbers" "Painting.numbers" (defArgs s_Painting_numbers) (defBody s_Painting_numbers) (defScope s_Painting_numbers) .none kV13 dc13 pm13 an13 cd13 ct13), sl13⟩)
    (c13 : PySem.W.codeIn K cd13 "Painting.numbers" = true)
    (k13 : PySem.W.keepIn K (.ref f13) = true)
    (a14 : PySem.W.findIn K (.ref C_Painting) "palette" = some (some (.ref f14)))
    (i14 : PySem.W.isFn K (.ref f14) = true)
    (l14 : K.lookup f14 = some ⟨oc14, od14, .func (PySem.W.fnOf "palette" "Painting.palette" (defArgs s_Painting_palette) (defBody s_Painting_palette) (defScope s_Painting_palette) .none kV14 dc14 pm14 an14 cd14 ct14), sl14⟩)
    (c14 : PySem.W.codeIn K cd14 "Painting.palette" = true)
    (k14 : PySem.W.keepIn K (.ref f14) = true)
    (a15 : PySem.W.findIn K (.ref C_Painting) "picture" = some (some (.ref f15)))
    (i15 : PySem.W.isFn K (.ref f15) = true)
    (l15 : K.lookup f15 = some ⟨oc15, od15, .func (PySem.W.fnOf "picture" "Painting.picture" (defArgs s_Painting_picture) (defBody s_Painting_picture) (defScope s_Painting_picture) .none kV15 dc15 pm15 an15 cd15 ct15), sl15⟩)
    (c15 : PySem.W.codeIn K cd15 "Painting.picture" = true)
    (k15 : PySem.W.keepIn K (.ref f15) = true)
    (a16 : PySem.W.findIn K (.ref C_Painting) "all_spots" = some (some (.ref f16)))
    (i16 : PySem.W.isFn K (.ref f16) = true)
    (l16 : K.lookup f16 = some ⟨oc16, od16, .func (PySem.W.fnOf "all_spots" "Painting.all_spots" (defArgs s_Painting_all_spots) (defBody s_Painting_all_spots) (defScope s_Painting_all_spots) .none kV16 dc16 pm16 an16 cd16 ct16), sl16⟩)
    (c16 : PySem.W.codeIn K cd16 "Painting.all_spots" = true)
    (k16 : PySem.W.keepIn K (.ref f16) = true)
    (a17 : PySem.W.findIn K (.ref C_Painting) "far_now" = some (some (.ref f17)))
    (i17 : PySem.W.isFn K (.ref f17) = true)
    (l17 : K.lookup f17 = some ⟨oc17, od17, .func (PySem.W.fnOf "far_now" "Painting.far_now" (defArgs s_Painting_far_now) (defBody s_Painting_far_now) (defScope s_Painting_far_now) .none kV17 dc17 pm17 an17 cd17 ct17), sl17⟩)
    (c17 : PySem.W.codeIn K cd17 "Painting.far_now" = true)
    (k17 : PySem.W.keepIn K (.ref f17) = true)
    (a18 : PySem.W.findIn K (.ref C_Painting) "lost" = some (some (.ref f18)))
    (i18 : PySem.W.isFn K (.ref f18) = true)
    (l18 : K.lookup f18 = some ⟨oc18, od18, .func (PySem.W.fnOf "lost" "Painting.lost" (defArgs s_Painting_lost) (defBody s_Painting_lost) (defScope s_Painting_lost) .none kV18 dc18 pm18 an18 cd18 ct18), sl18⟩)
    (c18 : PySem.W.codeIn K cd18 "Painting.lost" = true)
    (k18 : PySem.W.keepIn K (.ref f18) = true)
    (a19 : PySem.W.nsIn K mainGlobals "_law_same" = some (some (.ref f19)))
    (l19 : K.lookup f19 = some ⟨oc19, od19, .func (PySem.W.fnOf "_law_same" "_law_same" (defArgs s_law_same) (defBody s_law_same) (defScope s_law_same) .none kV19 dc19 pm19 an19 cd19 ct19), sl19⟩)
    (c19 : PySem.W.codeIn K cd19 "_law_same" = true)
    (k19 : PySem.W.keepIn K (.ref f19) = true)
    (a20 : PySem.W.nsIn K mainGlobals "_law_apart" = some (some (.ref f20)))
    (l20 : K.lookup f20 = some ⟨oc20, od20, .func (PySem.W.fnOf "_law_apart" "_law_apart" (defArgs s_law_apart) (defBody s_law_apart) (defScope s_law_apart) .none kV20 dc20 pm20 an20 cd20 ct20), sl20⟩)
    (c20 : PySem.W.codeIn K cd20 "_law_apart" = true)
    (k20 : PySem.W.keepIn K (.ref f20) = true)
    (a21 : PySem.W.nsIn K mainGlobals "_law_nearest" = some (some (.ref f21)))
    (l21 : K.lookup f21 = some ⟨oc21, od21, .func (PySem.W.fnOf "_law_nearest" "_law_nearest" (defArgs s_law_nearest) (defBody s_law_nearest) (defScope s_law_nearest) .none kV21 dc21 pm21 an21 cd21 ct21), sl21⟩)
    (c21 : PySem.W.codeIn K cd21 "_law_nearest" = true)
    (k21 : PySem.W.keepIn K (.ref f21) = true)
    (a22 : PySem.W.nsIn K mainGlobals "_law_numbers" = some (some (.ref f22)))
    (l22 : K.lookup f22 = some ⟨oc22, od22, .func (PySem.W.fnOf "_law_numbers" "_law_numbers" (defArgs s_law_numbers) (defBody s_law_numbers) (defScope s_law_numbers) .none kV22 dc22 pm22 an22 cd22 ct22), sl22⟩)
    (c22 : PySem.W.codeIn K cd22 "_law_numbers" = true)
    (k22 : PySem.W.keepIn K (.ref f22) = true)
    (a23 : PySem.W.nsIn K mainGlobals "_law_lost" = some (some (.ref f23)))
    (l23 : K.lookup f23 = some ⟨oc23, od23, .func (PySem.W.fnOf "_law_lost" "_law_lost" (defArgs s_law_lost) (defBody s_law_lost) (defScope s_law_lost) .none kV23 dc23 pm23 an23 cd23 ct23), sl23⟩)
    (c23 : PySem.W.codeIn K cd23 "_law_lost" = true)
    (k23 : PySem.W.keepIn K (.ref f23) = true)
    (a24 : PySem.W.nsIn K mainGlobals "_law_stands" = some (some (.ref f24)))
    (l24 : K.lookup f24 = some ⟨oc24, od24, .func (PySem.W.fnOf "_law_stands" "_law_stands" (defArgs s_law_stands) (defBody s_law_stands) (defScope s_law_stands) .none kV24 dc24 pm24 an24 cd24 ct24), sl24⟩)
    (c24 : PySem.W.codeIn K cd24 "_law_stands" = true)
    (k24 : PySem.W.keepIn K (.ref f24) = true)
    (a25 : PySem.W.nsIn K mainGlobals "_law_copied" = some (some (.ref f25)))
    (l25 : K.lookup f25 = some ⟨oc25, od25, .func (PySem.W.fnOf "_law_copied" "_law_copied" (defArgs s_law_copied) (defBody s_law_copied) (defScope s_law_copied) .none kV25 dc25 pm25 an25 cd25 ct25), sl25⟩)
    (c25 : PySem.W.codeIn K cd25 "_law_copied" = true)
    (k25 : PySem.W.keepIn K (.ref f25) = true)
    (a26 : PySem.W.nsIn K mainGlobals "_law_stained" = some (some (.ref f26)))
    (l26 : K.lookup f26 = some ⟨oc26, od26, .func (PySem.W.fnOf "_law_stained" "_law_stained" (defArgs s_law_stained) (defBody s_law_stained) (defScope s_law_stained) .none kV26 dc26 pm26 an26 cd26 ct26), sl26⟩)
    (c26 : PySem.W.codeIn K cd26 "_law_stained" = true)
    (k26 : PySem.W.keepIn K (.ref f26) = true)
    (a27 : PySem.W.nsIn K mainGlobals "law" = some (some (.ref f27)))
    (l27 : K.lookup f27 = some ⟨oc27, od27, .func (PySem.W.fnOf "law" "law" (defArgs s_law_k62) (defBody s_law_k62) (defScope s_law_k62) .none kV27 dc27 pm27 an27 cd27 ct27), sl27⟩)
    (c27 : PySem.W.codeIn K cd27 "law" = true)
    (k27 : PySem.W.keepIn K (.ref f27) = true)
    (pg_Painting : PySem.W.plainGet K C_Painting Str.empty = true)
    (hd_Painting : PySem.W.hasDictIn K C_Painting = true)
    (po_Painting : PySem.W.plainOver K C_Painting = true)
    (sa_Painting : PySem.W.findIn K (.ref C_Painting) "__setattr__" = some (some (.builtin "object.__setattr__")))
    (mk_Painting : PySem.W.makesIn K C_Painting = true)
    (kc_Painting : PySem.W.keepIn K (.ref C_Painting) = true)
    (PaintC_na0 : PySem.W.findIn K (.ref C_Painting) "own_picture" = some none)
    (PaintC_na1 : PySem.W.findIn K (.ref C_Painting) "own_palette" = some none)
    (PaintC_na2 : PySem.W.findIn K (.ref C_Painting) "own_numbers" = some none)
    (PaintC_na3 : PySem.W.findIn K (.ref C_Painting) "own_past" = some none)
    (z_abs : PySem.W.nsIn K mainGlobals "abs" = some none)
    (z_all : PySem.W.nsIn K mainGlobals "all" = some none)
    (z_bool : PySem.W.nsIn K mainGlobals "bool" = some none)
    (z_enumerate : PySem.W.nsIn K mainGlobals "enumerate" = some none)
    (z_int : PySem.W.nsIn K mainGlobals "int" = some none)
    (z_isinstance : PySem.W.nsIn K mainGlobals "isinstance" = some none)
    (z_len : PySem.W.nsIn K mainGlobals "len" = some none)
    (z_list : PySem.W.nsIn K mainGlobals "list" = some none)
    (z_max : PySem.W.nsIn K mainGlobals "max" = some none)
    (z_min : PySem.W.nsIn K mainGlobals "min" = some none)
    (z_range : PySem.W.nsIn K mainGlobals "range" = some none)
    (z_str : PySem.W.nsIn K mainGlobals "str" = some none)
    (z_sum : PySem.W.nsIn K mainGlobals "sum" = some none)
    (z_tuple : PySem.W.nsIn K mainGlobals "tuple" = some none)
    (z_zip : PySem.W.nsIn K mainGlobals "zip" = some none) :
    ∃ fd : FuncData, (∀ (s : Shared) (v : Value), BindsTo s fd ⟨[v], []⟩ [("script", v)]) ∧ ∀ base : Heap, K.In base → base.Ns mainGlobals mg → FnOk l.prog w K mg base CX0 11 fa fd ["script"] (sp_law_k62 K) := by
  have e := hfa.symm.trans (PySem.W.mg_of X G a27)
  cases e
  let ad : Nat → Addr := fun i => match i with | 0 => f0 | 1 => f1 | 2 => f2 | 3 => f3 | 4 => f4 | 5 => f5 | 6 => f6 | 7 => f7 | 8 => f8 | 9 => f9 | 10 => f10 | 11 => f11 | 12 => f12 | 13 => f13 | 14 => f14 | 15 => f15 | 16 => f16 | 17 => f17 | 18 => f18 | 19 => f19 | 20 => f20 | 21 => f21 | 22 => f22 | 23 => f23 | 24 => f24 | 25 => f25 | 26 => f26 | 27 => fa | _ => 0
  let fd : Nat → FuncData := fun i => match i with | 0 => (PySem.W.fnOf "apart" "apart" (defArgs s_apart) (defBody s_apart) (defScope s_apart) .none kV0 dc0 pm0 an0 cd0 ct0) | 1 => (PySem.W.fnOf "squares_by" "squares_by" (defArgs s_squares_by) (defBody s_squares_by) (defScope s_squares_by) .none kV1 dc1 pm1 an1 cd1 ct1) | 2 => (PySem.W.fnOf "nearest" "nearest" (defArgs s_nearest) (defBody s_nearest) (defScope s_nearest) .none kV2 dc2 pm2 an2 cd2 ct2) | 3 => (PySem.W.fnOf "__init__" "Painting.__init__" (defArgs s_Painting_init) (defBody s_Painting_init) (defScope s_Painting_init) .none kV3 dc3 pm3 an3 cd3 ct3) | 4 => (PySem.W.fnOf "undo" "Painting.undo" (defArgs s_Painting_undo_k62) (defBody s_Painting_undo_k62) (defScope s_Painting_undo_k62) .none kV4 dc4 pm4 an4 cd4 ct4) | 5 => (PySem.W.fnOf "_law_left" "_law_left" (defArgs s_law_left) (defBody s_law_left) (defScope s_law_left) .none kV5 dc5 pm5 an5 cd5 ct5) | 6 => (PySem.W.fnOf "_law_mix" "_law_mix" (defArgs s_law_mix) (defBody s_law_mix) (defScope s_law_mix) .none kV6 dc6 pm6 an6 cd6 ct6) | 7 => (PySem.W.fnOf "_law_pick" "_law_pick" (defArgs s_law_pick) (defBody s_law_pick) (defScope s_law_pick) .none kV7 dc7 pm7 an7 cd7 ct7) | 8 => (PySem.W.fnOf "_law_kind" "_law_kind" (defArgs s_law_kind) (defBody s_law_kind) (defScope s_law_kind) .none kV8 dc8 pm8 an8 cd8 ct8) | 9 => (PySem.W.fnOf "_law_colour" "_law_colour" (defArgs s_law_colour) (defBody s_law_colour) (defScope s_law_colour) .none kV9 dc9 pm9 an9 cd9 ct9) | 10 => (PySem.W.fnOf "_law_palette" "_law_palette" (defArgs s_law_palette) (defBody s_law_palette) (defScope s_law_palette) .none kV10 dc10 pm10 an10 cd10 ct10) | 11 => (PySem.W.fnOf "_law_picture" "_law_picture" (defArgs s_law_picture) (defBody s_law_picture) (defScope s_law_picture) .none kV11 dc11 pm11 an11 cd11 ct11) | 12 => (PySem.W.fnOf "_law_world" "_law_world" (defArgs s_law_world) (defBody s_law_world) (defScope s_law_world) .none kV12 dc12 pm12 an12 cd12 ct12) | 13 => (PySem.W.fnOf "numbers" "Painting.numbers" (defArgs s_Painting_numbers) (defBody s_Painting_numbers) (defScope s_Painting_numbers) .none kV13 dc13 pm13 an13 cd13 ct13) | 14 => (PySem.W.fnOf "palette" "Painting.palette" (defArgs s_Painting_palette) (defBody s_Painting_palette) (defScope s_Painting_palette) .none kV14 dc14 pm14 an14 cd14 ct14) | 15 => (PySem.W.fnOf "picture" "Painting.picture" (defArgs s_Painting_picture) (defBody s_Painting_picture) (defScope s_Painting_picture) .none kV15 dc15 pm15 an15 cd15 ct15) | 16 => (PySem.W.fnOf "all_spots" "Painting.all_spots" (defArgs s_Painting_all_spots) (defBody s_Painting_all_spots) (defScope s_Painting_all_spots) .none kV16 dc16 pm16 an16 cd16 ct16) | 17 => (PySem.W.fnOf "far_now" "Painting.far_now" (defArgs s_Painting_far_now) (defBody s_Painting_far_now) (defScope s_Painting_far_now) .none kV17 dc17 pm17 an17 cd17 ct17) | 18 => (PySem.W.fnOf "lost" "Painting.lost" (defArgs s_Painting_lost) (defBody s_Painting_lost) (defScope s_Painting_lost) .none kV18 dc18 pm18 an18 cd18 ct18) | 19 => (PySem.W.fnOf "_law_same" "_law_same" (defArgs s_law_same) (defBody s_law_same) (defScope s_law_same) .none kV19 dc19 pm19 an19 cd19 ct19) | 20 => (PySem.W.fnOf "_law_apart" "_law_apart" (defArgs s_law_apart) (defBody s_law_apart) (defScope s_law_apart) .none kV20 dc20 pm20 an20 cd20 ct20) | 21 => (PySem.W.fnOf "_law_nearest" "_law_nearest" (defArgs s_law_nearest) (defBody s_law_nearest) (defScope s_law_nearest) .none kV21 dc21 pm21 an21 cd21 ct21) | 22 => (PySem.W.fnOf "_law_numbers" "_law_numbers" (defArgs s_law_numbers) (defBody s_law_numbers) (defScope s_law_numbers) .none kV22 dc22 pm22 an22 cd22 ct22) | 23 => (PySem.W.fnOf "_law_lost" "_law_lost" (defArgs s_law_lost) (defBody s_law_lost) (defScope s_law_lost) .none kV23 dc23 pm23 an23 cd23 ct23) | 24 => (PySem.W.fnOf "_law_stands" "_law_stands" (defArgs s_law_stands) (defBody s_law_stands) (defScope s_law_stands) .none kV24 dc24 pm24 an24 cd24 ct24) | 25 => (PySem.W.fnOf "_law_copied" "_law_copied" (defArgs s_law_copied) (defBody s_law_copied) (defScope s_law_copied) .none kV25 dc25 pm25 an25 cd25 ct25) | 26 => (PySem.W.fnOf "_law_stained" "_law_stained" (defArgs s_law_stained) (defBody s_law_stained) (defScope s_law_stained) .none kV26 dc26 pm26 an26 cd26 ct26) | 27 => (PySem.W.fnOf "law" "law" (defArgs s_law_k62) (defBody s_law_k62) (defScope s_law_k62) .none kV27 dc27 pm27 an27 cd27 ct27) | _ => (PySem.W.fnOf "apart" "apart" (defArgs s_apart) (defBody s_apart) (defScope s_apart) .none kV0 dc0 pm0 an0 cd0 ct0)
  have F0 := fun_mk (st := s_apart) l0 c0 k0
  have b0 := F0.binds (ps := ["one", "other"]) fun _ _ _ _ _ _ us hl => match us, hl with | [_, _], _ => rfl
  have F1 := fun_mk (st := s_squares_by) l1 c1 k1
  have b1 := F1.binds (ps := ["palette", "colour"]) fun _ _ _ _ _ _ us hl => match us, hl with | [_, _], _ => rfl
  have F2 := fun_mk (st := s_nearest) l2 c2 k2
  have b2 := F2.binds (ps := ["palette", "colour"]) fun _ _ _ _ _ _ us hl => match us, hl with | [_, _], _ => rfl
  have F3 := fun_mk (st := s_Painting_init) l3 c3 k3
  have b3 := F3.binds (ps := ["self", "picture", "palette"]) fun _ _ _ _ _ _ us hl => match us, hl with | [_, _, _], _ => rfl
  have F4 := fun_mk (st := s_Painting_undo_k62) l4 c4 k4
  have b4 := F4.binds (ps := ["self"]) fun _ _ _ _ _ _ us hl => match us, hl with | [_], _ => rfl
  have F5 := fun_mk (st := s_law_left) l5 c5 k5
  have b5 := F5.binds (ps := ["script", "k"]) fun _ _ _ _ _ _ us hl => match us, hl with | [_, _], _ => rfl
  have F6 := fun_mk (st := s_law_mix) l6 c6 k6
  have b6 := F6.binds (ps := ["cell", "k"]) fun _ _ _ _ _ _ us hl => match us, hl with | [_, _], _ => rfl
  have F7 := fun_mk (st := s_law_pick) l7 c7 k7
  have b7 := F7.binds (ps := ["left", "many"]) fun _ _ _ _ _ _ us hl => match us, hl with | [_, _], _ => rfl
  have F8 := fun_mk (st := s_law_kind) l8 c8 k8
  have b8 := F8.binds (ps := ["left"]) fun _ _ _ _ _ _ us hl => match us, hl with | [_], _ => rfl
  have F9 := fun_mk (st := s_law_colour) l9 c9 k9
  have b9 := F9.binds (ps := ["left", "kind"]) fun _ _ _ _ _ _ us hl => match us, hl with | [_, _], _ => rfl
  have F10 := fun_mk (st := s_law_palette) l10 c10 k10
  have b10 := F10.binds (ps := ["left", "kind"]) fun _ _ _ _ _ _ us hl => match us, hl with | [_, _], _ => rfl
  have F11 := fun_mk (st := s_law_picture) l11 c11 k11
  have b11 := F11.binds (ps := ["left", "kind"]) fun _ _ _ _ _ _ us hl => match us, hl with | [_, _], _ => rfl
  have F12 := fun_mk (st := s_law_world) l12 c12 k12
  have b12 := F12.binds (ps := ["left"]) fun _ _ _ _ _ _ us hl => match us, hl with | [_], _ => rfl
  have F13 := fun_mk (st := s_Painting_numbers) l13 c13 k13
  have b13 := F13.binds (ps := ["self"]) fun _ _ _ _ _ _ us hl => match us, hl with | [_], _ => rfl
  have F14 := fun_mk (st := s_Painting_palette) l14 c14 k14
  have b14 := F14.binds (ps := ["self"]) fun _ _ _ _ _ _ us hl => match us, hl with | [_], _ => rfl
  have F15 := fun_mk (st := s_Painting_picture) l15 c15 k15
  have b15 := F15.binds (ps := ["self"]) fun _ _ _ _ _ _ us hl => match us, hl with | [_], _ => rfl
  have F16 := fun_mk (st := s_Painting_all_spots) l16 c16 k16
  have b16 := F16.binds (ps := ["self"]) fun _ _ _ _ _ _ us hl => match us, hl with | [_], _ => rfl
  have F17 := fun_mk (st := s_Painting_far_now) l17 c17 k17
  have b17 := F17.binds (ps := ["self", "row", "column"]) fun _ _ _ _ _ _ us hl => match us, hl with | [_, _, _], _ => rfl
  have F18 := fun_mk (st := s_Painting_lost) l18 c18 k18
  have b18 := F18.binds (ps := ["self"]) fun _ _ _ _ _ _ us hl => match us, hl with | [_], _ => rfl
  have F19 := fun_mk (st := s_law_same) l19 c19 k19
  have b19 := F19.binds (ps := ["found", "due"]) fun _ _ _ _ _ _ us hl => match us, hl with | [_, _], _ => rfl
  have F20 := fun_mk (st := s_law_apart) l20 c20 k20
  have b20 := F20.binds (ps := ["one", "other"]) fun _ _ _ _ _ _ us hl => match us, hl with | [_, _], _ => rfl
  have F21 := fun_mk (st := s_law_nearest) l21 c21 k21
  have b21 := F21.binds (ps := ["palette", "colour"]) fun _ _ _ _ _ _ us hl => match us, hl with | [_, _], _ => rfl
  have F22 := fun_mk (st := s_law_numbers) l22 c22 k22
  have b22 := F22.binds (ps := ["own"]) fun _ _ _ _ _ _ us hl => match us, hl with | [_], _ => rfl
  have F23 := fun_mk (st := s_law_lost) l23 c23 k23
  have b23 := F23.binds (ps := ["own"]) fun _ _ _ _ _ _ us hl => match us, hl with | [_], _ => rfl
  have F24 := fun_mk (st := s_law_stands) l24 c24 k24
  have b24 := F24.binds (ps := ["painting", "own"]) fun _ _ _ _ _ _ us hl => match us, hl with | [_, _], _ => rfl
  have F25 := fun_mk (st := s_law_copied) l25 c25 k25
  have b25 := F25.binds (ps := ["own"]) fun _ _ _ _ _ _ us hl => match us, hl with | [_], _ => rfl
  have F26 := fun_mk (st := s_law_stained) l26 c26 k26
  have b26 := F26.binds (ps := ["painting"]) fun _ _ _ _ _ _ us hl => match us, hl with | [_], _ => rfl
  have F27 := fun_mk (st := s_law_k62) l27 c27 k27
  have b27 := F27.binds (ps := ["script"]) fun _ _ _ _ _ _ us hl => match us, hl with | [_], _ => rfl
  have T : Txt K mg ad fd C_Painting := ⟨F0, b0, PySem.W.mg_of X G a0, F1, b1, PySem.W.mg_of X G a1, F2, b2, PySem.W.mg_of X G a2, F3, b3, F4, b4, ⟨a4, i4, k4⟩, F5, b5, PySem.W.mg_of X G a5, F6, b6, PySem.W.mg_of X G a6, F7, b7, PySem.W.mg_of X G a7, F8, b8, PySem.W.mg_of X G a8, F9, b9, PySem.W.mg_of X G a9, F10, b10, PySem.W.mg_of X G a10, F11, b11, PySem.W.mg_of X G a11, F12, b12, PySem.W.mg_of X G a12, F13, b13, ⟨a13, i13, k13⟩, F14, b14, ⟨a14, i14, k14⟩, F15, b15, ⟨a15, i15, k15⟩, F16, b16, ⟨a16, i16, k16⟩, F17, b17, ⟨a17, i17, k17⟩, F18, b18, ⟨a18, i18, k18⟩, F19, b19, PySem.W.mg_of X G a19, F20, b20, PySem.W.mg_of X G a20, F21, b21, PySem.W.mg_of X G a21, F22, b22, PySem.W.mg_of X G a22, F23, b23, PySem.W.mg_of X G a23, F24, b24, PySem.W.mg_of X G a24, F25, b25, PySem.W.mg_of X G a25, F26, b26, PySem.W.mg_of X G a26, F27, b27, PySem.W.mg_of X G a27, PySem.W.mg_of X G aC_Painting, ⟨pg_Painting, hd_Painting, po_Painting, sa_Painting⟩, ⟨mk_Painting, a3, i3, kc_Painting⟩, ⟨⟨pg_Painting, hd_Painting, po_Painting, sa_Painting⟩, PaintC_na0, PaintC_na1, PaintC_na2, PaintC_na3⟩, PySem.W.mg_none_of X G z_abs, PySem.W.mg_none_of X G z_all, PySem.W.mg_none_of X G z_bool, PySem.W.mg_none_of X G z_enumerate, PySem.W.mg_none_of X G z_int, PySem.W.mg_none_of X G z_isinstance, PySem.W.mg_none_of X G z_len, PySem.W.mg_none_of X G z_list, PySem.W.mg_none_of X G z_max, PySem.W.mg_none_of X G z_min, PySem.W.mg_none_of X G z_range, PySem.W.mg_none_of X G z_str, PySem.W.mg_none_of X G z_sum, PySem.W.mg_none_of X G z_tuple, PySem.W.mg_none_of X G z_zip⟩
  exact ⟨fd 27, fun s v => .of_eq rfl, fun base _ _ => ok_law_k62 T⟩
theorem walk {l : PySem.W.OpenLaw} {q : Program} {loose : List Str} {XP : (Str → Option Value) → Heap → Prop} {YP : World → Heap → Prop} {d : DefRec} {K : Params → PySem.W.Frag} (hn : l.most = some 63) (hdf : d.params.defaults = [])
    (hY : ∀ (w : World) (h : Heap), YP w h → (K w.params).In h)
    (F : ∀ (w : World) (mg : Str → Option Value) (fa : Addr) (h : Heap), (K w.params).In h → h.Ns mainGlobals mg → mg d.name = some (.ref fa) →
      ∃ fd : FuncData, (∀ (s : Shared) (u : Value), BindsTo s fd ⟨[u], []⟩ [("script", u)]) ∧ ∀ base : Heap, (K w.params).In base → base.Ns mainGlobals mg → FnOk l.prog w (K w.params) mg base CX0 11 fa fd ["script"] (sp_law_k62 (K w.params))) :
    PySem.W.WalkO q loose XP YP l.row.toRowW d [] (fun f vs => PySem.call f vs) :=
  L2.walk_of (n := 63) (k := 11) (x := "script") (CX := fun _ => CX0) (sp := fun w => sp_law_k62 (K w.params)) hn (by decide) hdf ⟨rfl, by decide, by decide⟩ hY F (fun _ _ a ns hl _ hS => ⟨_, rfl, a, ns, rfl, hS, hl, fun _ => rfl⟩) fun _ _ _ _ _ z => z
end Fc

open PySem PySem.W PyProof.Rows in
set_option maxRecDepth 100000 in
set_option maxHeartbeats 0 in
theorem PySem.Challenge.cw_fewcolours_k62_a_painting_at_first_holds : PySem.Challenge.rw_fewcolours_k62_a_painting_at_first.Holds := by
  w_on; o_law; k_head; (case hw => w_witness2)
  k_fill
  refine Fc.walk (l := PySem.Challenge.rw_fewcolours_k62_a_painting_at_first) rfl rfl (fun w h Y => PySem.W.kIn_of Y) ?F
  case F =>
    intro w mg fa h KX G hmg
    refine' Fc.all_mk KX G hmg ?aC_Painting ?a0 ?l0 ?c0 ?k0 ?a1 ?l1 ?c1 ?k1 ?a2 ?l2 ?c2 ?k2 ?a3 ?i3 ?l3 ?c3 ?k3 ?a4 ?i4 ?l4 ?c4 ?k4 ?a5 ?l5 ?c5 ?k5 ?a6 ?l6 ?c6 ?k6 ?a7 ?l7 ?c7 ?k7 ?a8 ?l8 ?c8 ?k8 ?a9 ?l9 ?c9 ?k9 ?a10 ?l10 ?c10 ?k10 ?a11 ?l11 ?c11 ?k11 ?a12 ?l12 ?c12 ?k12 ?a13 ?i13 ?l13 ?c13 ?k13 ?a14 ?i14 ?l14 ?c14 ?k14 ?a15 ?i15 ?l15 ?c15 ?k15 ?a16 ?i16 ?l16 ?c16 ?k16 ?a17 ?i17 ?l17 ?c17 ?k17 ?a18 ?i18 ?l18 ?c18 ?k18 ?a19 ?l19 ?c19 ?k19 ?a20 ?l20 ?c20 ?k20 ?a21 ?l21 ?c21 ?k21 ?a22 ?l22 ?c22 ?k22 ?a23 ?l23 ?c23 ?k23 ?a24 ?l24 ?c24 ?k24 ?a25 ?l25 ?c25 ?k25 ?a26 ?l26 ?c26 ?k26 ?a27 ?l27 ?c27 ?k27 ?pg_Painting ?hd_Painting ?po_Painting ?sa_Painting ?mk_Painting ?kc_Painting ?PaintC_na0 ?PaintC_na1 ?PaintC_na2 ?PaintC_na3 ?z_abs ?z_all ?z_bool ?z_enumerate ?z_int ?z_isinstance ?z_len ?z_list ?z_max ?z_min ?z_range ?z_str ?z_sum ?z_tuple ?z_zip
    (case aC_Painting => first | k_is | rfl)
    (case a0 => first | k_is | rfl)
    (case l0 => first | k_is | rfl)
    (case c0 => first | k_is | rfl)
    (case k0 => first | k_is | rfl)
    (case a1 => first | k_is | rfl)
    (case l1 => first | k_is | rfl)
    (case c1 => first | k_is | rfl)
    (case k1 => first | k_is | rfl)
    (case a2 => first | k_is | rfl)
    (case l2 => first | k_is | rfl)
    (case c2 => first | k_is | rfl)
    (case k2 => first | k_is | rfl)
    (case a3 => first | k_is | rfl)
    (case i3 => first | k_is | rfl)
    (case l3 => first | k_is | rfl)
    (case c3 => first | k_is | rfl)
    (case k3 => first | k_is | rfl)
    (case a4 => first | k_is | rfl)
    (case i4 => first | k_is | rfl)
    (case l4 => first | k_is | rfl)
    (case c4 => first | k_is | rfl)
    (case k4 => first | k_is | rfl)
    (case a5 => first | k_is | rfl)
    (case l5 => first | k_is | rfl)
    (case c5 => first | k_is | rfl)
    (case k5 => first | k_is | rfl)
    (case a6 => first | k_is | rfl)
    (case l6 => first | k_is | rfl)
    (case c6 => first | k_is | rfl)
    (case k6 => first | k_is | rfl)
    (case a7 => first | k_is | rfl)
    (case l7 => first | k_is | rfl)
    (case c7 => first | k_is | rfl)
    (case k7 => first | k_is | rfl)
    (case a8 => first | k_is | rfl)
    (case l8 => first | k_is | rfl)
    (case c8 => first | k_is | rfl)
    (case k8 => first | k_is | rfl)
    (case a9 => first | k_is | rfl)
    (case l9 => first | k_is | rfl)
    (case c9 => first | k_is | rfl)
    (case k9 => first | k_is | rfl)
    (case a10 => first | k_is | rfl)
    (case l10 => first | k_is | rfl)
    (case c10 => first | k_is | rfl)
    (case k10 => first | k_is | rfl)
    (case a11 => first | k_is | rfl)
    (case l11 => first | k_is | rfl)
    (case c11 => first | k_is | rfl)
    (case k11 => first | k_is | rfl)
    (case a12 => first | k_is | rfl)
    (case l12 => first | k_is | rfl)
    (case c12 => first | k_is | rfl)
    (case k12 => first | k_is | rfl)
    (case a13 => first | k_is | rfl)
    (case i13 => first | k_is | rfl)
    (case l13 => first | k_is | rfl)
    (case c13 => first | k_is | rfl)
    (case k13 => first | k_is | rfl)
    (case a14 => first | k_is | rfl)
    (case i14 => first | k_is | rfl)
    (case l14 => first | k_is | rfl)
    (case c14 => first | k_is | rfl)
    (case k14 => first | k_is | rfl)
    (case a15 => first | k_is | rfl)
    (case i15 => first | k_is | rfl)
    (case l15 => first | k_is | rfl)
    (case c15 => first | k_is | rfl)
    (case k15 => first | k_is | rfl)
    (case a16 => first | k_is | rfl)
    (case i16 => first | k_is | rfl)
    (case l16 => first | k_is | rfl)
    (case c16 => first | k_is | rfl)
    (case k16 => first | k_is | rfl)
    (case a17 => first | k_is | rfl)
    (case i17 => first | k_is | rfl)
    (case l17 => first | k_is | rfl)
    (case c17 => first | k_is | rfl)
    (case k17 => first | k_is | rfl)
    (case a18 => first | k_is | rfl)
    (case i18 => first | k_is | rfl)
    (case l18 => first | k_is | rfl)
    (case c18 => first | k_is | rfl)
    (case k18 => first | k_is | rfl)
    (case a19 => first | k_is | rfl)
    (case l19 => first | k_is | rfl)
    (case c19 => first | k_is | rfl)
    (case k19 => first | k_is | rfl)
    (case a20 => first | k_is | rfl)
    (case l20 => first | k_is | rfl)
    (case c20 => first | k_is | rfl)
    (case k20 => first | k_is | rfl)
    (case a21 => first | k_is | rfl)
    (case l21 => first | k_is | rfl)
    (case c21 => first | k_is | rfl)
    (case k21 => first | k_is | rfl)
    (case a22 => first | k_is | rfl)
    (case l22 => first | k_is | rfl)
    (case c22 => first | k_is | rfl)
    (case k22 => first | k_is | rfl)
    (case a23 => first | k_is | rfl)
    (case l23 => first | k_is | rfl)
    (case c23 => first | k_is | rfl)
    (case k23 => first | k_is | rfl)
    (case a24 => first | k_is | rfl)
    (case l24 => first | k_is | rfl)
    (case c24 => first | k_is | rfl)
    (case k24 => first | k_is | rfl)
    (case a25 => first | k_is | rfl)
    (case l25 => first | k_is | rfl)
    (case c25 => first | k_is | rfl)
    (case k25 => first | k_is | rfl)
    (case a26 => first | k_is | rfl)
    (case l26 => first | k_is | rfl)
    (case c26 => first | k_is | rfl)
    (case k26 => first | k_is | rfl)
    (case a27 => first | k_is | rfl)
    (case l27 => first | k_is | rfl)
    (case c27 => first | k_is | rfl)
    (case k27 => first | k_is | rfl)
    (case pg_Painting => first | k_is | rfl)
    (case hd_Painting => first | k_is | rfl)
    (case po_Painting => first | k_is | rfl)
    (case sa_Painting => first | k_is | rfl)
    (case mk_Painting => first | k_is | rfl)
    (case kc_Painting => first | k_is | rfl)
    (case PaintC_na0 => first | k_is | rfl)
    (case PaintC_na1 => first | k_is | rfl)
    (case PaintC_na2 => first | k_is | rfl)
    (case PaintC_na3 => first | k_is | rfl)
    (case z_abs => first | k_is | rfl)
    (case z_all => first | k_is | rfl)
    (case z_bool => first | k_is | rfl)
    (case z_enumerate => first | k_is | rfl)
    (case z_int => first | k_is | rfl)
    (case z_isinstance => first | k_is | rfl)
    (case z_len => first | k_is | rfl)
    (case z_list => first | k_is | rfl)
    (case z_max => first | k_is | rfl)
    (case z_min => first | k_is | rfl)
    (case z_range => first | k_is | rfl)
    (case z_str => first | k_is | rfl)
    (case z_sum => first | k_is | rfl)
    (case z_tuple => first | k_is | rfl)
    (case z_zip => first | k_is | rfl)
