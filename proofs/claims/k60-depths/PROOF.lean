import PyProof.Rows.All
import Wide.All
import OpenK.AllK
import Wide.FinOn
import PySem.Challenge.RW_clashsize_k60_depths_and_pairs_of_ranges
import HandS.Deep
import HandS.Defaults
import HandS.EndBits
import HandS.Evl
import HandS.ForMost
import HandS.IsInst
import HandS.RaiseMore
import HandS.Remove
import HandS.SortInts
import HandS.SortRule
import HandS.Style
import HandS.TupAny
import HandS.TupMul
import HandS.Walk
import HandS.Wide
import KE.IntBitsLaws
import PyProof.ReprLen
import PyProof.ReprRoads
import PyProof.Rows.ReprItems
set_option Elab.async false
set_option linter.all false
set_option maxRecDepth 100000
set_option maxHeartbeats 4000000
/-! CsA: data for values, shared heaps, owned lists, the meaning of readings by data. -/
namespace CS
open PySem PySem.Spec PyProof.Rows L2
open Evl (Ex ex_l ex_t)

abbrev D := PyData
abbrev SL := L2.St
abbrev En := List (Option D)

/-! ### a value stands for data -/
mutual
inductive Rp (K : PySem.W.Frag) (H : Hp) : V → D → Prop
  | non : Rp K H .non .none
  | bl (b : Bool) : Rp K H (.bl b) (.bool b)
  | int (i : Int) : Rp K H (.int i) (.int i)
  | str (x : Str) : Rp K H (.str x) (.str x)
  | lst {a : Addr} {xs : List V} {ds : List D} : H a = some (.lst xs) → RpAll K H xs ds → Rp K H (.ref a) (.list ds)
  | tup {a : Addr} {xs : List V} {ds : List D} : H a = some (.tup xs) → RpAll K H xs ds → Rp K H (.ref a) (.tuple ds)
  | scr {a : Addr} {ns : List Int} : SqL K H a (ns.map V.int) → Rp K H (.ref a) (.dict [(.none, .list (ns.map PyData.int))])
inductive RpAll (K : PySem.W.Frag) (H : Hp) : List V → List D → Prop
  | nil : RpAll K H [] []
  | cons {v : V} {vs : List V} {d : D} {ds : List D} : Rp K H v d → RpAll K H vs ds → RpAll K H (v :: vs) (d :: ds)
end
section
variable {K : PySem.W.Frag} {H H' : Hp}
mutual
theorem Rp.mono' (e : Ex H H') : ∀ (d : D) (v : V), Rp K H v d → Rp K H' v d
  | .none, _, h => by cases h; exact .non
  | .bool b, _, h => by cases h; exact .bl b
  | .int i, _, h => by cases h; exact .int i
  | .str x, _, h => by cases h; exact .str x
  | .list ds, _, h => by
    cases h with
    | lst hs ha => exact .lst (e _ _ hs) (RpAll.mono' e ds _ ha)
  | .tuple ds, _, h => by
    cases h with
    | tup hs ha => exact .tup (e _ _ hs) (RpAll.mono' e ds _ ha)
  | .dict _, _, h => by
    cases h with
    | scr hs => exact .scr (ex_l e hs)
theorem RpAll.mono' (e : Ex H H') : ∀ (ds : List D) (vs : List V), RpAll K H vs ds → RpAll K H' vs ds
  | [], _, h => by cases h; exact .nil
  | d :: ds, _, h => by
    cases h with
    | cons h1 h2 => exact .cons (Rp.mono' e d _ h1) (RpAll.mono' e ds _ h2)
end
theorem Rp.mono {v : V} {d : D} (h : Rp K H v d) (e : Ex H H') : Rp K H' v d := Rp.mono' e d v h
theorem RpAll.mono {vs : List V} {ds : List D} (h : RpAll K H vs ds) (e : Ex H H') : RpAll K H' vs ds := RpAll.mono' e ds vs h
mutual
theorem Rp.dp' : ∀ (d : D) (v : V), d.canLay0 = true → Rp K H v d → Dp K H v d
  | .none, _, _, h => by cases h; exact .non
  | .bool b, _, _, h => by cases h; exact .bl b
  | .int i, _, _, h => by cases h; exact .int i
  | .str x, _, _, h => by cases h; exact .str x
  | .list ds, _, l, h => by
    cases h with
    | lst hs ha => exact .lst (SqL.of hs) (RpAll.dp' ds _ (by simpa [PyData.canLay0] using l) ha)
  | .tuple ds, _, l, h => by
    cases h with
    | tup hs ha => exact .tup (SqT.of hs) (RpAll.dp' ds _ (by simpa [PyData.canLay0] using l) ha)
  | .dict _, _, l, h => by simp [PyData.canLay0] at l
theorem RpAll.dp' : ∀ (ds : List D) (vs : List V), PyData.canLayAll0 ds = true → RpAll K H vs ds → DpAll K H vs ds
  | [], _, _, h => by cases h; exact .nil
  | d :: ds, _, l, h => by
    cases h with
    | cons h1 h2 =>
      simp only [PyData.canLayAll0, Bool.and_eq_true] at l
      exact .cons (Rp.dp' d _ l.1 h1) (RpAll.dp' ds _ l.2 h2)
end
theorem Rp.dp {v : V} {d : D} (l : d.canLay0 = true) (h : Rp K H v d) : Dp K H v d := Rp.dp' d v l h
theorem RpAll.length : ∀ {vs : List V} {ds : List D}, RpAll K H vs ds → vs.length = ds.length
  | _, _, .nil => rfl
  | _, _, .cons _ t => congrArg (· + 1) (RpAll.length t)
theorem RpAll.append : ∀ {vs ws : List V} {ds es : List D}, RpAll K H vs ds → RpAll K H ws es → RpAll K H (vs ++ ws) (ds ++ es)
  | _, _, _, _, .nil, h => h
  | _, _, _, _, .cons a t, h => .cons a (RpAll.append t h)
theorem RpAll.get : ∀ {vs : List V} {ds : List D} {i : Nat} {v : V}, RpAll K H vs ds → vs[i]? = some v → ∃ d, ds[i]? = some d ∧ Rp K H v d
  | _, _, _, _, .nil, e => by simp at e
  | _, _, 0, _, .cons a _, e => by simp at e; subst e; exact ⟨_, rfl, a⟩
  | _, _, i + 1, v, .cons _ t, e => by
    obtain ⟨d, h1, h2⟩ := RpAll.get (i := i) (v := v) t (by simpa using e)
    exact ⟨d, by simpa using h1, h2⟩
theorem RpAll.get' : ∀ {vs : List V} {ds : List D} {i : Nat} {d : D}, RpAll K H vs ds → ds[i]? = some d → ∃ v, vs[i]? = some v ∧ Rp K H v d
  | _, _, _, _, .nil, e => by simp at e
  | _, _, 0, _, .cons a _, e => by simp at e; subst e; exact ⟨_, rfl, a⟩
  | _, _, i + 1, d, .cons _ t, e => by
    obtain ⟨v, h1, h2⟩ := RpAll.get' (i := i) (d := d) t (by simpa using e)
    exact ⟨v, by simpa using h1, h2⟩
theorem RpAll.take : ∀ {vs : List V} {ds : List D} (n : Nat), RpAll K H vs ds → RpAll K H (vs.take n) (ds.take n)
  | _, _, 0, _ => .nil
  | _, _, _ + 1, .nil => .nil
  | _, _, n + 1, .cons a t => .cons a (RpAll.take n t)
theorem RpAll.drop : ∀ {vs : List V} {ds : List D} (n : Nat), RpAll K H vs ds → RpAll K H (vs.drop n) (ds.drop n)
  | _, _, 0, h => h
  | _, _, _ + 1, .nil => .nil
  | _, _, n + 1, .cons _ t => RpAll.drop n t
theorem RpAll.set {v : V} {d : D} (r : Rp K H v d) : ∀ {vs : List V} {ds : List D} (i : Nat), RpAll K H vs ds → RpAll K H (vs.set i v) (ds.set i d)
  | _, _, _, .nil => .nil
  | _, _, 0, .cons _ t => .cons r t
  | _, _, i + 1, .cons a t => .cons a (RpAll.set r i t)
theorem RpAll.reverse : ∀ {vs : List V} {ds : List D}, RpAll K H vs ds → RpAll K H vs.reverse ds.reverse
  | _, _, .nil => .nil
  | _, _, .cons a t => by
    rw [List.reverse_cons, List.reverse_cons]
    exact (RpAll.reverse t).append (.cons a .nil)
theorem RpAll.of_get : ∀ {vs : List V} {ds : List D}, vs.length = ds.length → (∀ (i : Nat) (v : V) (d : D), vs[i]? = some v → ds[i]? = some d → Rp K H v d) → RpAll K H vs ds
  | [], [], _, _ => .nil
  | v :: vs, d :: ds, hl, h => .cons (h 0 v d rfl rfl) (RpAll.of_get (by simpa using hl) fun i w e h1 h2 => h (i + 1) w e h1 h2)
  | [], _ :: _, hl, _ => by simp at hl
  | _ :: _, [], hl, _ => by simp at hl
theorem RpAll.ints : ∀ (ns : List Int), RpAll K H (ns.map V.int) (ns.map PyData.int)
  | [] => .nil
  | n :: ns => .cons (.int n) (RpAll.ints ns)
theorem Rp.int_inv {v : V} {i : Int} (h : Rp K H v (.int i)) : v = .int i := by cases h; rfl
theorem Rp.bool_inv {v : V} {b : Bool} (h : Rp K H v (.bool b)) : v = .bl b := by cases h; rfl
theorem Rp.none_inv {v : V} (h : Rp K H v .none) : v = .non := by cases h; rfl
theorem Rp.str_inv {v : V} {x : Str} (h : Rp K H v (.str x)) : v = .str x := by cases h; rfl
theorem Rp.list_inv {v : V} {ds : List D} (h : Rp K H v (.list ds)) : ∃ a xs, v = .ref a ∧ H a = some (.lst xs) ∧ RpAll K H xs ds := by
  cases h with
  | lst hs ha => exact ⟨_, _, rfl, hs, ha⟩
theorem Rp.tuple_inv {v : V} {ds : List D} (h : Rp K H v (.tuple ds)) : ∃ a xs, v = .ref a ∧ H a = some (.tup xs) ∧ RpAll K H xs ds := by
  cases h with
  | tup hs ha => exact ⟨_, _, rfl, hs, ha⟩
theorem RpAll.ints_inv : ∀ {vs : List V} {ns : List Int}, RpAll K H vs (ns.map PyData.int) → vs = ns.map V.int
  | _, [], h => by cases h; rfl
  | _, n :: ns, h => by
    cases h with
    | cons h1 h2 => rw [h1.int_inv, RpAll.ints_inv h2]; rfl
theorem RpAll.bools_inv : ∀ {vs : List V} {bs : List Bool}, RpAll K H vs (bs.map PyData.bool) → vs = bs.map V.bl
  | _, [], h => by cases h; rfl
  | _, n :: ns, h => by
    cases h with
    | cons h1 h2 => rw [h1.bool_inv, RpAll.bools_inv h2]; rfl
end

/-- data without a heap -/
def flat : D → Bool
  | .none => true
  | .bool _ => true
  | .int _ => true
  | .str _ => true
  | _ => false
theorem Rp.flat {K : PySem.W.Frag} {H H' : Hp} {v : V} {d : D} (h : Rp K H v d) (f : flat d = true) : Rp K H' v d := by
  cases h with
  | non => exact .non
  | bl b => exact .bl b
  | int i => exact .int i
  | str x => exact .str x
  | lst _ _ => cases f
  | tup _ _ => cases f
  | scr _ => cases f

/-! ### sizes -/
def szO : HO → Prop
  | .lst xs => xs.length ≤ sizeLine
  | .tup xs => xs.length ≤ sizeLine
  | .frz _ u => szO u
  | _ => True
def SzH (H : Hp) : Prop := ∀ a o, H a = some o → szO o
theorem SzH.upd {H : Hp} {p : Addr} {o : HO} (z : SzH H) (h : szO o) : SzH (upd H p o) := fun a u e => by
  by_cases c : a = p
  · subst c; rw [upd_same] at e; cases e; exact h
  · rw [upd_ne c] at e; exact z a u e
theorem SzH.list {K : PySem.W.Frag} {H : Hp} {a : Addr} {xs : List V} (z : SzH H) (h : SqL K H a xs) : xs.length ≤ sizeLine := by
  rcases h with (h | ⟨o, h⟩) | ⟨o, its, n, _, _, _, _, hz, r⟩
  · exact z a _ h
  · exact z a _ h
  · have := r.length; simp only [Array.length_toList] at this; omega
theorem SzH.tup {K : PySem.W.Frag} {H : Hp} {a : Addr} {xs : List V} (z : SzH H) (h : SqT K H a xs) : xs.length ≤ sizeLine := by
  rcases h with (h | ⟨o, h⟩) | ⟨o, its, n, _, _, _, hz, r⟩
  · exact z a _ h
  · exact z a _ h
  · have := r.length; simp only [Array.length_toList] at this; omega

/-! ### growing heaps: S what is shared, H all that is tracked -/
structure Gz (S H S' H' : Hp) : Prop where
  s : Ex S S'
  h : Ex H H'
  n : ∀ a, H a ≠ none → S' a = S a
  x : Ex S' H'
  z : SzH H'
theorem Gz.refl {S H : Hp} (x : Ex S H) (z : SzH H) : Gz S H S H := ⟨Ex.refl S, Ex.refl H, fun _ _ => rfl, x, z⟩
theorem ex_some {H H' : Hp} (e : Ex H H') {a : Addr} (h : H a ≠ none) : H' a ≠ none := by
  cases q : H a with
  | none => exact absurd q h
  | some o => rw [e a o q]; simp
theorem Gz.trans {S H S1 H1 S2 H2 : Hp} (a : Gz S H S1 H1) (b : Gz S1 H1 S2 H2) : Gz S H S2 H2 :=
  ⟨a.s.trans b.s, a.h.trans b.h, fun c hc => (b.n c (ex_some a.h hc)).trans (a.n c hc), b.x, b.z⟩
theorem ex_free {S H : Hp} (x : Ex S H) {p : Addr} (h : H p = none) : S p = none := Evl.fresh_back x h
theorem Gz.new {S H : Hp} {p : Addr} {o : HO} (x : Ex S H) (z : SzH H) (h : H p = none) (ho : szO o) : Gz S H (upd S p o) (upd H p o) :=
  ⟨Ex.new (ex_free x h), Ex.new h, fun a ha => by
    have : a ≠ p := fun e => ha (e ▸ h)
    rw [upd_ne this], fun a u e => by
    by_cases c : a = p
    · subst c; rw [upd_same] at e ⊢; exact e
    · rw [upd_ne c] at e ⊢; exact x a u e, z.upd ho⟩

/-! ### environments -/
def Own (m : List Nat) (σ : SL) (a : Addr) : Prop := ∃ i, i ∈ m ∧ σ[i]? = some (some (.ref a))
structure Rel (K : PySem.W.Frag) (m : List Nat) (env : En) (σ : SL) (S H : Hp) : Prop where
  ex : Ex S H
  sz : SzH H
  len : env.length = σ.length
  sh : ∀ i d, i ∉ m → env[i]? = some (some d) → ∃ v, σ[i]? = some (some v) ∧ Rp K S v d
  ow : ∀ i, i ∈ m → ∃ p vs ds, env[i]? = some (some (.list ds)) ∧ σ[i]? = some (some (.ref p)) ∧ S p = none ∧ H p = some (.lst vs) ∧ RpAll K S vs ds
  inj : ∀ i j p, i ∈ m → j ∈ m → σ[i]? = some (some (.ref p)) → σ[j]? = some (some (.ref p)) → i = j
section
variable {K : PySem.W.Frag} {m : List Nat} {env : En} {σ : SL} {S H S' H' : Hp}
theorem Rel.gz (R : Rel K m env σ S H) (g : Gz S H S' H') : Rel K m env σ S' H' :=
  ⟨g.x, g.z, R.len, fun i d hi e => let ⟨v, h1, h2⟩ := R.sh i d hi e; ⟨v, h1, h2.mono g.s⟩, fun i hi =>
    let ⟨p, vs, ds, h1, h2, h3, h4, h5⟩ := R.ow i hi
    ⟨p, vs, ds, h1, h2, (g.n p (by rw [h4]; simp)).trans h3, g.h p _ h4, h5.mono g.s⟩, R.inj⟩
end
/-- what a mutating step may do -/
structure Gm (O : Addr → Prop) (S H S' H' : Hp) : Prop where
  s : Ex S S'
  h : ∀ a o, H a = some o → ¬ O a → H' a = some o
  n : ∀ a, ¬ O a → H a ≠ none → S' a = S a
  d : ∀ a, H a ≠ none → H' a ≠ none
theorem Gz.gm {O : Addr → Prop} {S H S' H' : Hp} (g : Gz S H S' H') : Gm O S H S' H' := ⟨g.s, fun a o e _ => g.h a o e, fun a _ ha => g.n a ha, fun _ ha => ex_some g.h ha⟩
theorem Gm.refl {O : Addr → Prop} {S H : Hp} : Gm O S H S H := ⟨Ex.refl S, fun _ _ e _ => e, fun _ _ _ => rfl, fun _ h => h⟩
theorem Gm.trans {O : Addr → Prop} {S H S1 H1 S2 H2 : Hp} (a : Gm O S H S1 H1) (b : Gm O S1 H1 S2 H2) : Gm O S H S2 H2 :=
  ⟨a.s.trans b.s, fun c o e n => b.h c o (a.h c o e n) n, fun c n hc => (b.n c n (a.d c hc)).trans (a.n c n hc), fun c hc => b.d c (a.d c hc)⟩
theorem Gm.mono {O O' : Addr → Prop} {S H S' H' : Hp} (g : Gm O S H S' H') (h : ∀ a, O a → O' a) : Gm O' S H S' H' :=
  ⟨g.s, fun a o e n => g.h a o e fun z => n (h a z), fun a n => g.n a fun z => n (h a z), g.d⟩
/-- .. where the owned ones may be others behind: old ones or new -/
theorem Gm.then {O O1 : Addr → Prop} {S H S1 H1 S2 H2 : Hp} (a : Gm O S H S1 H1) (o : ∀ c, O1 c → O c ∨ H c = none) (b : Gm O1 S1 H1 S2 H2) : Gm O S H S2 H2 :=
  ⟨a.s.trans b.s, fun c u e n => b.h c u (a.h c u e n) (fun z => Or.elim (o c z) n (fun q => by rw [q] at e; cases e)),
    fun c n hc => (b.n c (fun z => Or.elim (o c z) n hc) (a.d c hc)).trans (a.n c n hc), fun c hc => b.d c (a.d c hc)⟩

/-! ### the meaning of readings -/
def SemP (K : PySem.W.Frag) (m : List Nat) (t : TE) (F : En → Option D) : Prop := ∀ env σ S H, Rel K m env σ S H → ∀ d, F env = some d →
  ∀ Q : VK, (∀ v S' H', Gz S H S' H' → Rp K S' v d → Q v H') → t σ H Q
def SemPT (K : PySem.W.Frag) (m : List Nat) (t : TT) (F : En → Option Bool) : Prop := ∀ env σ S H, Rel K m env σ S H → ∀ d, F env = some d →
  ∀ Q : Bool → Hp → Prop, (∀ S' H', Gz S H S' H' → Q d H') → t σ H Q
def SemPA (K : PySem.W.Frag) (m : List Nat) (t : TA) (F : En → Option (List D)) : Prop := ∀ env σ S H, Rel K m env σ S H → ∀ d, F env = some d →
  ∀ Q : List V → Hp → Prop, (∀ v S' H', Gz S H S' H' → RpAll K S' v d → Q v H') → t σ H Q
def Sem (K : PySem.W.Frag) (m : List Nat) (t : TE) (G : En → Option (D × En)) : Prop := ∀ env σ S H, Rel K m env σ S H → ∀ d env', G env = some (d, env') →
  ∀ Q : VK, (∀ v S' H', Gm (Own m σ) S H S' H' → Rel K m env' σ S' H' → Rp K S' v d → Q v H') → t σ H Q
def SemT (K : PySem.W.Frag) (m : List Nat) (t : TT) (G : En → Option (Bool × En)) : Prop := ∀ env σ S H, Rel K m env σ S H → ∀ d env', G env = some (d, env') →
  ∀ Q : Bool → Hp → Prop, (∀ S' H', Gm (Own m σ) S H S' H' → Rel K m env' σ S' H' → Q d H') → t σ H Q
def SemA (K : PySem.W.Frag) (m : List Nat) (t : TA) (G : En → Option (List D × En)) : Prop := ∀ env σ S H, Rel K m env σ S H → ∀ d env', G env = some (d, env') →
  ∀ Q : List V → Hp → Prop, (∀ v S' H', Gm (Own m σ) S H S' H' → Rel K m env' σ S' H' → RpAll K S' v d → Q v H') → t σ H Q
/-- a pure function among the mutating ones -/
def up {α : Type} (F : En → Option α) : En → Option (α × En) := fun env => (F env).map fun d => (d, env)
theorem up_some {α : Type} {F : En → Option α} {env env' : En} {d : α} (h : up F env = some (d, env')) : F env = some d ∧ env' = env := by
  unfold up at h
  cases q : F env with
  | none => rw [q] at h; cases h
  | some x => rw [q] at h; cases h; exact ⟨rfl, rfl⟩
section
variable {K : PySem.W.Frag} {m : List Nat}
theorem SemP.up {t : TE} {F : En → Option D} (h : SemP K m t F) : Sem K m t (up F) := fun env σ S H R d env' e Q q => by
  obtain ⟨e1, rfl⟩ := up_some e
  exact h env' σ S H R d e1 Q fun v S' H' g r => q v S' H' g.gm (R.gz g) r
theorem SemPT.up {t : TT} {F : En → Option Bool} (h : SemPT K m t F) : SemT K m t (up F) := fun env σ S H R d env' e Q q => by
  obtain ⟨e1, rfl⟩ := up_some e
  exact h env' σ S H R d e1 Q fun S' H' g => q S' H' g.gm (R.gz g)
theorem SemPA.up {t : TA} {F : En → Option (List D)} (h : SemPA K m t F) : SemA K m t (up F) := fun env σ S H R d env' e Q q => by
  obtain ⟨e1, rfl⟩ := up_some e
  exact h env' σ S H R d e1 Q fun v S' H' g r => q v S' H' g.gm (R.gz g) r
end
/-- what an operation on values is worth, by data -/
def OpD (K : PySem.W.Frag) (r : R2) (g : D → D → Option D) : Prop := ∀ S H x y a b d, Ex S H → SzH H → Rp K S x a → Rp K S y b → g a b = some d →
  ∀ Q : VK, (∀ v S' H', Gz S H S' H' → Rp K S' v d → Q v H') → r x y H Q
def UnD (K : PySem.W.Frag) (r : V → Hp → VK → Prop) (g : D → Option D) : Prop := ∀ S H x a d, Ex S H → SzH H → Rp K S x a → g a = some d →
  ∀ Q : VK, (∀ v S' H', Gz S H S' H' → Rp K S' v d → Q v H') → r x H Q
def CallD (K : PySem.W.Frag) (r : List V → Hp → VK → Prop) (g : List D → Option D) : Prop := ∀ S H xs as d, Ex S H → SzH H → RpAll K S xs as → g as = some d →
  ∀ Q : VK, (∀ v S' H', Gz S H S' H' → Rp K S' v d → Q v H') → r xs H Q
theorem bind_some {α β : Type} {x : Option α} {f : α → Option β} {b : β} (h : x.bind f = some b) : ∃ a, x = some a ∧ f a = some b := by
  cases x with
  | none => cases h
  | some a => exact ⟨a, rfl, h⟩
/-! the data functions of composite expressions -/
def f2 (g : D → D → Option D) (Fa Fb : En → Option D) : En → Option D := fun env => (Fa env).bind fun a => (Fb env).bind fun b => g a b
def g2 (g : D → D → Option D) (Ga Gb : En → Option (D × En)) : En → Option (D × En) := fun env => (Ga env).bind fun a => (Gb a.2).bind fun b => (g a.1 b.1).map fun d => (d, b.2)
def f1 (g : D → Option D) (Fa : En → Option D) : En → Option D := fun env => (Fa env).bind g
def g1 (g : D → Option D) (Ga : En → Option (D × En)) : En → Option (D × En) := fun env => (Ga env).bind fun a => (g a.1).map fun d => (d, a.2)
def fNil : En → Option (List D) := fun _ => some []
def fCons (Fa : En → Option D) (Fr : En → Option (List D)) : En → Option (List D) := fun env => (Fa env).bind fun a => (Fr env).bind fun r => some (a :: r)
def gNilE : En → Option (List D × En) := fun env => some ([], env)
def gConsE (Ga : En → Option (D × En)) (Gr : En → Option (List D × En)) : En → Option (List D × En) := fun env => (Ga env).bind fun a => (Gr a.2).bind fun r => some (a.1 :: r.1, r.2)
def fCall (g : List D → Option D) (Fa : En → Option (List D)) : En → Option D := fun env => (Fa env).bind g
def gCall (g : List D → Option D) (Ga : En → Option (List D × En)) : En → Option (D × En) := fun env => (Ga env).bind fun a => (g a.1).map fun d => (d, a.2)
def gv (j : Nat) : En → Option D := fun env => match env[j]? with
  | some (some d) => some d
  | _ => none
section
variable {K : PySem.W.Frag} {m : List Nat} {ta tb : TE} {Fa Fb : En → Option D} {Ga Gb : En → Option (D × En)} {r : R2} {g : D → D → Option D}
theorem semP_op (ho : OpD K r g) (ha : SemP K m ta Fa) (hb : SemP K m tb Fb) : SemP K m (tOp r ta tb) (f2 g Fa Fb) := fun env σ S H R d e Q q => by
  obtain ⟨a, ea, e⟩ := bind_some e
  obtain ⟨b, eb, e⟩ := bind_some e
  exact ha env σ S H R a ea _ fun x S1 H1 k1 rx => hb env σ S1 H1 (R.gz k1) b eb _ fun y S2 H2 k2 ry =>
    ho S2 H2 x y a b d k2.x k2.z (rx.mono k2.s) ry e Q fun v S3 H3 k3 rv => q v S3 H3 ((k1.trans k2).trans k3) rv
theorem sem_op (ho : OpD K r g) (ha : Sem K m ta Ga) (hb : Sem K m tb Gb) : Sem K m (tOp r ta tb) (g2 g Ga Gb) := fun env σ S H R d env' e Q q => by
  obtain ⟨⟨a, e1⟩, ea, e⟩ := bind_some e
  obtain ⟨⟨b, e2⟩, eb, e⟩ := bind_some e
  cases ez : g a b with
  | none => simp [ez] at e
  | some z =>
    simp [ez] at e
    obtain ⟨rfl, rfl⟩ := e
    exact ha env σ S H R a e1 ea _ fun x S1 H1 k1 R1 rx => hb e1 σ S1 H1 R1 b e2 eb _ fun y S2 H2 k2 R2 ry =>
      ho S2 H2 x y a b z R2.ex R2.sz (rx.mono k2.s) ry ez Q fun v S3 H3 k3 rv => q v S3 H3 ((k1.trans k2).trans k3.gm) (R2.gz k3) rv
theorem semP_un {r : V → Hp → VK → Prop} {g : D → Option D} (ho : UnD K r g) (ha : SemP K m ta Fa) : SemP K m (tUn r ta) (f1 g Fa) := fun env σ S H R d e Q q => by
  obtain ⟨a, ea, e⟩ := bind_some e
  exact ha env σ S H R a ea _ fun x S1 H1 k1 rx => ho S1 H1 x a d k1.x k1.z rx e Q fun v S3 H3 k3 rv => q v S3 H3 (k1.trans k3) rv
theorem semPA_nil : SemPA K m tNil fNil := fun env σ S H R d e Q q => by
  cases e
  exact q [] S H (Gz.refl R.ex R.sz) .nil
theorem semPA_cons {tr : TA} {Fr : En → Option (List D)} (ha : SemP K m ta Fa) (hr : SemPA K m tr Fr) : SemPA K m (tCons ta tr) (fCons Fa Fr) := fun env σ S H R d e Q q => by
  obtain ⟨a, ea, e⟩ := bind_some e
  obtain ⟨b, eb, e⟩ := bind_some e
  cases e
  exact ha env σ S H R a ea _ fun x S1 H1 k1 rx => hr env σ S1 H1 (R.gz k1) b eb _ fun y S2 H2 k2 ry => q _ S2 H2 (k1.trans k2) (.cons (rx.mono k2.s) ry)
theorem semA_nil : SemA K m tNil gNilE := fun env σ S H R d env' e Q q => by
  cases e
  exact q [] S H Gm.refl R .nil
theorem semA_cons {tr : TA} {Gr : En → Option (List D × En)} (ha : Sem K m ta Ga) (hr : SemA K m tr Gr) : SemA K m (tCons ta tr) (gConsE Ga Gr) := fun env σ S H R d env' e Q q => by
  obtain ⟨⟨a, e1⟩, ea, e⟩ := bind_some e
  obtain ⟨⟨b, e2⟩, eb, e⟩ := bind_some e
  cases e
  exact ha env σ S H R a e1 ea _ fun x S1 H1 k1 R1 rx => hr e1 σ S1 H1 R1 b e2 eb _ fun y S2 H2 k2 R2 ry => q _ S2 H2 (k1.trans k2) R2 (.cons (rx.mono k2.s) ry)
theorem semP_call {r : List V → Hp → VK → Prop} {g : List D → Option D} {t : TA} {Fa : En → Option (List D)} (ho : CallD K r g) (ha : SemPA K m t Fa) : SemP K m (tCB r t) (fCall g Fa) := fun env σ S H R d e Q q => by
  obtain ⟨a, ea, e⟩ := bind_some e
  exact ha env σ S H R a ea _ fun x S1 H1 k1 rx => ho S1 H1 x a d k1.x k1.z rx e Q fun v S3 H3 k3 rv => q v S3 H3 (k1.trans k3) rv
theorem sem_call {r : List V → Hp → VK → Prop} {g : List D → Option D} {t : TA} {Ga : En → Option (List D × En)} (ho : CallD K r g) (ha : SemA K m t Ga) : Sem K m (tCB r t) (gCall g Ga) := fun env σ S H R d env' e Q q => by
  obtain ⟨⟨a, e1⟩, ea, e⟩ := bind_some e
  cases ez : g a with
  | none => simp [ez] at e
  | some z =>
    simp [ez] at e
    obtain ⟨rfl, rfl⟩ := e
    exact ha env σ S H R a e1 ea _ fun x S1 H1 k1 R1 rx => ho S1 H1 x a z R1.ex R1.sz rx ez Q fun v S3 H3 k3 rv => q v S3 H3 (k1.trans k3.gm) (R1.gz k3) rv
theorem semP_var {j : Nat} (hj : j ∉ m) : SemP K m (tVar j) (gv j) := fun env σ S H R d e Q q => by
  unfold gv at e
  split at e
  · rename_i x hx
    cases e
    obtain ⟨v, h1, h2⟩ := R.sh j d hj hx
    exact ⟨v, h1, q v S H (Gz.refl R.ex R.sz) h2⟩
  · cases e
theorem semP_c {v : V} {d : D} (h : ∀ S, Rp K S v d) : SemP K m (tC v) (fun _ => some d) := fun env σ S H R d' e Q q => by
  cases e
  exact q v S H (Gz.refl R.ex R.sz) (h S)
end
/-! displays -/
def sized (ds : List D) : Option (List D) := if ds.length ≤ sizeLine then some ds else none
theorem sized_some {ds es : List D} (h : sized ds = some es) : es = ds ∧ ds.length ≤ sizeLine := by
  unfold sized at h
  split at h
  · cases h; exact ⟨rfl, by assumption⟩
  · cases h
section
variable {K : PySem.W.Frag} {m : List Nat} {t : TA} {Fa : En → Option (List D)} {Ga : En → Option (List D × En)}
theorem rp_newL {S H : Hp} {p : Addr} {xs : List V} {ds : List D} (x : Ex S H) (h : H p = none) (r : RpAll K S xs ds) : Rp K (upd S p (.lst xs)) (.ref p) (.list ds) :=
  .lst upd_same (r.mono (Ex.new (ex_free x h)))
theorem rp_newT {S H : Hp} {p : Addr} {xs : List V} {ds : List D} (x : Ex S H) (h : H p = none) (r : RpAll K S xs ds) : Rp K (upd S p (.tup xs)) (.ref p) (.tuple ds) :=
  .tup upd_same (r.mono (Ex.new (ex_free x h)))
def fLst (Fa : En → Option (List D)) : En → Option D := fun env => ((Fa env).bind sized).map .list
def fTup (Fa : En → Option (List D)) : En → Option D := fun env => ((Fa env).bind sized).map .tuple
def gLstE (Ga : En → Option (List D × En)) : En → Option (D × En) := fun env => (Ga env).bind fun a => (sized a.1).map fun ds => (.list ds, a.2)
def gTupE (Ga : En → Option (List D × En)) : En → Option (D × En) := fun env => (Ga env).bind fun a => (sized a.1).map fun ds => (.tuple ds, a.2)
theorem map_some {α β : Type} {x : Option α} {f : α → β} {b : β} (h : x.map f = some b) : ∃ a, x = some a ∧ f a = b := by
  cases x with
  | none => cases h
  | some a => exact ⟨a, rfl, by simpa using h⟩
theorem semP_lst (ha : SemPA K m t Fa) : SemP K m (tLst t) (fLst Fa) := fun env σ S H R d e Q q => by
  obtain ⟨a, ea, rfl⟩ := map_some e
  obtain ⟨b, eb, e⟩ := bind_some ea
  obtain ⟨rfl, hz⟩ := sized_some e
  exact ha env σ S H R a eb _ fun xs S1 H1 k1 rx => ⟨by rw [rx.length]; exact hz, fun p hp => q _ _ _ (k1.trans (Gz.new k1.x k1.z hp (by show xs.length ≤ sizeLine; rw [rx.length]; exact hz))) (rp_newL k1.x hp rx)⟩
theorem semP_tup (ha : SemPA K m t Fa) : SemP K m (tTup t) (fTup Fa) := fun env σ S H R d e Q q => by
  obtain ⟨a, ea, rfl⟩ := map_some e
  obtain ⟨b, eb, e⟩ := bind_some ea
  obtain ⟨rfl, hz⟩ := sized_some e
  exact ha env σ S H R a eb _ fun xs S1 H1 k1 rx => ⟨by rw [rx.length]; exact hz, fun p hp => q _ _ _ (k1.trans (Gz.new k1.x k1.z hp (by show xs.length ≤ sizeLine; rw [rx.length]; exact hz))) (rp_newT k1.x hp rx)⟩
theorem sem_lst (ha : SemA K m t Ga) : Sem K m (tLst t) (gLstE Ga) := fun env σ S H R d env' e Q q => by
  obtain ⟨⟨a, e1⟩, ea, e⟩ := bind_some e
  obtain ⟨b, eb, e⟩ := map_some e
  obtain ⟨rfl, hz⟩ := sized_some eb
  cases e
  exact ha env σ S H R _ _ ea _ fun xs S1 H1 k1 R1 rx => ⟨by rw [rx.length]; exact hz, fun p hp => by
    have k2 := Gz.new (p := p) (o := .lst xs) R1.ex R1.sz hp (by show xs.length ≤ sizeLine; rw [rx.length]; exact hz)
    exact q _ _ _ (k1.trans k2.gm) (R1.gz k2) (rp_newL R1.ex hp rx)⟩
theorem sem_tup (ha : SemA K m t Ga) : Sem K m (tTup t) (gTupE Ga) := fun env σ S H R d env' e Q q => by
  obtain ⟨⟨a, e1⟩, ea, e⟩ := bind_some e
  obtain ⟨b, eb, e⟩ := map_some e
  obtain ⟨rfl, hz⟩ := sized_some eb
  cases e
  exact ha env σ S H R _ _ ea _ fun xs S1 H1 k1 R1 rx => ⟨by rw [rx.length]; exact hz, fun p hp => by
    have k2 := Gz.new (p := p) (o := .tup xs) R1.ex R1.sz hp (by show xs.length ≤ sizeLine; rw [rx.length]; exact hz)
    exact q _ _ _ (k1.trans k2.gm) (R1.gz k2) (rp_newT R1.ex hp rx)⟩
end
/-! tests -/
def asB : D → Option Bool
  | .bool b => some b
  | _ => none
def fTest (F : En → Option D) : En → Option Bool := fun env => (F env).bind asB
def gTest (G : En → Option (D × En)) : En → Option (Bool × En) := fun env => (G env).bind fun a => (asB a.1).map fun b => (b, a.2)
def fAnd (Fa Fb : En → Option Bool) : En → Option Bool := fun env => (Fa env).bind fun a => if a = true then Fb env else some false
def fOr (Fa Fb : En → Option Bool) : En → Option Bool := fun env => (Fa env).bind fun a => if a = true then some true else Fb env
def fNot (Fa : En → Option Bool) : En → Option Bool := fun env => (Fa env).map fun a => !a
def gAnd (Fa Fb : En → Option (Bool × En)) : En → Option (Bool × En) := fun env => (Fa env).bind fun a => if a.1 = true then Fb a.2 else some (false, a.2)
def gOr (Fa Fb : En → Option (Bool × En)) : En → Option (Bool × En) := fun env => (Fa env).bind fun a => if a.1 = true then some (true, a.2) else Fb a.2
def gNot (Fa : En → Option (Bool × En)) : En → Option (Bool × En) := fun env => (Fa env).map fun a => (!a.1, a.2)
def fIf (Ft : En → Option Bool) (Fa Fb : En → Option D) : En → Option D := fun env => (Ft env).bind fun a => if a = true then Fa env else Fb env
def gIf (Ft : En → Option (Bool × En)) (Fa Fb : En → Option (D × En)) : En → Option (D × En) := fun env => (Ft env).bind fun a => if a.1 = true then Fa a.2 else Fb a.2
theorem asB_some {d : D} {b : Bool} (h : asB d = some b) : d = .bool b := by
  unfold asB at h
  split at h
  · cases h; rfl
  · cases h
section
variable {K : PySem.W.Frag} {m : List Nat} {te ta tb : TE} {t u : TT} {F : En → Option D} {Ft Fu : En → Option Bool} {G : En → Option (D × En)} {Gt Gu : En → Option (Bool × En)}
theorem semPT_test (h : SemP K m te F) : SemPT K m (tTest te) (fTest F) := fun env σ S H R d e Q q => by
  obtain ⟨a, ea, e⟩ := bind_some e
  cases asB_some e
  exact h env σ S H R _ ea _ fun v S1 H1 k r => ⟨d, r.bool_inv, q S1 H1 k⟩
theorem semPT_B (h : SemP K m te F) : SemPT K m (tB te) (fTest F) := fun env σ S H R d e Q q => by
  obtain ⟨a, ea, e⟩ := bind_some e
  cases asB_some e
  exact h env σ S H R _ ea _ fun v S1 H1 k r => ⟨d, r.bool_inv, q S1 H1 k⟩
theorem semT_test (h : Sem K m te G) : SemT K m (tTest te) (gTest G) := fun env σ S H R d env' e Q q => by
  obtain ⟨⟨a, e1⟩, ea, e⟩ := bind_some e
  obtain ⟨b, eb, e⟩ := map_some e
  cases e
  have := asB_some eb
  subst this
  exact h env σ S H R _ _ ea _ fun v S1 H1 k R1 r => ⟨d, r.bool_inv, q S1 H1 k R1⟩
theorem semT_B (h : Sem K m te G) : SemT K m (tB te) (gTest G) := fun env σ S H R d env' e Q q => by
  obtain ⟨⟨a, e1⟩, ea, e⟩ := bind_some e
  obtain ⟨b, eb, e⟩ := map_some e
  cases e
  have := asB_some eb
  subst this
  exact h env σ S H R _ _ ea _ fun v S1 H1 k R1 r => ⟨d, r.bool_inv, q S1 H1 k R1⟩
theorem semPT_and (h1 : SemPT K m t Ft) (h2 : SemPT K m u Fu) : SemPT K m (tAnd t u) (fAnd Ft Fu) := fun env σ S H R d e Q q => by
  obtain ⟨a, ea, e⟩ := bind_some e
  refine h1 env σ S H R a ea _ fun S1 H1 k1 => ?_
  cases a with
  | true => exact h2 env σ S1 H1 (R.gz k1) d e Q fun S2 H2 k2 => q S2 H2 (k1.trans k2)
  | false => cases e; exact q S1 H1 k1
theorem semPT_or (h1 : SemPT K m t Ft) (h2 : SemPT K m u Fu) : SemPT K m (tOr t u) (fOr Ft Fu) := fun env σ S H R d e Q q => by
  obtain ⟨a, ea, e⟩ := bind_some e
  refine h1 env σ S H R a ea _ fun S1 H1 k1 => ?_
  cases a with
  | false => exact h2 env σ S1 H1 (R.gz k1) d e Q fun S2 H2 k2 => q S2 H2 (k1.trans k2)
  | true => cases e; exact q S1 H1 k1
theorem semPT_not (h1 : SemPT K m t Ft) : SemPT K m (tNot t) (fNot Ft) := fun env σ S H R d e Q q => by
  obtain ⟨a, ea, rfl⟩ := map_some e
  exact h1 env σ S H R a ea _ fun S1 H1 k1 => q S1 H1 k1
theorem semT_and (h1 : SemT K m t Gt) (h2 : SemT K m u Gu) : SemT K m (tAnd t u) (gAnd Gt Gu) := fun env σ S H R d env' e Q q => by
  obtain ⟨⟨a, e1⟩, ea, e⟩ := bind_some e
  refine h1 env σ S H R a e1 ea _ fun S1 H1 k1 R1 => ?_
  cases a with
  | true => exact h2 e1 σ S1 H1 R1 d env' e Q fun S2 H2 k2 R2 => q S2 H2 (k1.trans k2) R2
  | false => cases e; exact q S1 H1 k1 R1
theorem semT_or (h1 : SemT K m t Gt) (h2 : SemT K m u Gu) : SemT K m (tOr t u) (gOr Gt Gu) := fun env σ S H R d env' e Q q => by
  obtain ⟨⟨a, e1⟩, ea, e⟩ := bind_some e
  refine h1 env σ S H R a e1 ea _ fun S1 H1 k1 R1 => ?_
  cases a with
  | false => exact h2 e1 σ S1 H1 R1 d env' e Q fun S2 H2 k2 R2 => q S2 H2 (k1.trans k2) R2
  | true => cases e; exact q S1 H1 k1 R1
theorem semT_not (h1 : SemT K m t Gt) : SemT K m (tNot t) (gNot Gt) := fun env σ S H R d env' e Q q => by
  obtain ⟨⟨a, e1⟩, ea, e⟩ := map_some e
  cases e
  exact h1 env σ S H R a _ ea _ fun S1 H1 k1 R1 => q S1 H1 k1 R1
theorem semP_if {Fa Fb : En → Option D} (h : SemPT K m t Ft) (ha : SemP K m ta Fa) (hb : SemP K m tb Fb) : SemP K m (tIf t ta tb) (fIf Ft Fa Fb) := fun env σ S H R d e Q q => by
  obtain ⟨a, ea, e⟩ := bind_some e
  refine h env σ S H R a ea _ fun S1 H1 k1 => ?_
  cases a with
  | true => exact ha env σ S1 H1 (R.gz k1) d e Q fun v S2 H2 k2 r => q v S2 H2 (k1.trans k2) r
  | false => exact hb env σ S1 H1 (R.gz k1) d e Q fun v S2 H2 k2 r => q v S2 H2 (k1.trans k2) r
theorem sem_if {Fa Fb : En → Option (D × En)} (h : SemT K m t Gt) (ha : Sem K m ta Fa) (hb : Sem K m tb Fb) : Sem K m (tIf t ta tb) (gIf Gt Fa Fb) := fun env σ S H R d env' e Q q => by
  obtain ⟨⟨a, e1⟩, ea, e⟩ := bind_some e
  refine h env σ S H R a e1 ea _ fun S1 H1 k1 R1 => ?_
  cases a with
  | true => exact ha e1 σ S1 H1 R1 d env' e Q fun v S2 H2 k2 R2 r => q v S2 H2 (k1.trans k2) R2 r
  | false => exact hb e1 σ S1 H1 R1 d env' e Q fun v S2 H2 k2 R2 r => q v S2 H2 (k1.trans k2) R2 r
/-- and, or of bools as values -/
def fAndV (Fa Fb : En → Option D) : En → Option D := fun env => ((Fa env).bind asB).bind fun a => if a = true then Fb env else some (.bool false)
def fOrV (Fa Fb : En → Option D) : En → Option D := fun env => ((Fa env).bind asB).bind fun a => if a = true then some (.bool true) else Fb env
theorem semP_andV {Fa Fb : En → Option D} (ha : SemP K m ta Fa) (hb : SemP K m tb Fb) : SemP K m (tAndV ta tb) (fAndV Fa Fb) := fun env σ S H R d e Q q => by
  obtain ⟨b, eb, e⟩ := bind_some e
  obtain ⟨a, ea, eb⟩ := bind_some eb
  cases asB_some eb
  refine ha env σ S H R _ ea _ fun v S1 H1 k1 r => ⟨b, r.bool_inv, ?_⟩
  cases b with
  | true => exact hb env σ S1 H1 (R.gz k1) d e Q fun v S2 H2 k2 r => q v S2 H2 (k1.trans k2) r
  | false => cases e; exact q _ S1 H1 k1 (.bl false)
theorem semP_orV {Fa Fb : En → Option D} (ha : SemP K m ta Fa) (hb : SemP K m tb Fb) : SemP K m (tOrV ta tb) (fOrV Fa Fb) := fun env σ S H R d e Q q => by
  obtain ⟨b, eb, e⟩ := bind_some e
  obtain ⟨a, ea, eb⟩ := bind_some eb
  cases asB_some eb
  refine ha env σ S H R _ ea _ fun v S1 H1 k1 r => ⟨b, r.bool_inv, ?_⟩
  cases b with
  | false => exact hb env σ S1 H1 (R.gz k1) d e Q fun v S2 H2 k2 r => q v S2 H2 (k1.trans k2) r
  | true => cases e; exact q _ S1 H1 k1 (.bl true)
def fNotV (Fa : En → Option D) : En → Option D := fun env => ((Fa env).bind asB).map fun a => .bool (!a)
theorem semP_notV {Fa : En → Option D} (ha : SemP K m ta Fa) : SemP K m (tNotV ta) (fNotV Fa) := fun env σ S H R d e Q q => by
  obtain ⟨b, eb, rfl⟩ := map_some e
  obtain ⟨a, ea, eb⟩ := bind_some eb
  cases asB_some eb
  exact ha env σ S H R _ ea _ fun v S1 H1 k1 r => ⟨b, r.bool_inv, q _ S1 H1 k1 (.bl _)⟩
/-- a op1 b op2 c -/
def fChain (g g' : D → D → Option D) (Fa Fb Fc : En → Option D) : En → Option D := fun env => (Fa env).bind fun a => (Fb env).bind fun b => ((g a b).bind asB).bind fun k =>
  if k = true then (Fc env).bind fun c => g' b c else some (.bool false)
theorem semP_chain {r r' : R2} {g g' : D → D → Option D} {tc : TE} {Fa Fb Fc : En → Option D} (ho : OpD K r g) (ho' : OpD K r' g') (ha : SemP K m ta Fa) (hb : SemP K m tb Fb) (hc : SemP K m tc Fc) :
    SemP K m (tChain r r' ta tb tc) (fChain g g' Fa Fb Fc) := fun env σ S H R d e Q q => by
  obtain ⟨a, ea, e⟩ := bind_some e
  obtain ⟨b, eb, e⟩ := bind_some e
  obtain ⟨k, ek, e⟩ := bind_some e
  obtain ⟨z, ez, ek⟩ := bind_some ek
  cases asB_some ek
  refine ha env σ S H R a ea _ fun x S1 H1 k1 rx => hb env σ S1 H1 (R.gz k1) b eb _ fun y S2 H2 k2 ry => ?_
  refine ho S2 H2 x y a b _ k2.x k2.z (rx.mono k2.s) ry ez _ fun w S3 H3 k3 rw' => ⟨k, rw'.bool_inv, ?_⟩
  have k13 := (k1.trans k2).trans k3
  cases k with
  | true =>
    obtain ⟨c, ec, e⟩ := bind_some e
    exact hc env σ S3 H3 (R.gz k13) c ec _ fun u S4 H4 k4 ru => ho' S4 H4 y u b c d k4.x k4.z (ry.mono (k3.s.trans k4.s)) ru e Q fun v S5 H5 k5 rv => q v S5 H5 ((k13.trans k4).trans k5) rv
  | false => cases e; exact q _ S3 H3 k13 (.bl false)
end
end CS

/-! CsB: what is walked, targets, comprehensions. -/
namespace CS
open PySem PySem.Spec PyProof.Rows L2
open Evl (Ex ex_l ex_t)
/-- J walks the data ds, while S stands -/
def WalkD (K : PySem.W.Frag) (S : Hp) (ds : List D) (J : It) : Prop := ∃ (G : Hp → Prop) (Y : Nat → Hp → V → Hp → Prop), Walk J ds.length G Y ∧ (∀ H, Ex S H → G H) ∧
  ∀ (i : Nat) (S2 H2 : Hp) (x : V) (H3 : Hp) (d : D), ds[i]? = some d → Ex S S2 → Ex S2 H2 → SzH H2 → Y i H2 x H3 → ∃ S3, Gz S2 H2 S3 H3 ∧ Rp K S3 x d
def SemPI (K : PySem.W.Frag) (m : List Nat) (wi : TI) (F : En → Option (List D)) : Prop := ∀ env σ S H, Rel K m env σ S H → ∀ ds, F env = some ds →
  ∀ R : It → Hp → Prop, (∀ J S' H', Gz S H S' H' → ds.length ≤ sizeLine → WalkD K S' ds J → R J H') → wi σ H R
def SemI (K : PySem.W.Frag) (m : List Nat) (wi : TI) (G : En → Option (List D × En)) : Prop := ∀ env σ S H, Rel K m env σ S H → ∀ ds env', G env = some (ds, env') →
  ∀ R : It → Hp → Prop, (∀ J S' H', Gm (Own m σ) S H S' H' → Rel K m env' σ S' H' → ds.length ≤ sizeLine → WalkD K S' ds J → R J H') → wi σ H R
theorem SemPI.up {K : PySem.W.Frag} {m : List Nat} {wi : TI} {F : En → Option (List D)} (h : SemPI K m wi F) : SemI K m wi (up F) := fun env σ S H R d env' e Q q => by
  obtain ⟨e1, rfl⟩ := up_some e
  exact h env' σ S H R d e1 Q fun J S' H' g hl r => q J S' H' g.gm (R.gz g) hl r
def asL : D → Option (List D)
  | .list ds => some ds
  | _ => none
def asT : D → Option (List D)
  | .tuple ds => some ds
  | _ => none
def asI : D → Option Int
  | .int i => some i
  | _ => none
theorem asL_some {d : D} {ds : List D} (h : asL d = some ds) : d = .list ds := by
  unfold asL at h; split at h
  · cases h; rfl
  · cases h
theorem asT_some {d : D} {ds : List D} (h : asT d = some ds) : d = .tuple ds := by
  unfold asT at h; split at h
  · cases h; rfl
  · cases h
theorem asI_some {d : D} {i : Int} (h : asI d = some i) : d = .int i := by
  unfold asI at h; split at h
  · cases h; rfl
  · cases h
section
variable {K : PySem.W.Frag} {m : List Nat} {te : TE} {F : En → Option D} {G : En → Option (D × En)}
theorem walkD_list {S : Hp} {a : Addr} {xs : List V} {ds : List D} (hs : SqL K S a xs) (ha : RpAll K S xs ds) : WalkD K S ds (Itl K a) := by
  have hl := ha.length
  refine ⟨_, _, hl ▸ walk_list (K := K) (a := a) (xs := xs), fun H e => ex_l e hs, fun i S2 H2 x H3 d hd e1 e2 z y => ?_⟩
  obtain ⟨rfl, hx⟩ := y
  obtain ⟨d', h1, h2⟩ := ha.get hx
  rw [hd] at h1; cases h1
  exact ⟨S2, Gz.refl e2 z, h2.mono e1⟩
theorem walkD_tup {S : Hp} {a : Addr} {xs : List V} {ds : List D} (hs : SqT K S a xs) (ha : RpAll K S xs ds) : WalkD K S ds (Itt K a) := by
  have hl := ha.length
  refine ⟨_, _, hl ▸ walk_tup (K := K) (a := a) (xs := xs), fun H e => ex_t e hs, fun i S2 H2 x H3 d hd e1 e2 z y => ?_⟩
  obtain ⟨rfl, hx⟩ := y
  obtain ⟨d', h1, h2⟩ := ha.get hx
  rw [hd] at h1; cases h1
  exact ⟨S2, Gz.refl e2 z, h2.mono e1⟩
def rangeD (lo : Int) (n : Nat) : List D := (List.range n).map fun i => .int (lo + (i : Nat))
theorem rangeD_length (lo : Int) (n : Nat) : (rangeD lo n).length = n := by simp [rangeD]
theorem rangeD_get {lo : Int} {n i : Nat} {d : D} (h : (rangeD lo n)[i]? = some d) : i < n ∧ d = .int (lo + (i : Nat)) := by
  unfold rangeD at h
  rw [List.getElem?_map] at h
  obtain ⟨j, h1, rfl⟩ := map_some h
  obtain ⟨h2, h3⟩ := List.getElem?_eq_some_iff.mp h1
  simp at h2 h3
  exact ⟨h2, by rw [← h3]⟩
theorem walkD_range {S : Hp} {lo : Int} {n : Nat} : WalkD K S (rangeD lo n) (Itr lo n) := by
  refine ⟨_, _, (by rw [rangeD_length]; exact walk_range (lo := lo) (n := n) : Walk (Itr lo n) (rangeD lo n).length (fun _ => True) (YFn fun i => .int (lo + i))), fun _ _ => trivial, fun i S2 H2 x H3 d hd e1 e2 z y => ?_⟩
  obtain ⟨rfl, rfl⟩ := y
  obtain ⟨_, rfl⟩ := rangeD_get hd
  exact ⟨S2, Gz.refl e2 z, .int _⟩
/-- pairs: enumerate, zip -/
def enumD (ds : List D) : List D := (ds.zipIdx).map fun p => .tuple [.int (p.2 : Nat), p.1]
theorem enumD_length (ds : List D) : (enumD ds).length = ds.length := by simp [enumD]
theorem enumD_get {ds : List D} {i : Nat} {d : D} (h : (enumD ds)[i]? = some d) : ∃ x, ds[i]? = some x ∧ d = .tuple [.int (i : Nat), x] := by
  unfold enumD at h
  rw [List.getElem?_map] at h
  obtain ⟨p, h1, rfl⟩ := map_some h
  rw [List.getElem?_zipIdx] at h1
  obtain ⟨x, h2, rfl⟩ := map_some h1
  exact ⟨x, h2, by simp⟩
def zipD (as bs : List D) : List D := List.zipWith (fun a b => .tuple [a, b]) as bs
theorem zipD_length (as bs : List D) : (zipD as bs).length = min as.length bs.length := by simp [zipD]
theorem zipD_get {as bs : List D} {i : Nat} {d : D} (h : (zipD as bs)[i]? = some d) : ∃ x y, as[i]? = some x ∧ bs[i]? = some y ∧ d = .tuple [x, y] := by
  unfold zipD at h
  rw [List.getElem?_zipWith] at h
  cases ha : as[i]? with
  | none => rw [ha] at h; cases h
  | some x =>
    cases hb : bs[i]? with
    | none => rw [ha, hb] at h; cases h
    | some y => rw [ha, hb] at h; cases h; exact ⟨x, y, rfl, rfl, rfl⟩
theorem pair_step {S2 H2 : Hp} {T : Addr} {x y : V} {a b : D} (e2 : Ex S2 H2) (z : SzH H2) (nT : H2 T = none) (ra : Rp K S2 x a) (rb : Rp K S2 y b) :
    ∃ S3, Gz S2 H2 S3 (upd H2 T (.tup [x, y])) ∧ Rp K S3 (.ref T) (.tuple [a, b]) :=
  ⟨_, Gz.new (o := .tup [x, y]) e2 z nT (by show 2 ≤ sizeLine; decide), rp_newT e2 nT (.cons ra (.cons rb .nil))⟩
theorem walkD_enum {S : Hp} {a : Addr} {xs : List V} {ds : List D} (hs : SqL K S a xs) (ha : RpAll K S xs ds) : WalkD K S (enumD ds) (Ite K a) := by
  have hl : xs.length = (enumD ds).length := by rw [enumD_length]; exact ha.length
  refine ⟨_, _, hl ▸ walk_enum (K := K) (a := a) (xs := xs), fun H e => ex_l e hs, fun i S2 H2 x H3 d hd e1 e2 z y => ?_⟩
  obtain ⟨T, x1, x2, rfl, nT, rfl, f1, f2⟩ := y
  obtain ⟨c, hc, rfl⟩ := enumD_get hd
  cases f1
  obtain ⟨d', h1, h2⟩ := ha.get f2
  rw [hc] at h1; cases h1
  exact pair_step e2 z nT (.int _) (h2.mono e1)
theorem walkD_zip {S : Hp} {a b : Addr} {xs ys : List V} {ds es : List D} (hs : SqL K S a xs) (ha : RpAll K S xs ds) (hs' : SqL K S b ys) (hb : RpAll K S ys es) : WalkD K S (zipD ds es) (Itz K a b) := by
  have hl : (zipD ds es).length = min xs.length ys.length := by rw [zipD_length, ha.length, hb.length]
  refine ⟨_, _, walk_zip (K := K) (a := a) (b := b) (xs := xs) (ys := ys) hl, fun H e => ⟨ex_l e hs, ex_l e hs'⟩, fun i S2 H2 x H3 d hd e1 e2 z y => ?_⟩
  obtain ⟨T, x1, x2, rfl, nT, rfl, f1, f2⟩ := y
  obtain ⟨c, c', hc, hc', rfl⟩ := zipD_get hd
  obtain ⟨d1, h1, h2⟩ := ha.get f1
  obtain ⟨d2, h3, h4⟩ := hb.get f2
  rw [hc] at h1; cases h1
  rw [hc'] at h3; cases h3
  exact pair_step e2 z nT (h2.mono e1) (h4.mono e1)
theorem semPI_list (h : SemP K m te F) : SemPI K m (iList K te) (fun env => (F env).bind asL) := fun env σ S H R ds e Q q => by
  obtain ⟨a, ea, e⟩ := bind_some e
  cases asL_some e
  refine h env σ S H R _ ea _ fun v S1 H1 k r => ?_
  obtain ⟨p, xs, rfl, hs0, ha⟩ := r.list_inv
  have hs : SqL K S1 p xs := SqL.of hs0
  exact ⟨p, rfl, ⟨xs, ex_l k.x hs⟩, q _ S1 H1 k (by rw [← ha.length]; exact k.z.list (ex_l k.x hs)) (walkD_list hs ha)⟩
theorem semPI_tup (h : SemP K m te F) : SemPI K m (iTup K te) (fun env => (F env).bind asT) := fun env σ S H R ds e Q q => by
  obtain ⟨a, ea, e⟩ := bind_some e
  cases asT_some e
  refine h env σ S H R _ ea _ fun v S1 H1 k r => ?_
  obtain ⟨p, xs, rfl, hs0, ha⟩ := r.tuple_inv
  have hs : SqT K S1 p xs := SqT.of hs0
  exact ⟨p, rfl, ⟨xs, ex_t k.x hs⟩, q _ S1 H1 k (by rw [← ha.length]; exact k.z.tup (ex_t k.x hs)) (walkD_tup hs ha)⟩
/-- range(n), range(a, b): bounded ends -/
def rng1 : List D → Option (List D)
  | [.int j] => if j ≤ sizeLine ∧ -(2 ^ 62) ≤ j then some (rangeD 0 j.toNat) else none
  | _ => none
def rng2 : List D → Option (List D)
  | [.int i, .int j] => if -(2 ^ 62) ≤ i ∧ i < 2 ^ 62 ∧ -(2 ^ 62) ≤ j ∧ j < 2 ^ 62 ∧ j - i ≤ sizeLine then some (rangeD i (j - i).toNat) else none
  | _ => none
theorem RpAll.one_inv {K : PySem.W.Frag} {H : Hp} {vs : List V} {d : D} (h : RpAll K H vs [d]) : ∃ v, vs = [v] ∧ Rp K H v d := by
  cases h with
  | cons a t => cases t; exact ⟨_, rfl, a⟩
theorem RpAll.two_inv {K : PySem.W.Frag} {H : Hp} {vs : List V} {d e : D} (h : RpAll K H vs [d, e]) : ∃ v w, vs = [v, w] ∧ Rp K H v d ∧ Rp K H w e := by
  cases h with
  | cons a t =>
    obtain ⟨w, rfl, b⟩ := t.one_inv
    exact ⟨_, w, rfl, a, b⟩
theorem semPI_rng1 {t : TA} {Fa : En → Option (List D)} (h : SemPA K m t Fa) : SemPI K m (iRng1 t) (fun env => (Fa env).bind rng1) := fun env σ S H R ds e Q q => by
  obtain ⟨a, ea, e⟩ := bind_some e
  unfold rng1 at e
  split at e
  · rename_i j
    split at e
    · rename_i hj
      cases e
      refine h env σ S H R _ ea _ fun v S1 H1 k r => ?_
      obtain ⟨w, rfl, r1⟩ := r.one_inv
      have hz : (sizeLine : Nat) = 16777216 := sizeLine_eq
      refine ⟨j, by rw [r1.int_inv], hj.2, by have := hj.1; omega, q _ S1 H1 k (by rw [rangeD_length]; have := hj.1; omega) walkD_range⟩
    · cases e
  · cases e
theorem semPI_rng2 {t : TA} {Fa : En → Option (List D)} (h : SemPA K m t Fa) : SemPI K m (iRng2 t) (fun env => (Fa env).bind rng2) := fun env σ S H R ds e Q q => by
  obtain ⟨a, ea, e⟩ := bind_some e
  unfold rng2 at e
  split at e
  · rename_i i j
    split at e
    · rename_i hj
      cases e
      refine h env σ S H R _ ea _ fun v S1 H1 k r => ?_
      obtain ⟨w, w', rfl, r1, r2⟩ := r.two_inv
      refine ⟨i, j, by rw [r1.int_inv, r2.int_inv], ⟨hj.1, hj.2.1, hj.2.2.1, hj.2.2.2.1⟩, q _ S1 H1 k (by rw [rangeD_length]; have := hj.2.2.2.2; omega) walkD_range⟩
    · cases e
  · cases e
end
/-! ### targets -/
/-- a target stores a value of data d: the slots ts alone change -/
def SemG (K : PySem.W.Frag) (m : List Nat) (ts : List Nat) (g : TG) (Gt : D → En → Option En) : Prop := ∀ env σ S H, Rel K m env σ S H → ∀ v d env', Rp K S v d → Gt d env = some env' →
  ∀ Q : SL → Hp → Prop, (∀ σ', σ'.length = σ.length → (∀ i, i ∉ ts → σ'[i]? = σ[i]?) → (∀ i, i ∈ m → σ'[i]? = σ[i]?) → Rel K m env' σ' S H → Q σ' H) → g v σ H Q
def SemGs (K : PySem.W.Frag) (m : List Nat) (ts : List Nat) (g : TGs) (Gt : List D → En → Option En) : Prop := ∀ env σ S H, Rel K m env σ S H → ∀ vs ds env', RpAll K S vs ds → Gt ds env = some env' →
  ∀ Q : SL → Hp → Prop, (∀ σ', σ'.length = σ.length → (∀ i, i ∉ ts → σ'[i]? = σ[i]?) → (∀ i, i ∈ m → σ'[i]? = σ[i]?) → Rel K m env' σ' S H → Q σ' H) → g vs σ H Q
def setE (j : Nat) (d : D) (env : En) : En := env.set j (some d)
theorem Rel.set {K : PySem.W.Frag} {m : List Nat} {env : En} {σ : SL} {S H : Hp} {j : Nat} {v : V} {d : D} (R : Rel K m env σ S H) (hj : j ∉ m) (r : Rp K S v d) : Rel K m (env.set j (some d)) (σ.set j (some v)) S H := by
  have ne : ∀ i, i ∈ m → j ≠ i := fun i hi e => hj (e ▸ hi)
  refine ⟨R.ex, R.sz, by simp [R.len], fun i d' hi e => ?_, fun i hi => ?_, fun i k p hi hk e1 e2 => ?_⟩
  · by_cases c : j = i
    · subst c
      rw [List.getElem?_set] at e
      simp at e
      obtain ⟨h1, rfl⟩ := e
      exact ⟨v, by rw [List.getElem?_set]; simp [← R.len, h1], r⟩
    · rw [List.getElem?_set_ne c] at e ⊢
      exact R.sh i d' hi e
  · rw [List.getElem?_set_ne (ne i hi), List.getElem?_set_ne (ne i hi)]
    exact R.ow i hi
  · rw [List.getElem?_set_ne (ne i hi)] at e1
    rw [List.getElem?_set_ne (ne k hk)] at e2
    exact R.inj i k p hi hk e1 e2
section
variable {K : PySem.W.Frag} {m : List Nat}
theorem semG_name {j : Nat} (hj : j ∉ m) : SemG K m [j] (gName j) (fun d env => some (setE j d env)) := fun env σ S H R v d env' r e Q q => by
  cases e
  refine q _ (by simp) (fun i hi => ?_) (fun i hi => ?_) (R.set hj r)
  · rw [List.getElem?_set_ne]
    intro e; exact hi (by simp [e])
  · rw [List.getElem?_set_ne]
    intro e; exact hj (e ▸ hi)
def tgNil : List D → En → Option En
  | [], env => some env
  | _, _ => none
def tgCons (G : D → En → Option En) (Gs : List D → En → Option En) : List D → En → Option En
  | d :: ds, env => (G d env).bind fun e => Gs ds e
  | [], _ => none
theorem semGs_nil : SemGs K m [] gNil tgNil := fun env σ S H R vs ds env' r e Q q => by
  cases ds with
  | cons _ _ => cases e
  | nil =>
    cases r
    cases e
    exact ⟨rfl, q σ rfl (fun _ _ => rfl) (fun _ _ => rfl) R⟩
theorem semGs_cons {ts us : List Nat} {g : TG} {gs : TGs} {G : D → En → Option En} {Gs : List D → En → Option En} (h1 : SemG K m ts g G) (h2 : SemGs K m us gs Gs) : SemGs K m (ts ++ us) (gCons g gs) (tgCons G Gs) := fun env σ S H R vs ds env' r e Q q => by
  cases ds with
  | nil => cases e
  | cons d ds =>
    obtain ⟨e1, he, e⟩ := bind_some e
    cases r with
    | cons ra rt =>
      refine ⟨_, _, rfl, h1 env σ S H R _ _ e1 ra he _ fun σ1 l1 f1 k1 R1 => h2 e1 σ1 S H R1 _ _ env' rt e Q fun σ2 l2 f2 k2 R2 => q σ2 (l2.trans l1) (fun i hi => ?_) (fun i hi => (k2 i hi).trans (k1 i hi)) R2⟩
      exact (f2 i fun z => hi (List.mem_append_right _ z)).trans (f1 i fun z => hi (List.mem_append_left _ z))
def tgTup (Gs : List D → En → Option En) : D → En → Option En := fun d env => (asT d).bind fun ds => Gs ds env
theorem semG_tup {ts : List Nat} {gs : TGs} {Gs : List D → En → Option En} {n : Nat} (h : SemGs K m ts gs Gs) (hn : ∀ ds env e, Gs ds env = some e → ds.length = n) : SemG K m ts (gTup K n gs) (tgTup Gs) := fun env σ S H R v d env' r e Q q => by
  obtain ⟨ds, ed, e⟩ := bind_some e
  cases asT_some ed
  obtain ⟨p, xs, rfl, hs, ha⟩ := r.tuple_inv
  exact ⟨p, xs, rfl, SqT.of (R.ex _ _ hs), ha.length.trans (hn _ _ _ e), h env σ S H R xs ds env' ha e Q q⟩
theorem tg_len0 : ∀ (ds : List D) env e, tgNil ds env = some e → ds.length = 0 := fun ds env e h => by
  cases ds with
  | nil => rfl
  | cons _ _ => cases h
theorem tg_lenS {G : D → En → Option En} {Gs : List D → En → Option En} {n : Nat} (hn : ∀ (ds : List D) env e, Gs ds env = some e → ds.length = n) : ∀ (ds : List D) env e, tgCons G Gs ds env = some e → ds.length = n + 1 := fun ds env e h => by
  cases ds with
  | nil => cases h
  | cons d ds =>
    obtain ⟨e1, _, h2⟩ := bind_some h
    exact congrArg (· + 1) (hn ds e1 e h2)
end
/-! ### comprehensions -/
def wipeE (env : En) : List Nat → En
  | [] => env
  | v :: vs => (wipeE env vs).set v none
theorem wipeE_length (env : En) : ∀ vs, (wipeE env vs).length = env.length
  | [] => rfl
  | v :: vs => by unfold wipeE; rw [List.length_set, wipeE_length env vs]
theorem wipeE_out {env : En} {i : Nat} : ∀ {vs : List Nat}, i ∉ vs → (wipeE env vs)[i]? = env[i]?
  | [], _ => rfl
  | v :: vs, h => by
    unfold wipeE
    rw [List.getElem?_set_ne (fun e => h (by simp [e])), wipeE_out fun z => h (List.mem_cons_of_mem _ z)]
theorem wipeE_some {env : En} {i : Nat} {x : D} : ∀ {vs : List Nat}, (wipeE env vs)[i]? = some (some x) → env[i]? = some (some x) ∧ i ∉ vs
  | [], h => ⟨h, by simp⟩
  | v :: vs, h => by
    unfold wipeE at h
    by_cases c : v = i
    · subst c
      rw [List.getElem?_set] at h
      simp at h
    · rw [List.getElem?_set_ne c] at h
      obtain ⟨h1, h2⟩ := wipeE_some h
      exact ⟨h1, by simp only [List.mem_cons, not_or]; exact ⟨fun e => c e.symm, h2⟩⟩
theorem wipe_in {σ : SL} {i : Nat} : ∀ {vs : List Nat}, i ∈ vs → i < σ.length → (wipe σ vs)[i]? = some none
  | [], h, _ => by simp at h
  | v :: vs, h, hl => by
    unfold wipe
    by_cases c : v = i
    · subst c
      rw [List.getElem?_set_self (by rw [wipe_length]; exact hl)]
    · rw [List.getElem?_set_ne c]
      exact wipe_in (by simp at h; rcases h with h | h; exact absurd h.symm c; exact h) hl
theorem wipe_eq {σ τ : SL} {vs : List Nat} (hl : τ.length = σ.length) (h : ∀ i, i ∉ vs → τ[i]? = σ[i]?) : wipe τ vs = wipe σ vs := by
  apply List.ext_getElem?
  intro i
  by_cases c : i ∈ vs
  · by_cases d : i < σ.length
    · rw [wipe_in c d, wipe_in c (by omega)]
    · rw [List.getElem?_eq_none (by rw [wipe_length]; omega), List.getElem?_eq_none (by rw [wipe_length]; omega)]
  · rw [wipe_out c, wipe_out c]
    exact h i c
theorem Rel.wipe {K : PySem.W.Frag} {m : List Nat} {env : En} {σ : SL} {S H : Hp} (R : Rel K m env σ S H) {vs : List Nat} (hv : ∀ i, i ∈ m → i ∉ vs) : Rel K m (wipeE env vs) (wipe σ vs) S H := by
  refine ⟨R.ex, R.sz, by rw [wipeE_length, wipe_length, R.len], fun i d hi e => ?_, fun i hi => ?_, fun i k p hi hk e1 e2 => ?_⟩
  · obtain ⟨e1, hn⟩ := wipeE_some e
    rw [wipe_out hn]
    exact R.sh i d hi e1
  · rw [wipeE_out (hv i hi), wipe_out (hv i hi)]
    exact R.ow i hi
  · rw [wipe_out (hv i hi)] at e1
    rw [wipe_out (hv k hk)] at e2
    exact R.inj i k p hi hk e1 e2
/-- the items that a comprehension gives -/
def compD (f : D → Option (Option D)) : List D → Option (List D)
  | [] => some []
  | x :: xs => (f x).bind fun r => (compD f xs).map fun ys => r.toList ++ ys
theorem compD_append {f : D → Option (Option D)} : ∀ xs ys, compD f (xs ++ ys) = (compD f xs).bind fun a => (compD f ys).map fun b => a ++ b
  | [], ys => by simp [compD]
  | x :: xs, ys => by
    simp only [List.cons_append, compD]
    rw [compD_append xs ys]
    cases f x with
    | none => rfl
    | some r =>
      cases compD f xs with
      | none => rfl
      | some a =>
        cases compD f ys with
        | none => rfl
        | some b => simp
theorem compD_take {f : D → Option (Option D)} {xs : List D} {r : List D} (h : compD f xs = some r) {i : Nat} {x : D} (hx : xs[i]? = some x) : ∃ a y, compD f (xs.take i) = some a ∧ f x = some y ∧ compD f (xs.take (i + 1)) = some (a ++ y.toList) := by
  have hi := (List.getElem?_eq_some_iff.mp hx).1
  have e1 : xs = xs.take (i + 1) ++ xs.drop (i + 1) := (List.take_append_drop _ _).symm
  rw [e1, compD_append] at h
  obtain ⟨a1, h1, _⟩ := bind_some h
  have e2 : xs.take (i + 1) = xs.take i ++ [x] := by rw [List.take_add_one, hx]; rfl
  rw [e2, compD_append] at h1 ⊢
  obtain ⟨a, ha, h2⟩ := bind_some h1
  obtain ⟨b, hb, rfl⟩ := map_some h2
  simp only [compD] at hb
  obtain ⟨y, hy, hb⟩ := bind_some hb
  simp at hb
  refine ⟨a, y, ha, hy, ?_⟩
  rw [ha]
  simp [compD, hy]
theorem compD_len {f : D → Option (Option D)} : ∀ {xs r : List D}, compD f xs = some r → r.length ≤ xs.length
  | [], r, h => by cases h; simp
  | x :: xs, r, h => by
    simp only [compD] at h
    obtain ⟨y, _, h⟩ := bind_some h
    obtain ⟨ys, h2, rfl⟩ := map_some h
    have := compD_len h2
    cases y <;> simp <;> omega
def lcF (vs : List Nat) (Fi : En → Option (List D)) (Gt : D → En → Option En) (Ft : En → Option Bool) (Fe : En → Option D) : En → Option D := fun env => (Fi env).bind fun ds =>
  (compD (fun d => (Gt d (wipeE env vs)).bind fun e => (Ft e).bind fun b => if b = true then (Fe e).map some else some none) ds).map .list
section
variable {K : PySem.W.Frag} {m : List Nat}
theorem semPT_yes : SemPT K m tYes (fun _ => some true) := fun env σ S H R d e Q q => by
  cases e
  exact q S H (Gz.refl R.ex R.sz)
theorem semP_lc {wi : TI} {g : TG} {tt : TT} {te : TE} {vs ts : List Nat} {Fi : En → Option (List D)} {Gt : D → En → Option En} {Ft : En → Option Bool} {Fe : En → Option D}
    (hi : SemPI K m wi Fi) (hg : SemG K m ts g Gt) (ht : SemPT K m tt Ft) (he : SemP K m te Fe) (hv : ∀ i, i ∈ m → i ∉ vs) (hts : ∀ i, i ∈ ts → i ∈ vs) : SemP K m (tLc wi g tt te vs) (lcF vs Fi Gt Ft Fe) := fun env σ S H R d e Q q => by
  obtain ⟨ds, eds, e⟩ := bind_some e
  obtain ⟨res, hres, rfl⟩ := map_some e
  refine hi env σ S H R ds eds _ fun J S1 H1 k1 hsz hw Dl hD => ?_
  obtain ⟨G, Y, W, hG, hY⟩ := hw
  have hS : S1 Dl = none := ex_free k1.x hD
  refine lc_it W (fun i H' => ∃ S' acc as, Gz S1 H1 S' H' ∧ S' Dl = none ∧ H' Dl = some (.lst acc) ∧ RpAll K S' acc as ∧ compD (fun d => (Gt d (wipeE env vs)).bind fun e => (Ft e).bind fun b => if b = true then (Fe e).map some else some none) (ds.take i) = some as)
    ⟨S1, [], [], ⟨Ex.refl _, Ex.new hD, fun _ _ => rfl, fun a o e => by
      rw [upd_ne (ne_of_none e hS)]
      exact k1.x a o e, k1.z.upd (by show 0 ≤ sizeLine; omega)⟩, hS, upd_same, .nil, rfl⟩ (fun i H' _ p => ?_) (fun i x H2 H3 hlt p y => ?_) (fun H' p => ?_)
  · obtain ⟨S', acc, as, g1, _⟩ := p
    exact hG H' (g1.s.trans g1.x)
  · obtain ⟨S2, acc, as, g1, h2, h3, h4, h5⟩ := p
    have hx : ds[i]? = some ds[i] := List.getElem?_eq_getElem hlt
    obtain ⟨a', y', c1, c2, c3⟩ := compD_take hres hx
    rw [h5] at c1; cases c1
    obtain ⟨S3, g3, r3⟩ := hY i S2 H2 x H3 _ hx g1.s g1.x g1.z y
    obtain ⟨e2, ge, c2⟩ := bind_some c2
    obtain ⟨b, tb, c2⟩ := bind_some c2
    have R3 := ((R.gz k1).gz (g1.trans g3)).wipe hv
    refine hg _ _ S3 H3 R3 x _ e2 r3 ge _ fun σ2 hl2 hf2 _ R2 => ⟨?_, ?_⟩
    · rw [wipe_eq (σ := wipe σ vs) hl2 fun i hi => hf2 i fun z => hi (hts i z)]
      exact wipe_eq (wipe_length _ _) fun i hi => wipe_out hi
    · refine ht e2 σ2 S3 H3 R2 b tb _ fun S4 H4 k4 => ?_
      have g4 := (g1.trans g3).trans k4
      have hD4 : H4 Dl = some (.lst acc) := k4.h _ _ (g3.h _ _ h3)
      have hS4 : S4 Dl = none := by
        rw [k4.n Dl (by rw [g3.h _ _ h3]; simp), g3.n Dl (by rw [h3]; simp)]
        exact h2
      cases b with
      | false =>
        simp at c2
        subst c2
        exact ⟨S4, acc, as, g4, hS4, hD4, h4.mono (g3.s.trans k4.s), by simpa using c3⟩
      | true =>
        simp only [if_true] at c2 ⊢
        obtain ⟨z, ez, rfl⟩ := map_some c2
        refine he e2 σ2 S4 H4 (R2.gz k4) z ez _ fun w S5 H5 k5 r5 => ?_
        have g5 := g4.trans k5
        have hD5 : H5 Dl = some (.lst acc) := k5.h _ _ hD4
        have hS5 : S5 Dl = none := by rw [k5.n Dl (by rw [hD4]; simp)]; exact hS4
        have hlen : acc.length < sizeLine := by
          have h6 := compD_len h5
          rw [List.length_take] at h6
          rw [h4.length]
          omega
        refine ⟨acc, hD5, hlen, S5, acc ++ [w], as ++ [z], ⟨g5.s, fun a o e => ?_, g5.n, fun a o e => ?_, g5.z.upd (by show (acc ++ [w]).length ≤ sizeLine; simp; omega)⟩, hS5, upd_same, ((h4.mono ((g3.s.trans k4.s).trans k5.s)).append (.cons r5 .nil)), by simpa using c3⟩
        · rw [upd_ne (ne_of_none e hD)]
          exact g5.h a o e
        · rw [upd_ne (ne_of_none e hS5)]
          exact g5.x a o e
  · obtain ⟨S2, acc, as, g1, h2, h3, h4, h5⟩ := p
    rw [List.take_length, hres] at h5
    cases h5
    refine q (.ref Dl) (upd S2 Dl (.lst acc)) H' (k1.trans ⟨g1.s.trans (Ex.new h2), g1.h, fun a ha => ?_, fun a o e => ?_, g1.z⟩) (.lst upd_same (h4.mono (Ex.new h2)))
    · have : a ≠ Dl := fun e => ha (e ▸ hD)
      rw [upd_ne this]
      exact g1.n a ha
    · by_cases c : a = Dl
      · subst c; rw [upd_same] at e; cases e; exact h3
      · rw [upd_ne c] at e; exact g1.x a o e
/-- the owned lists of a block, back in the outer environment -/
def back (m : List Nat) (env e : En) : En := m.foldl (fun acc i => match e[i]? with
  | some x => acc.set i x
  | none => acc) env
theorem back_length {e : En} : ∀ (m : List Nat) (env : En), (back m env e).length = env.length
  | [], _ => rfl
  | i :: m, env => by
    show (back m (match e[i]? with | some x => env.set i x | none => env) e).length = _
    rw [back_length m]
    split <;> simp
theorem back_out {e : En} {i : Nat} : ∀ {m : List Nat} {env : En}, i ∉ m → (back m env e)[i]? = env[i]?
  | [], _, _ => rfl
  | j :: m, env, h => by
    show (back m (match e[j]? with | some x => env.set j x | none => env) e)[i]? = _
    rw [back_out fun z => h (List.mem_cons_of_mem _ z)]
    split
    · rw [List.getElem?_set_ne fun z => h (by simp [z])]
    · rfl
theorem back_in {e : En} {i : Nat} : ∀ {m : List Nat} {env : En}, i ∈ m → e.length = env.length → (back m env e)[i]? = e[i]?
  | [], _, h, _ => by simp at h
  | j :: m, env, h, hl => by
    show (back m (match e[j]? with | some x => env.set j x | none => env) e)[i]? = _
    by_cases c : i ∈ m
    · exact back_in c (by split <;> simp [hl])
    · rw [back_out c]
      have : i = j := by simp at h; rcases h with h | h; exact h; exact absurd h c
      subst this
      split
      · rename_i x hx
        have := (List.getElem?_eq_some_iff.mp hx).1
        rw [List.getElem?_set_self (by omega), hx]
      · rename_i hx
        rw [List.getElem?_eq_none_iff] at hx
        rw [List.getElem?_eq_none (by omega), List.getElem?_eq_none hx]
theorem Rel.back {env e : En} {σ τ : SL} {S H S' H' : Hp} (R : Rel K m env σ S H) (R' : Rel K m e τ S' H') (hs : Ex S S') (ht : ∀ i, i ∈ m → τ[i]? = σ[i]?) (hl : τ.length = σ.length) : Rel K m (back m env e) σ S' H' := by
  refine ⟨R'.ex, R'.sz, by rw [back_length, R.len], fun i d hi e1 => ?_, fun i hi => ?_, fun i k p hi hk e1 e2 => R.inj i k p hi hk e1 e2⟩
  · rw [back_out hi] at e1
    obtain ⟨v, h1, h2⟩ := R.sh i d hi e1
    exact ⟨v, h1, h2.mono hs⟩
  · obtain ⟨p, ws, ds, h1, h2, h3⟩ := R'.ow i hi
    exact ⟨p, ws, ds, (back_in hi (by rw [R'.len, R.len, hl])).trans h1, (ht i hi).symm.trans h2, h3⟩
/-- a comprehension whose parts change owned lists -/
def compM (f : D → En → Option (Option D × En)) : List D → En → Option (List D × En)
  | [], env => some ([], env)
  | x :: xs, env => (f x env).bind fun r => (compM f xs r.2).map fun s => (r.1.toList ++ s.1, s.2)
theorem compM_append {f : D → En → Option (Option D × En)} : ∀ xs ys env, compM f (xs ++ ys) env = (compM f xs env).bind fun a => (compM f ys a.2).map fun b => (a.1 ++ b.1, b.2)
  | [], ys, env => by
    simp only [List.nil_append, compM, Option.bind_some]
    cases h : compM f ys env <;> simp
  | x :: xs, ys, env => by
    simp only [List.cons_append, compM]
    cases f x env with
    | none => rfl
    | some r =>
      simp only [Option.bind_some]
      rw [compM_append xs ys]
      cases compM f xs r.2 with
      | none => rfl
      | some a =>
        simp only [Option.bind_some, Option.map_some]
        cases compM f ys a.2 <;> simp
theorem compM_take {f : D → En → Option (Option D × En)} {xs : List D} {env : En} {r : List D × En} (h : compM f xs env = some r) {i : Nat} {x : D} (hx : xs[i]? = some x) :
    ∃ a y, compM f (xs.take i) env = some a ∧ f x a.2 = some y ∧ compM f (xs.take (i + 1)) env = some (a.1 ++ y.1.toList, y.2) := by
  have e1 : xs = xs.take (i + 1) ++ xs.drop (i + 1) := (List.take_append_drop _ _).symm
  rw [e1, compM_append] at h
  obtain ⟨a1, h1, _⟩ := bind_some h
  have e2 : xs.take (i + 1) = xs.take i ++ [x] := by rw [List.take_add_one, hx]; rfl
  rw [e2, compM_append] at h1 ⊢
  obtain ⟨a, ha, h2⟩ := bind_some h1
  obtain ⟨b, hb, rfl⟩ := map_some h2
  simp only [compM] at hb
  obtain ⟨y, hy, hb⟩ := bind_some hb
  refine ⟨a, y, ha, hy, ?_⟩
  rw [ha]
  simp [compM, hy]
theorem compM_len {f : D → En → Option (Option D × En)} : ∀ {xs : List D} {env : En} {r : List D × En}, compM f xs env = some r → r.1.length ≤ xs.length
  | [], _, r, h => by cases h; simp
  | x :: xs, env, r, h => by
    simp only [compM] at h
    obtain ⟨y, _, h⟩ := bind_some h
    obtain ⟨ys, h2, rfl⟩ := map_some h
    have := compM_len h2
    cases y.1 <;> simp <;> omega
def turnM (m vs : List Nat) (Gt : D → En → Option En) (Ft : En → Option (Bool × En)) (Fe : En → Option (D × En)) : D → En → Option (Option D × En) := fun d env => (Gt d (wipeE env vs)).bind fun e => (Ft e).bind fun b =>
  if b.1 = true then (Fe b.2).map fun r => (some r.1, back m env r.2) else some (none, back m env b.2)
def lcG (m vs : List Nat) (Fi : En → Option (List D × En)) (Gt : D → En → Option En) (Ft : En → Option (Bool × En)) (Fe : En → Option (D × En)) : En → Option (D × En) := fun env => (Fi env).bind fun ds =>
  (compM (turnM m vs Gt Ft Fe) ds.1 ds.2).map fun r => (.list r.1, r.2)
def SemF (K : PySem.W.Frag) (m : List Nat) (t : TE) (G : En → Option (D × En)) : Prop := ∀ env σ S H, Rel K m env σ S H → ∀ d env', G env = some (d, env') →
  ∀ Q : VK, (∀ p vs ds S' H', d = .list ds → Gm (Own m σ) S H S' H' → Rel K m env' σ S' H' → H p = none → S' p = none → H' p = some (.lst vs) → RpAll K S' vs ds → Q (.ref p) H') → t σ H Q
theorem Rel.pub {env : En} {σ : SL} {S H : Hp} (R : Rel K m env σ S H) {p : Addr} {vs : List V} (h1 : S p = none) (h2 : H p = some (.lst vs)) (h3 : ¬ Own m σ p) : Rel K m env σ (upd S p (.lst vs)) H :=
  ⟨fun a o e => by
    by_cases c : a = p
    · subst c; rw [upd_same] at e; cases e; exact h2
    · rw [upd_ne c] at e; exact R.ex a o e, R.sz, R.len, fun i d hi e => let ⟨v, q1, q2⟩ := R.sh i d hi e; ⟨v, q1, q2.mono (Ex.new h1)⟩, fun i hi =>
    let ⟨p', vs', ds', q1, q2, q3, q4, q5⟩ := R.ow i hi
    have hne : p' ≠ p := fun e => h3 ⟨i, hi, e ▸ q2⟩
    ⟨p', vs', ds', q1, q2, by rw [upd_ne hne]; exact q3, q4, q5.mono (Ex.new h1)⟩, R.inj⟩
theorem Rel.notOwn {env : En} {σ : SL} {S H : Hp} (R : Rel K m env σ S H) {p : Addr} (h : H p = none) : ¬ Own m σ p := fun ⟨i, hi, e⟩ => by
  obtain ⟨p', vs, ds, _, h2, _, h4, _⟩ := R.ow i hi
  rw [e] at h2; cases h2
  rw [h] at h4; cases h4
theorem Gm.pub {O : Addr → Prop} {S H S' H' : Hp} (g : Gm O S H S' H') {p : Addr} {o : HO} (h : H p = none) (h1 : S' p = none) : Gm O S H (upd S' p o) H' :=
  ⟨g.s.trans (Ex.new h1), g.h, fun a n ha => by
    have : a ≠ p := fun e => ha (e ▸ h)
    rw [upd_ne this]; exact g.n a n ha, g.d⟩
theorem SemF.sem {te : TE} {G : En → Option (D × En)} (h : SemF K m te G) : Sem K m te G := fun env σ S H R d env' e Q q => h env σ S H R d env' e Q fun p vs ds S' H' hd g R' h1 h2 h3 h4 => by
  subst hd
  exact q _ (upd S' p (.lst vs)) H' (g.pub h1 h2) (R'.pub h2 h3 (R.notOwn h1)) (.lst upd_same (h4.mono (Ex.new h2)))
theorem semF_lc {wi : TI} {g : TG} {tt : TT} {te : TE} {vs ts : List Nat} {Fi : En → Option (List D × En)} {Gt : D → En → Option En} {Ft : En → Option (Bool × En)} {Fe : En → Option (D × En)}
    (hi : SemI K m wi Fi) (hg : SemG K m ts g Gt) (ht : SemT K m tt Ft) (he : Sem K m te Fe) (hv : ∀ i, i ∈ m → i ∉ vs) (hts : ∀ i, i ∈ ts → i ∈ vs) : SemF K m (tLc wi g tt te vs) (lcG m vs Fi Gt Ft Fe) := fun env σ S H R d env' e Q q => by
  obtain ⟨⟨ds, env1⟩, eds, e⟩ := bind_some e
  obtain ⟨res, hres, e⟩ := map_some e
  cases e
  refine hi env σ S H R ds env1 eds _ fun J S1 H1 k1 R1 hsz hw Dl hD => ?_
  obtain ⟨G, Y, W, hG, hY⟩ := hw
  have hS : S1 Dl = none := ex_free R1.ex hD
  have nO : ∀ {S' H' e'}, Rel K m e' σ S' H' → S' Dl = none → H1 Dl = none → ¬ Own m σ Dl := fun {S' H' e'} R' _ _ ⟨i, hi, hp⟩ => by
    obtain ⟨p, ws, as, _, h2, _, h4, _⟩ := R1.ow i hi
    rw [hp] at h2; cases h2
    rw [hD] at h4; cases h4
  refine lc_it W (fun i H' => ∃ S' e' acc as, Gm (Own m σ) S1 H1 S' H' ∧ Rel K m e' σ S' H' ∧ S' Dl = none ∧ H' Dl = some (.lst acc) ∧ RpAll K S' acc as ∧ compM (turnM m vs Gt Ft Fe) (ds.take i) env1 = some (as, e'))
    ⟨S1, env1, [], [], ⟨Ex.refl _, fun a o e _ => by rw [upd_ne (ne_of_none e hD)]; exact e, fun _ _ _ => rfl, fun a ha => by
      have : a ≠ Dl := fun e => ha (e ▸ hD)
      rw [upd_ne this]; exact ha⟩, ?_, hS, upd_same, .nil, rfl⟩ (fun i H' _ p => ?_) (fun i x H2 H3 hlt p y => ?_) (fun H' p => ?_)
  · exact R1.gz ⟨Ex.refl _, Ex.new hD, fun _ _ => rfl, fun a o e => by
      rw [upd_ne (ne_of_none e hS)]
      exact R1.ex a o e, R1.sz.upd (by show 0 ≤ sizeLine; omega)⟩
  · obtain ⟨S', e', acc, as, g1, R', _⟩ := p
    exact hG H' (g1.s.trans R'.ex)
  · obtain ⟨S2, ee, acc, as, g1, R2, h2, h3, h4, h5⟩ := p
    have nD := nO R2 h2 hD
    have hx : ds[i]? = some ds[i] := List.getElem?_eq_getElem hlt
    obtain ⟨a', y', c1, c2, c3⟩ := compM_take hres hx
    rw [h5] at c1; cases c1
    obtain ⟨S3, g3, r3⟩ := hY i S2 H2 x H3 _ hx g1.s R2.ex R2.sz y
    obtain ⟨e2, ge, c2⟩ := bind_some c2
    obtain ⟨⟨b, eb⟩, tb, c2⟩ := bind_some c2
    have R3' := R2.gz g3
    have R3 := R3'.wipe hv
    refine hg _ _ S3 H3 R3 x _ e2 r3 ge _ fun σ2 hl2 hf2 hm2 R4 => ⟨?_, ?_⟩
    · rw [wipe_eq (σ := wipe σ vs) hl2 fun i hi => hf2 i fun z => hi (hts i z)]
      exact wipe_eq (wipe_length _ _) fun i hi => wipe_out hi
    · have hmσ : ∀ i, i ∈ m → σ2[i]? = σ[i]? := fun i hi => (hm2 i hi).trans (wipe_out (hv i hi))
      have hO : ∀ a, Own m σ2 a → Own m σ a := fun a ⟨i, hi, hp⟩ => ⟨i, hi, (hmσ i hi).symm.trans hp⟩
      have hlσ : σ2.length = σ.length := hl2.trans (wipe_length _ _)
      refine ht e2 σ2 S3 H3 R4 b eb tb _ fun S4 H4 k4' R5 => ?_
      have k4 := k4'.mono hO
      have g4 := (g1.trans g3.gm).trans k4
      have hD4 : H4 Dl = some (.lst acc) := k4.h _ _ (g3.h _ _ h3) nD
      have hS4 : S4 Dl = none := by
        rw [k4.n Dl nD (by rw [g3.h _ _ h3]; simp), g3.n Dl (by rw [h3]; simp)]
        exact h2
      cases b with
      | false =>
        simp at c2
        subst c2
        exact ⟨S4, _, acc, as, g4, R3'.back R5 k4.s hmσ hlσ, hS4, hD4, h4.mono (g3.s.trans k4.s), by simpa using c3⟩
      | true =>
        simp only [if_true] at c2 ⊢
        obtain ⟨⟨z, ez'⟩, ez, rfl⟩ := map_some c2
        refine he eb σ2 S4 H4 R5 z ez' ez _ fun w S5 H5 k5' R6 r5 => ?_
        have k5 := k5'.mono hO
        have g5 := g4.trans k5
        have hD5 : H5 Dl = some (.lst acc) := k5.h _ _ hD4 nD
        have hS5 : S5 Dl = none := by rw [k5.n Dl nD (by rw [hD4]; simp)]; exact hS4
        have hlen : acc.length < sizeLine := by
          have h6 := compM_len h5
          rw [List.length_take] at h6
          rw [h4.length]
          simp at h6
          omega
        have R7 := R3'.back R6 (k4.s.trans k5.s) hmσ hlσ
        refine ⟨acc, hD5, hlen, S5, _, acc ++ [w], as ++ [z], ⟨g5.s, fun a o e n => ?_, g5.n, fun a ha => ?_⟩, ?_, hS5, upd_same, ((h4.mono ((g3.s.trans k4.s).trans k5.s)).append (.cons r5 .nil)), by simpa using c3⟩
        · rw [upd_ne (ne_of_none e hD)]
          exact g5.h a o e n
        · have : a ≠ Dl := fun e => ha (e ▸ hD)
          rw [upd_ne this]
          exact g5.d a ha
        · refine ⟨fun a o e => ?_, R7.sz.upd (by show (acc ++ [w]).length ≤ sizeLine; simp; omega), R7.len, R7.sh, fun i hi => ?_, R7.inj⟩
          · rw [upd_ne (ne_of_none e hS5)]
            exact R7.ex a o e
          · obtain ⟨p, ws, es, q1, q2, q3, q4, q5⟩ := R7.ow i hi
            have : p ≠ Dl := fun e => nD ⟨i, hi, e ▸ q2⟩
            exact ⟨p, ws, es, q1, q2, q3, by rw [upd_ne this]; exact q4, q5⟩
  · obtain ⟨S2, ee, acc, as, g1, R2, h2, h3, h4, h5⟩ := p
    have nD := nO R2 h2 hD
    rw [List.take_length, hres] at h5
    cases h5
    refine q Dl acc _ S2 H' rfl (k1.trans g1) R2 ?_ h2 h3 h4
    cases c : H Dl with
    | none => rfl
    | some u => exact absurd hD (k1.d Dl (by rw [c]; simp))
theorem sem_lc {wi : TI} {g : TG} {tt : TT} {te : TE} {vs ts : List Nat} {Fi : En → Option (List D × En)} {Gt : D → En → Option En} {Ft : En → Option (Bool × En)} {Fe : En → Option (D × En)}
    (hi : SemI K m wi Fi) (hg : SemG K m ts g Gt) (ht : SemT K m tt Ft) (he : Sem K m te Fe) (hv : ∀ i, i ∈ m → i ∉ vs) (hts : ∀ i, i ∈ ts → i ∈ vs) : Sem K m (tLc wi g tt te vs) (lcG m vs Fi Gt Ft Fe) := SemF.sem (te := tLc wi g tt te vs) (semF_lc hi hg ht he hv hts)
end
end CS

/-! CsC: statements, loops, defs. -/
namespace CS
open PySem PySem.Spec PyProof.Rows L2
open Evl (Ex ex_l ex_t)
theorem ne_mem {m : List Nat} {i j : Nat} (hi : i ∈ m) (hj : j ∉ m) : j ≠ i := fun e => hj (e ▸ hi)
inductive Out where
  | nx (e : En)
  | rt (d : D) (own : List D)
  | bk (e : En)
  | ct (e : En)
structure Stp (pn m : List Nat) (σ : SL) (S H : Hp) (m' : List Nat) (σ' : SL) (S' H' : Hp) : Prop where
  g : Gm (Own m σ) S H S' H'
  o : ∀ a, Own m' σ' a → Own m σ a ∨ H a = none
  k : ∀ i, i ∈ pn → σ'[i]? = σ[i]?
structure RelP (K : PySem.W.Frag) (pn : List Nat) (own : List D) (σ : SL) (S H : Hp) : Prop where
  ex : Ex S H
  sz : SzH H
  len : own.length = pn.length
  ow : ∀ (k i : Nat), pn[k]? = some i → ∃ (p : Addr) (vs : List V) (ds : List D), own[k]? = some (.list ds) ∧ σ[i]? = some (some (.ref p)) ∧ S p = none ∧ H p = some (.lst vs) ∧ RpAll K S vs ds
/-- a value handed back: shared data, or (fr) a list that no one else has -/
def RetV (K : PySem.W.Frag) (fr : Bool) (pn m : List Nat) (σ : SL) (H : Hp) (σ' : SL) (S' H' : Hp) (v : V) (d : D) : Prop :=
  if fr = true then ∃ p vs ds, d = .list ds ∧ v = .ref p ∧ (Own m σ p ∨ H p = none) ∧ (∀ i, i ∈ pn → σ'[i]? ≠ some (some (.ref p))) ∧ S' p = none ∧ H' p = some (.lst vs) ∧ RpAll K S' vs ds else Rp K S' v d
def Post (K : PySem.W.Frag) (fr : Bool) (pn m ml m' : List Nat) (σ : SL) (S H : Hp) (E : Ends) : Out → Prop
  | .nx e => ∀ σ' S' H', Stp pn m σ S H m' σ' S' H' → Rel K m' e σ' S' H' → E.nx σ' H'
  | .rt d own => ∀ v σ' S' H', Gm (Own m σ) S H S' H' → (∀ i, i ∈ pn → σ'[i]? = σ[i]?) → RelP K pn own σ' S' H' → RetV K fr pn m σ H σ' S' H' v d → E.rt v H'
  | .bk e => ∀ σ' S' H', Stp pn m σ S H ml σ' S' H' → Rel K ml e σ' S' H' → E.bk σ' H'
  | .ct e => ∀ σ' S' H', Stp pn m σ S H ml σ' S' H' → Rel K ml e σ' S' H' → E.ct σ' H'
def SemS (K : PySem.W.Frag) (fr : Bool) (pn m ml m' : List Nat) (t : TS) (F : En → Option Out) : Prop := ∀ env σ S H, Rel K m env σ S H → ∀ o, F env = some o →
  ∀ E : Ends, Post K fr pn m ml m' σ S H E o → t E σ H
section
variable {K : PySem.W.Frag} {fr : Bool} {pn m m1 m' ml : List Nat} {σ σ1 σ2 : SL} {S H S1 H1 S2 H2 : Hp}
theorem Stp.refl : Stp pn m σ S H m σ S H := ⟨Gm.refl, fun _ h => .inl h, fun _ _ => rfl⟩
theorem Stp.trans (a : Stp pn m σ S H m1 σ1 S1 H1) (b : Stp pn m1 σ1 S1 H1 m' σ2 S2 H2) : Stp pn m σ S H m' σ2 S2 H2 :=
  ⟨a.g.then a.o b.g, fun c hc => (b.o c hc).elim (fun z => a.o c z) fun z => .inr (by
    cases q : H c with
    | none => rfl
    | some u => exact absurd z (a.g.d c (by rw [q]; simp))), fun i hi => (b.k i hi).trans (a.k i hi)⟩
theorem Stp.back (a : Stp pn m σ S H m1 σ1 S1 H1) (a' : H1 = H1) {c : Addr} (h : Own m1 σ1 c ∨ H1 c = none) : Own m σ c ∨ H c = none := h.elim (fun z => a.o c z) fun z => .inr (by
    cases q : H c with
    | none => rfl
    | some u => exact absurd z (a.g.d c (by rw [q]; simp)))
theorem RetV.before (a : Stp pn m σ S H m1 σ1 S1 H1) {σ' : SL} {S' H' : Hp} {v : V} {d : D} (h : RetV K fr pn m1 σ1 H1 σ' S' H' v d) : RetV K fr pn m σ H σ' S' H' v d := by
  unfold RetV at h ⊢
  cases fr with
  | false => exact h
  | true =>
    simp only [if_true] at h ⊢
    obtain ⟨p, vs, ds, h1, h2, h3, h4⟩ := h
    exact ⟨p, vs, ds, h1, h2, a.back rfl h3, h4⟩
/-- what is wanted behind a later state is what was wanted -/
theorem Post.after {E : Ends} (a : Stp pn m σ S H m1 σ1 S1 H1) {o : Out} (h : Post K fr pn m ml m' σ S H E o) : Post K fr pn m1 ml m' σ1 S1 H1 E o := by
  cases o with
  | nx e => exact fun σ' S' H' st R => h σ' S' H' (a.trans st) R
  | rt d own => exact fun v σ' S' H' g k P r => h v σ' S' H' (a.g.then a.o g) (fun i hi => (k i hi).trans (a.k i hi)) P (r.before a)
  | bk e => exact fun σ' S' H' st R => h σ' S' H' (a.trans st) R
  | ct e => exact fun σ' S' H' st R => h σ' S' H' (a.trans st) R
end
def fSeq (F1 F2 : En → Option Out) : En → Option Out := fun env => (F1 env).bind fun o => match o with
  | .nx e => F2 e
  | o => some o
def fNext : En → Option Out := fun env => some (.nx env)
section
variable {K : PySem.W.Frag} {fr : Bool} {pn m m1 m' ml : List Nat} {t u : TS} {F1 F2 : En → Option Out}
theorem semS_seq (h1 : SemS K fr pn m ml m1 t F1) (h2 : SemS K fr pn m1 ml m' u F2) : SemS K fr pn m ml m' (tSeq t u) (fSeq F1 F2) := fun env σ S H R o e E q => by
  obtain ⟨o1, e1, e⟩ := bind_some e
  refine h1 env σ S H R o1 e1 _ ?_
  cases o1 with
  | nx en => exact fun σ1 S1 H1 st R1 => h2 en σ1 S1 H1 R1 o e E (q.after st)
  | rt d own => cases e; exact q
  | bk en => cases e; exact q
  | ct en => cases e; exact q
theorem semS_next : SemS K fr pn m ml m tNext fNext := fun env σ S H R o e E q => by
  cases e
  exact q σ S H Stp.refl R
theorem semS_never : SemS K fr pn m ml m' tNever (fun _ => none) := fun env σ S H R o e E q => by cases e
theorem semS_break : SemS K fr pn m m m' tBreak (fun env => some (.bk env)) := fun env σ S H R o e E q => by
  cases e
  exact q σ S H Stp.refl R
theorem semS_cont : SemS K fr pn m m m' tCont (fun env => some (.ct env)) := fun env σ S H R o e E q => by
  cases e
  exact q σ S H Stp.refl R
/-! if -/
def sIf (Ft : En → Option (Bool × En)) (F1 F2 : En → Option Out) : En → Option Out := fun env => (Ft env).bind fun b => if b.1 = true then F1 b.2 else F2 b.2
def sIfP (Ft : En → Option Bool) (F1 F2 : En → Option Out) : En → Option Out := fun env => (Ft env).bind fun b => if b = true then F1 env else F2 env
theorem stp_e {σ : SL} {S H S' H' : Hp} (g : Gm (Own m σ) S H S' H') : Stp pn m σ S H m σ S' H' := ⟨g, fun _ h => .inl h, fun _ _ => rfl⟩
theorem semS_if {tt : TT} {Ft : En → Option (Bool × En)} (h : SemT K m tt Ft) (h1 : SemS K fr pn m ml m' t F1) (h2 : SemS K fr pn m ml m' u F2) : SemS K fr pn m ml m' (tIfS tt t u) (sIf Ft F1 F2) := fun env σ S H R o e E q => by
  obtain ⟨⟨b, e1⟩, eb, e⟩ := bind_some e
  refine h env σ S H R b e1 eb _ fun S1 H1 g R1 => ?_
  cases b with
  | true => exact h1 e1 σ S1 H1 R1 o e E (q.after (stp_e g))
  | false => exact h2 e1 σ S1 H1 R1 o e E (q.after (stp_e g))
theorem semS_ifP {tt : TT} {Ft : En → Option Bool} (h : SemPT K m tt Ft) (h1 : SemS K fr pn m ml m' t F1) (h2 : SemS K fr pn m ml m' u F2) : SemS K fr pn m ml m' (tIfS tt t u) (sIfP Ft F1 F2) := fun env σ S H R o e E q => by
  obtain ⟨b, eb, e⟩ := bind_some e
  refine h env σ S H R b eb _ fun S1 H1 g => ?_
  cases b with
  | true => exact h1 env σ S1 H1 (R.gz g) o e E (q.after (stp_e g.gm))
  | false => exact h2 env σ S1 H1 (R.gz g) o e E (q.after (stp_e g.gm))
/-! assignment -/
def sAsg (Fe : En → Option (D × En)) (Gt : D → En → Option En) : En → Option Out := fun env => (Fe env).bind fun r => (Gt r.1 r.2).map .nx
def sAsgP (Fe : En → Option D) (Gt : D → En → Option En) : En → Option Out := fun env => (Fe env).bind fun r => (Gt r env).map .nx
theorem own_same {σ σ' : SL} (h : ∀ i, i ∈ m → σ'[i]? = σ[i]?) {a : Addr} (o : Own m σ' a) : Own m σ a := let ⟨i, hi, e⟩ := o; ⟨i, hi, (h i hi).symm.trans e⟩
theorem semS_asg {te : TE} {g : TG} {Fe : En → Option (D × En)} {ts : List Nat} {Gt : D → En → Option En} (h : Sem K m te Fe) (hg : SemG K m ts g Gt) (hp : ∀ i, i ∈ pn → i ∉ ts) : SemS K fr pn m ml m (tAsg te g) (sAsg Fe Gt) := fun env σ S H R o e E q => by
  obtain ⟨⟨d, e1⟩, ed, e⟩ := bind_some e
  obtain ⟨e2, eg, rfl⟩ := map_some e
  exact h env σ S H R d e1 ed _ fun v S1 H1 g1 R1 r => hg e1 σ S1 H1 R1 v d e2 r eg _ fun σ' hl hf hm R2 => q σ' S1 H1 ⟨g1, fun a o => .inl (own_same hm o), fun i hi => hf i (hp i hi)⟩ R2
theorem semS_asgP {te : TE} {g : TG} {Fe : En → Option D} {ts : List Nat} {Gt : D → En → Option En} (h : SemP K m te Fe) (hg : SemG K m ts g Gt) (hp : ∀ i, i ∈ pn → i ∉ ts) : SemS K fr pn m ml m (tAsg te g) (sAsgP Fe Gt) := fun env σ S H R o e E q => by
  obtain ⟨d, ed, e⟩ := bind_some e
  obtain ⟨e2, eg, rfl⟩ := map_some e
  exact h env σ S H R d ed _ fun v S1 H1 g1 r => hg env σ S1 H1 (R.gz g1) v d e2 r eg _ fun σ' hl hf hm R2 => q σ' S1 H1 ⟨g1.gm, fun a o => .inl (own_same hm o), fun i hi => hf i (hp i hi)⟩ R2
/-- an expression dropped -/
def sDrop (Fe : En → Option (D × En)) : En → Option Out := fun env => (Fe env).map fun r => .nx r.2
theorem semS_drop {te : TE} {Fe : En → Option (D × En)} (h : Sem K m te Fe) : SemS K fr pn m ml m (tDrop te) (sDrop Fe) := fun env σ S H R o e E q => by
  obtain ⟨⟨d, e1⟩, ed, rfl⟩ := map_some e
  exact h env σ S H R d e1 ed _ fun v S1 H1 g1 R1 r => q σ S1 H1 (stp_e g1) R1
/-- a, b = x, y -/
def sPar (i j : Nat) (Fa : En → Option (List D × En)) : En → Option Out := fun env => (Fa env).bind fun r => match r.1 with
  | [a, b] => some (.nx (setE j b (setE i a r.2)))
  | _ => none
theorem semS_par {i j : Nat} {ta : TA} {Fa : En → Option (List D × En)} (h : SemA K m ta Fa) (hi : i ∉ m) (hj : j ∉ m) (hp : ∀ k, k ∈ pn → k ≠ i ∧ k ≠ j) : SemS K fr pn m ml m (tPar i j ta) (sPar i j Fa) := fun env σ S H R o e E q => by
  obtain ⟨⟨ds, e1⟩, ed, e⟩ := bind_some e
  refine h env σ S H R ds e1 ed _ fun vs S1 H1 g1 R1 r => ?_
  dsimp only at e
  split at e
  · rename_i a b
    cases e
    obtain ⟨v, w, rfl, ra, rb⟩ := r.two_inv
    refine ⟨v, w, rfl, q _ S1 H1 ⟨g1, fun c o => .inl (own_same (fun k hk => ?_) o), fun k hk => ?_⟩ ((R1.set hi ra).set hj rb)⟩
    · rw [List.getElem?_set_ne (ne_mem hk hj), List.getElem?_set_ne (ne_mem hk hi)]
    · rw [List.getElem?_set_ne (Ne.symm (hp k hk).2), List.getElem?_set_ne (Ne.symm (hp k hk).1)]
  · cases e
/-- x op= e -/
def sAug (i : Nat) (g : D → D → Option D) (Fe : En → Option (D × En)) : En → Option Out := fun env => (gv i env).bind fun a => (Fe env).bind fun r => (g a r.1).map fun z => .nx (setE i z r.2)
theorem gv_some {i : Nat} {env : En} {d : D} (h : gv i env = some d) : env[i]? = some (some d) := by
  unfold gv at h
  split at h
  · cases h; assumption
  · cases h
theorem semS_aug {i : Nat} {te : TE} {ti : R2} {g : D → D → Option D} {Fe : En → Option (D × En)} (ho : OpD K ti g) (h : Sem K m te Fe) (hi : i ∉ m) (hp : i ∉ pn) : SemS K fr pn m ml m (tAug i te ti) (sAug i g Fe) := fun env σ S H R o e E q => by
  obtain ⟨a, ea, e⟩ := bind_some e
  obtain ⟨⟨b, e1⟩, eb, e⟩ := bind_some e
  obtain ⟨z, ez, rfl⟩ := map_some e
  obtain ⟨v, h1, h2⟩ := R.sh i a hi (gv_some ea)
  refine ⟨v, h1, h env σ S H R b e1 eb _ fun w S1 H1 g1 R1 r => ho S1 H1 v w a b z R1.ex R1.sz (h2.mono g1.s) r ez _ fun y S2 H2 g2 r2 => q _ S2 H2 ⟨g1.trans g2.gm, fun c o => .inl (own_same (fun k hk => ?_) o), fun k hk => ?_⟩ ((R1.gz g2).set hi r2)⟩
  · rw [List.getElem?_set_ne (ne_mem hk hi)]
  · rw [List.getElem?_set_ne (ne_mem hk hp)]
/-! return -/
def owns (pn : List Nat) (env : En) : Option (List D) := pn.mapM fun i => gv i env
theorem owns_get : ∀ {pn : List Nat} {env : En} {own : List D}, owns pn env = some own → own.length = pn.length ∧ ∀ (k i : Nat), pn[k]? = some i → ∃ d, own[k]? = some d ∧ gv i env = some d
  | [], env, own, h => by
    simp [owns] at h
    subst h
    exact ⟨rfl, fun k i e => by simp at e⟩
  | j :: pn, env, own, h => by
    simp only [owns, List.mapM_cons] at h
    cases hj : gv j env with
    | none => simp [hj] at h
    | some d =>
      rw [hj] at h
      have h : (List.mapM (fun i => gv i env) pn).bind (fun r => some (d :: r)) = some own := h
      obtain ⟨r, hr, h⟩ := bind_some h
      cases h
      obtain ⟨l, f⟩ := owns_get (pn := pn) (env := env) (own := r) hr
      refine ⟨by simp [l], fun k i e => ?_⟩
      cases k with
      | zero => simp at e; subst e; exact ⟨d, by simp, hj⟩
      | succ k =>
        simp at e
        obtain ⟨z, h1, h2⟩ := f k i e
        exact ⟨z, by simpa using h1, h2⟩
theorem Rel.relP {env : En} {σ : SL} {S H : Hp} {own : List D} (R : Rel K m env σ S H) (ho : owns pn env = some own) (hp : ∀ i, i ∈ pn → i ∈ m) : RelP K pn own σ S H := by
  obtain ⟨l, f⟩ := owns_get ho
  refine ⟨R.ex, R.sz, l, fun k i e => ?_⟩
  have hi : i ∈ pn := List.mem_of_getElem? e
  obtain ⟨p, vs, ds, h1, h2, h3, h4, h5⟩ := R.ow i (hp i hi)
  obtain ⟨d, e1, e2⟩ := f k i e
  have := gv_some e2
  rw [h1] at this
  cases this
  exact ⟨p, vs, ds, e1, h2, h3, h4, h5⟩
def sRet (pn : List Nat) (Fe : En → Option (D × En)) : En → Option Out := fun env => (Fe env).bind fun r => (owns pn r.2).map fun own => .rt r.1 own
def sRetP (pn : List Nat) (Fe : En → Option D) : En → Option Out := fun env => (Fe env).bind fun r => (owns pn env).map fun own => .rt r own
theorem semS_ret {te : TE} {Fe : En → Option (D × En)} (h : Sem K m te Fe) (hp : ∀ i, i ∈ pn → i ∈ m) : SemS K false pn m ml m' (tRet te) (sRet pn Fe) := fun env σ S H R o e E q => by
  obtain ⟨⟨d, e1⟩, ed, e⟩ := bind_some e
  obtain ⟨own, eo, rfl⟩ := map_some e
  exact h env σ S H R d e1 ed _ fun v S1 H1 g1 R1 r => q v σ S1 H1 g1 (fun _ _ => rfl) (R1.relP eo hp) (by unfold RetV; simpa using r)
theorem semS_retP {te : TE} {Fe : En → Option D} (h : SemP K m te Fe) (hp : ∀ i, i ∈ pn → i ∈ m) : SemS K false pn m ml m' (tRet te) (sRetP pn Fe) := fun env σ S H R o e E q => by
  obtain ⟨d, ed, e⟩ := bind_some e
  obtain ⟨own, eo, rfl⟩ := map_some e
  exact h env σ S H R d ed _ fun v S1 H1 g1 r => q v σ S1 H1 g1.gm (fun _ _ => rfl) ((R.gz g1).relP eo hp) (by unfold RetV; simpa using r)
theorem semS_retN (hp : ∀ i, i ∈ pn → i ∈ m) : SemS K false pn m ml m' tRetN (fun env => (owns pn env).map fun own => .rt .none own) := fun env σ S H R o e E q => by
  obtain ⟨own, eo, rfl⟩ := map_some e
  exact q .non σ S H Gm.refl (fun _ _ => rfl) (R.relP eo hp) (by unfold RetV; simpa using Rp.non)
/-- return of an owned list -/
def sRetO (pn : List Nat) (j : Nat) : En → Option Out := fun env => (gv j env).bind fun d => (owns pn env).map fun own => .rt d own
theorem semS_retO {j : Nat} (hj : j ∈ m) (hjp : j ∉ pn) (hp : ∀ i, i ∈ pn → i ∈ m) : SemS K true pn m ml m' (tRet (tVar j)) (sRetO pn j) := fun env σ S H R o e E q => by
  obtain ⟨d, ed, e⟩ := bind_some e
  obtain ⟨own, eo, rfl⟩ := map_some e
  obtain ⟨p, vs, ds, h1, h2, h3, h4, h5⟩ := R.ow j hj
  have := gv_some ed
  rw [h1] at this
  cases this
  refine ⟨.ref p, h2, q (.ref p) σ S H Gm.refl (fun _ _ => rfl) (R.relP eo hp) ?_⟩
  unfold RetV
  rw [if_pos rfl]
  exact ⟨p, vs, ds, rfl, rfl, .inl ⟨j, hj, h2⟩, fun i hi e => hjp (R.inj j i p hj (hp i hi) h2 e ▸ hi), h3, h4, h5⟩
/-! an owned list becomes shared -/
theorem Rel.share {env : En} {σ : SL} {S H : Hp} (R : Rel K m env σ S H) {j : Nat} (hj : j ∈ m) : ∃ S', Gm (Own m σ) S H S' H ∧ (∀ a, S' a ≠ S a → σ[j]? = some (some (.ref a))) ∧ Rel K (m.filter (· ≠ j)) env σ S' H := by
  obtain ⟨p, vs, ds, h1, h2, h3, h4, h5⟩ := R.ow j hj
  have mem : ∀ i, i ∈ m.filter (· ≠ j) ↔ i ∈ m ∧ i ≠ j := fun i => by simp
  refine ⟨upd S p (.lst vs), ⟨Ex.new h3, fun _ _ e _ => e, fun a n ha => ?_, fun _ h => h⟩, fun a ha => ?_, ⟨fun a o e => ?_, R.sz, R.len, fun i d hi e => ?_, fun i hi => ?_, fun i k q hi hk => R.inj i k q ((mem i).mp hi).1 ((mem k).mp hk).1⟩⟩
  · have : a ≠ p := fun e => n ⟨j, hj, e ▸ h2⟩
    rw [upd_ne this]
  · by_cases c : a = p
    · rw [c]; exact h2
    · rw [upd_ne c] at ha; exact absurd rfl ha
  · by_cases c : a = p
    · subst c; rw [upd_same] at e; cases e; exact h4
    · rw [upd_ne c] at e; exact R.ex a o e
  · by_cases c : i = j
    · subst c
      rw [h1] at e; cases e
      exact ⟨.ref p, h2, .lst upd_same (h5.mono (Ex.new h3))⟩
    · obtain ⟨v, q1, q2⟩ := R.sh i d (fun z => hi ((mem i).mpr ⟨z, c⟩)) e
      exact ⟨v, q1, q2.mono (Ex.new h3)⟩
  · obtain ⟨hi1, hi2⟩ := (mem i).mp hi
    obtain ⟨p', vs', ds', q1, q2, q3, q4, q5⟩ := R.ow i hi1
    have : p' ≠ p := fun e => hi2 (R.inj i j p hi1 hj (e ▸ q2) h2)
    exact ⟨p', vs', ds', q1, q2, by rw [upd_ne this]; exact q3, q4, q5.mono (Ex.new h3)⟩
theorem Rel.stpShare {env : En} {σ : SL} {S H : Hp} (R : Rel K m env σ S H) {j : Nat} (hj : j ∈ m) : ∃ S', Stp pn m σ S H (m.filter (· ≠ j)) σ S' H ∧ Rel K (m.filter (· ≠ j)) env σ S' H := by
  obtain ⟨S', g, _, R'⟩ := R.share hj
  exact ⟨S', ⟨g, fun a ⟨i, hi, e⟩ => .inl ⟨i, (List.mem_filter.mp hi).1, e⟩, fun _ _ => rfl⟩, R'⟩
/-- behind a statement slot j is shared from now on -/
theorem semS_share {j : Nat} {m2 : List Nat} {F : En → Option Out} (h : SemS K fr pn m ml m' t F) (hj : j ∈ m') (hm : m2 = m'.filter (· ≠ j)) : SemS K fr pn m ml m2 t F := fun env σ S H R o e E q => by
  subst hm
  refine h env σ S H R o e E ?_
  cases o with
  | nx en =>
    intro σ1 S1 H1 st R1
    obtain ⟨S2, st2, R2⟩ := R1.stpShare (pn := pn) hj
    exact q σ1 S2 H1 (st.trans st2) R2
  | rt d own => exact q
  | bk en => exact q
  | ct en => exact q
/-- ahead of a statement -/
theorem semS_shareA {j : Nat} {m2 : List Nat} {F : En → Option Out} (h : SemS K fr pn m2 ml m' t F) (hj : j ∈ m) (hm : m2 = m.filter (· ≠ j)) : SemS K fr pn m ml m' t F := fun env σ S H R o e E q => by
  subst hm
  obtain ⟨S2, st2, R2⟩ := R.stpShare (pn := pn) hj
  exact h env σ S2 H R2 o e E (q.after st2)
/-- a slot is forgotten behind a statement -/
theorem Rel.forget {env : En} {σ : SL} {S H : Hp} (R : Rel K m env σ S H) {vs : List Nat} (hv : ∀ i, i ∈ m → i ∉ vs) : Rel K m (wipeE env vs) σ S H :=
  ⟨R.ex, R.sz, by rw [wipeE_length, R.len], fun i d hi e => R.sh i d hi (wipeE_some e).1, fun i hi => by
    rw [wipeE_out (hv i hi)]
    exact R.ow i hi, R.inj⟩
def sForget (vs : List Nat) (F : En → Option Out) : En → Option Out := fun env => (F env).map fun o => match o with
  | .nx e => .nx (wipeE e vs)
  | .ct e => .ct (wipeE e vs)
  | o => o
theorem semS_forget {vs : List Nat} {F : En → Option Out} (h : SemS K fr pn m ml m' t F) (h1 : ∀ i, i ∈ m' → i ∉ vs) (h2 : ∀ i, i ∈ ml → i ∉ vs) : SemS K fr pn m ml m' t (sForget vs F) := fun env σ S H R o e E q => by
  obtain ⟨o1, e1, rfl⟩ := map_some e
  refine h env σ S H R o1 e1 E ?_
  cases o1 with
  | nx en => exact fun σ1 S1 H1 st R1 => q σ1 S1 H1 st (R1.forget h1)
  | rt d own => exact q
  | bk en => exact q
  | ct en => exact fun σ1 S1 H1 st R1 => q σ1 S1 H1 st (R1.forget h2)
/-! loops -/
def forD (f : D → En → Option Out) : List D → En → Option Out
  | [], env => some (.nx env)
  | x :: xs, env => (f x env).bind fun o => match o with
    | .nx e => forD f xs e
    | .ct e => forD f xs e
    | .bk e => some (.nx e)
    | .rt d own => some (.rt d own)
def sFor (Fi : En → Option (List D × En)) (Gt : D → En → Option En) (Fb : En → Option Out) : En → Option Out := fun env => (Fi env).bind fun r => forD (fun x e => (Gt x e).bind Fb) r.1 r.2
theorem semS_for {wi : TI} {g : TG} {tb : TS} {ts : List Nat} {Fi : En → Option (List D × En)} {Gt : D → En → Option En} {Fb : En → Option Out} (hi : SemI K m wi Fi) (hg : SemG K m ts g Gt) (hb : SemS K fr pn m m m tb Fb) (hp : ∀ i, i ∈ pn → i ∉ ts) :
    SemS K fr pn m ml m (tFor wi g tb) (sFor Fi Gt Fb) := fun env σ S H R o e E q => by
  obtain ⟨⟨ds, env1⟩, eds, e⟩ := bind_some e
  refine hi env σ S H R ds env1 eds _ fun J S1 H1 k1 R1 hsz hw => ?_
  obtain ⟨G, Y, W, hG, hY⟩ := hw
  have st1 := stp_e (pn := pn) k1
  have q1 := q.after st1
  refine for_it W (fun i σ' H' => ∃ S' e', Stp pn m σ S1 H1 m σ' S' H' ∧ Rel K m e' σ' S' H' ∧ forD (fun x e => (Gt x e).bind Fb) (ds.drop i) e' = some o) ⟨S1, env1, Stp.refl, R1, e⟩ (fun i σ' H' _ p => ?_) (fun i x σ' H2 H3 hlt p y => ?_) (fun σ' H' p => ?_)
  · obtain ⟨S', e', st, R', _⟩ := p
    exact hG H' (st.g.s.trans R'.ex)
  · obtain ⟨S2, e2, st, R2, ho⟩ := p
    have hx : ds[i]? = some ds[i] := List.getElem?_eq_getElem hlt
    obtain ⟨S3, g3, r3⟩ := hY i S2 H2 x H3 _ hx st.g.s R2.ex R2.sz y
    rw [List.drop_eq_getElem_cons hlt] at ho
    simp only [forD] at ho
    obtain ⟨o1, ho1, ho⟩ := bind_some ho
    obtain ⟨e3, eg, eb⟩ := bind_some ho1
    have R3 := R2.gz g3
    refine hg e2 σ' S3 H3 R3 x _ e3 r3 eg _ fun σ2 hl hf hm R4 => ?_
    have st3 : Stp pn m σ S1 H1 m σ2 S3 H3 := st.trans ⟨g3.gm, fun a o => .inl (own_same hm o), fun i hi => hf i (hp i hi)⟩
    refine hb e3 σ2 S3 H3 R4 o1 eb _ ?_
    cases o1 with
    | nx e4 => exact fun σ5 S5 H5 st5 R5 => ⟨S5, e4, st3.trans st5, R5, ho⟩
    | ct e4 => exact fun σ5 S5 H5 st5 R5 => ⟨S5, e4, st3.trans st5, R5, ho⟩
    | bk e4 => cases ho; exact fun σ5 S5 H5 st5 R5 => q1 σ5 S5 H5 (st3.trans st5) R5
    | rt d own => cases ho; exact Post.after (K := K) (fr := fr) (ml := m) (m' := m) (E := E) st3 (o := .rt d own) q1
  · obtain ⟨S2, e2, st, R2, ho⟩ := p
    rw [List.drop_length] at ho
    cases ho
    exact q1 σ' S2 H' st R2
def whileD (Ft : En → Option (Bool × En)) (Fb : En → Option Out) : Nat → En → Option Out
  | 0, _ => none
  | n + 1, env => (Ft env).bind fun b => if b.1 = true then (Fb b.2).bind fun o => match o with
      | .nx e => whileD Ft Fb n e
      | .ct e => whileD Ft Fb n e
      | .bk e => some (.nx e)
      | .rt d own => some (.rt d own)
    else some (.nx b.2)
open Classical in
noncomputable def sWhile (Ft : En → Option (Bool × En)) (Fb : En → Option Out) : En → Option Out := fun env => if h : ∃ n o, whileD Ft Fb n env = some o then whileD Ft Fb (choose h) env else none
theorem whileD_mono {Ft : En → Option (Bool × En)} {Fb : En → Option Out} : ∀ (n : Nat) (env : En) (o : Out), whileD Ft Fb n env = some o → ∀ k, n ≤ k → whileD Ft Fb k env = some o
  | 0, _, _, h, _, _ => by cases h
  | n + 1, env, o, h, 0, hk => by omega
  | n + 1, env, o, h, k + 1, hk => by
    simp only [whileD] at h ⊢
    obtain ⟨b, hb, h⟩ := bind_some h
    rw [hb]
    simp only [Option.bind_some]
    by_cases c : b.1 = true
    · rw [if_pos c] at h ⊢
      obtain ⟨o1, h1, h⟩ := bind_some h
      rw [h1]
      simp only [Option.bind_some]
      cases o1 with
      | nx e => exact whileD_mono n e o h k (by omega)
      | ct e => exact whileD_mono n e o h k (by omega)
      | bk e => exact h
      | rt d own => exact h
    · rw [if_neg c] at h ⊢
      exact h
theorem sWhile_of {Ft : En → Option (Bool × En)} {Fb : En → Option Out} {n : Nat} {env : En} {o : Out} (h : whileD Ft Fb n env = some o) : sWhile Ft Fb env = some o := by
  have hx : ∃ n o, whileD Ft Fb n env = some o := ⟨n, o, h⟩
  unfold sWhile
  rw [dif_pos hx]
  obtain ⟨o', h'⟩ := Classical.choose_spec hx
  have a := whileD_mono _ _ _ h' (max n (Classical.choose hx)) (Nat.le_max_right _ _)
  have b := whileD_mono _ _ _ h (max n (Classical.choose hx)) (Nat.le_max_left _ _)
  rw [a] at b
  rw [h', b]
theorem sWhile_some {Ft : En → Option (Bool × En)} {Fb : En → Option Out} {env : En} {o : Out} (h : sWhile Ft Fb env = some o) : ∃ n, whileD Ft Fb n env = some o := by
  unfold sWhile at h
  split at h
  · exact ⟨_, h⟩
  · cases h
theorem semS_while {tt : TT} {tb : TS} {Ft : En → Option (Bool × En)} {Fb : En → Option Out} (ht : SemT K m tt Ft) (hb : SemS K fr pn m m m tb Fb) : SemS K fr pn m ml m (tWhile tt tb) (sWhile Ft Fb) := fun env σ S H R o e E q => by
  obtain ⟨n0, e⟩ := sWhile_some e
  refine ⟨fun n σ' H' => ∃ S' e', Stp pn m σ S H m σ' S' H' ∧ Rel K m e' σ' S' H' ∧ whileD Ft Fb n e' = some o, ⟨n0, S, env, Stp.refl, R, e⟩, fun n σ' H' p => ?_⟩
  obtain ⟨S2, e2, st, R2, ho⟩ := p
  cases n with
  | zero => cases ho
  | succ n =>
    simp only [whileD] at ho
    obtain ⟨⟨b, e3⟩, hb1, ho⟩ := bind_some ho
    refine ht e2 σ' S2 H' R2 b e3 hb1 _ fun S3 H3 g3 R3 => ?_
    have st3 := st.trans (stp_e (pn := pn) g3)
    cases b with
    | false =>
      simp at ho
      subst ho
      exact q σ' S3 H3 st3 R3
    | true =>
      simp only [if_true] at ho ⊢
      obtain ⟨o1, ho1, ho⟩ := bind_some ho
      refine ⟨fun σ4 H4 => ∃ S4 e4, Stp pn m σ S H m σ4 S4 H4 ∧ Rel K m e4 σ4 S4 H4 ∧ whileD Ft Fb n e4 = some o, fun σ4 H4 h4 => ⟨n, Nat.lt_succ_self n, h4⟩, hb e3 σ' S3 H3 R3 o1 ho1 _ ?_⟩
      cases o1 with
      | nx e4 => exact fun σ5 S5 H5 st5 R5 => ⟨S5, e4, st3.trans st5, R5, ho⟩
      | ct e4 => exact fun σ5 S5 H5 st5 R5 => ⟨S5, e4, st3.trans st5, R5, ho⟩
      | bk e4 => cases ho; exact fun σ5 S5 H5 st5 R5 => q σ5 S5 H5 (st3.trans st5) R5
      | rt d own => cases ho; exact Post.after (K := K) (fr := fr) (ml := m) (m' := m) (E := E) st3 (o := .rt d own) q
end
/-! ### fresh lists -/
section
variable {K : PySem.W.Frag} {fr : Bool} {pn m m1 m' ml : List Nat} {te : TE} {G : En → Option (D × En)}
/-- x = a fresh list: x owns it -/
def sAsgF (j : Nat) (G : En → Option (D × En)) : En → Option Out := fun env => (G env).bind fun r => if j < r.2.length then some (.nx (setE j r.1 r.2)) else none
theorem Rel.own {env : En} {σ : SL} {S H : Hp} (R : Rel K m env σ S H) {j : Nat} {p : Addr} {vs : List V} {ds : List D} (hj : j ∉ m) (hl : j < σ.length) (h2 : S p = none) (h3 : H p = some (.lst vs)) (h4 : RpAll K S vs ds) (hn : ¬ Own m σ p) :
    Rel K (j :: m) (env.set j (some (.list ds))) (σ.set j (some (.ref p))) S H := by
  have ne : ∀ i, i ∈ m → j ≠ i := fun i hi e => hj (e ▸ hi)
  refine ⟨R.ex, R.sz, by simp [R.len], fun i d hi e => ?_, fun i hi => ?_, fun i k q hi hk e1 e2 => ?_⟩
  · have h5 : j ≠ i := fun e => hi (by simp [e])
    rw [List.getElem?_set_ne h5] at e ⊢
    exact R.sh i d (fun z => hi (List.mem_cons_of_mem _ z)) e
  · by_cases c : j = i
    · subst c
      exact ⟨p, vs, ds, by rw [List.getElem?_set_self (by rw [R.len]; exact hl)], by rw [List.getElem?_set_self hl], h2, h3, h4⟩
    · rw [List.getElem?_set_ne c, List.getElem?_set_ne c]
      simp at hi
      rcases hi with hi | hi
      · exact absurd hi.symm c
      · exact R.ow i hi
  · by_cases ci : j = i
    · subst ci
      rw [List.getElem?_set_self hl] at e1
      cases e1
      by_cases ck : j = k
      · exact ck
      · rw [List.getElem?_set_ne ck] at e2
        simp at hk
        rcases hk with hk | hk
        · exact absurd hk.symm ck
        · exact absurd ⟨k, hk, e2⟩ hn
    · rw [List.getElem?_set_ne ci] at e1
      have hi' : i ∈ m := by simp at hi; rcases hi with hi | hi; exact absurd hi.symm ci; exact hi
      by_cases ck : j = k
      · subst ck
        rw [List.getElem?_set_self hl] at e2
        cases e2
        exact absurd ⟨i, hi', e1⟩ hn
      · rw [List.getElem?_set_ne ck] at e2
        have hk' : k ∈ m := by simp at hk; rcases hk with hk | hk; exact absurd hk.symm ck; exact hk
        exact R.inj i k q hi' hk' e1 e2
theorem semS_asgF {j : Nat} (h : SemF K m te G) (hj : j ∉ m) (hp : j ∉ pn) : SemS K fr pn m ml (j :: m) (tAsg te (gName j)) (sAsgF j G) := fun env σ S H R o e E q => by
  obtain ⟨⟨d, e1⟩, ed, e⟩ := bind_some e
  dsimp only at e
  split at e <;> cases e
  rename_i hlt
  refine h env σ S H R d e1 ed _ fun p vs ds S1 H1 hd g R1 h1 h2 h3 h4 => ?_
  subst hd
  have hn : j < σ.length := by have := R1.len; omega
  refine q _ S1 H1 ⟨g, fun a ⟨i, hi, ea⟩ => ?_, fun i hi => ?_⟩ (R1.own hj (hn) h2 h3 h4 (R.notOwn h1))
  · by_cases c : j = i
    · subst c
      rw [List.getElem?_set_self (hn)] at ea
      cases ea
      exact .inr h1
    · rw [List.getElem?_set_ne c] at ea
      simp at hi
      rcases hi with hi | hi
      · exact absurd hi.symm c
      · exact .inl ⟨i, hi, ea⟩
  · rw [List.getElem?_set_ne (ne_mem hi hp)]
theorem semF_lst {t : TA} {Ga : En → Option (List D × En)} (ha : SemA K m t Ga) : SemF K m (tLst t) (gLstE Ga) := fun env σ S H R d env' e Q q => by
  obtain ⟨⟨a, e1⟩, ea, e⟩ := bind_some e
  obtain ⟨b, eb, e⟩ := map_some e
  obtain ⟨rfl, hz⟩ := sized_some eb
  cases e
  refine ha env σ S H R _ _ ea _ fun xs S1 H1 k1 R1 rx => ⟨by rw [rx.length]; exact hz, fun p hp => ?_⟩
  have hS := ex_free R1.ex hp
  have h0 : H p = none := by
    cases c : H p with
    | none => rfl
    | some u => exact absurd hp (k1.d p (by rw [c]; simp))
  refine q p xs b S1 (upd H1 p (.lst xs)) rfl ⟨k1.s, fun a o e n => ?_, k1.n, fun a ha => ?_⟩ ?_ h0 hS upd_same rx
  · rw [upd_ne (ne_of_none e h0)]; exact k1.h a o e n
  · have : a ≠ p := fun e => ha (e ▸ h0)
    rw [upd_ne this]; exact k1.d a ha
  · exact R1.gz ⟨Ex.refl _, Ex.new hp, fun _ _ => rfl, fun a o e => by
      rw [upd_ne (ne_of_none e hS)]; exact R1.ex a o e, R1.sz.upd (by show xs.length ≤ sizeLine; rw [rx.length]; exact hz)⟩
/-- return of a fresh list -/
theorem semS_retF (h : SemF K m te G) (hp : ∀ i, i ∈ pn → i ∈ m) : SemS K true pn m ml m' (tRet te) (sRet pn G) := fun env σ S H R o e E q => by
  obtain ⟨⟨d, e1⟩, ed, e⟩ := bind_some e
  obtain ⟨own, eo, rfl⟩ := map_some e
  refine h env σ S H R d e1 ed _ fun p vs ds S1 H1 hd g R1 h1 h2 h3 h4 => q (.ref p) σ S1 H1 g (fun _ _ => rfl) (R1.relP eo hp) ?_
  unfold RetV
  rw [if_pos rfl]
  exact ⟨p, vs, ds, hd, rfl, .inr h1, fun i hi e => R.notOwn h1 ⟨i, hp i hi, e⟩, h2, h3, h4⟩
end
end CS

/-! CsD: owned lists changed in place, calls of own defs, a def's promise by its body. -/
namespace CS
open PySem PySem.Spec PyProof.Rows L2
open Evl (Ex ex_l ex_t)
section
variable {K : PySem.W.Frag} {fr : Bool} {pn m m1 m' ml : List Nat} {te : TE}
theorem Rel.mut {env : En} {σ : SL} {S H : Hp} (R : Rel K m env σ S H) {j : Nat} {p : Addr} {vs vs' : List V} {ds' : List D} (hj : j ∈ m) (hp : σ[j]? = some (some (.ref p))) (h4 : H p = some (.lst vs)) (z : vs'.length ≤ sizeLine) (r : RpAll K S vs' ds') :
    Gm (Own m σ) S H S (upd H p (.lst vs')) ∧ Rel K m (env.set j (some (.list ds'))) σ S (upd H p (.lst vs')) := by
  obtain ⟨p0, vs0, ds0, h1, h2, h3, h40, h5⟩ := R.ow j hj
  rw [hp] at h2; cases h2
  refine ⟨⟨Ex.refl S, fun a o e n => ?_, fun _ _ _ => rfl, fun a ha => ?_⟩, ⟨fun a o e => ?_, R.sz.upd z, by simp [R.len], fun i d hi e => ?_, fun i hi => ?_, R.inj⟩⟩
  · have : a ≠ p := fun e => n ⟨j, hj, e ▸ hp⟩
    rw [upd_ne this]; exact e
  · by_cases c : a = p
    · subst c; rw [upd_same]; simp
    · rw [upd_ne c]; exact ha
  · have : a ≠ p := fun c => by subst c; rw [h3] at e; cases e
    rw [upd_ne this]; exact R.ex a o e
  · rw [List.getElem?_set_ne (ne_mem hj hi).symm] at e
    exact R.sh i d hi e
  · by_cases c : i = j
    · subst c
      exact ⟨p, vs', ds', by rw [List.getElem?_set_self (List.getElem?_eq_some_iff.mp h1).1], hp, h3, upd_same, r⟩
    · obtain ⟨p', ws, es, q1, q2, q3, q4, q5⟩ := R.ow i hi
      have : p' ≠ p := fun e => c (R.inj i j p hi hj (e ▸ q2) hp)
      exact ⟨p', ws, es, by rw [List.getElem?_set_ne (fun e => c e.symm)]; exact q1, q2, q3, by rw [upd_ne this]; exact q4, q5⟩
/-- a method that changes its list: what it makes of the items -/
def MutR (K : PySem.W.Frag) (r : V → List V → Hp → VK → Prop) (g : List D → D → Option (List D)) : Prop := ∀ S H p vs ds y d ds', Ex S H → SzH H → S p = none → H p = some (.lst vs) → RpAll K S vs ds → Rp K S y d → g ds d = some ds' →
  ∀ Q : VK, (∀ vs', vs'.length ≤ sizeLine → RpAll K S vs' ds' → Q .non (upd H p (.lst vs'))) → r (.ref p) [y] H Q
def gAppend : List D → D → Option (List D) := fun ds d => if ds.length < sizeLine then some (ds ++ [d]) else none
def gExtend : List D → D → Option (List D) := fun ds d => (asL d).bind fun es => if ds.length + es.length ≤ sizeLine then some (ds ++ es) else none
theorem mut_append : MutR K rAppend gAppend := fun S H p vs ds y d ds' x z hS hp ra r e Q q => by
  unfold gAppend at e
  split at e
  · rename_i hl
    cases e
    have h1 := ra.length
    exact ⟨p, vs, y, rfl, rfl, hp, by omega, q _ (by simp; omega) (ra.append (.cons r .nil))⟩
  · cases e
theorem gExtend_some {ds ds' : List D} {d : D} (h : gExtend ds d = some ds') : ∃ es : List D, d = .list es ∧ ds.length + es.length ≤ sizeLine ∧ ds' = ds ++ es := by
  unfold gExtend at h
  obtain ⟨es, ee, h⟩ := bind_some h
  refine ⟨es, asL_some ee, ?_⟩
  split at h
  · cases h
    exact ⟨by assumption, rfl⟩
  · cases h
theorem mut_extend : MutR K rExtend gExtend := fun S H p vs ds y d ds' x z hS hp ra r e Q q => by
  obtain ⟨es, rfl, hl, rfl⟩ := gExtend_some e
  obtain ⟨b, zs, rfl, hs, hb⟩ := r.list_inv
  have h1 := ra.length
  have h2 := hb.length
  exact ⟨p, b, vs, zs, rfl, rfl, hp, x _ _ hs, by omega, q _ (by simp; omega) (ra.append hb)⟩
def sMut (j : Nat) (g : List D → D → Option (List D)) (Fe : En → Option (D × En)) : En → Option Out := fun env => (Fe env).bind fun r => ((gv j r.2).bind asL).bind fun ds => (g ds r.1).map fun ds' => .nx (setE j (.list ds') r.2)
theorem semS_mut {j : Nat} {r : V → List V → Hp → VK → Prop} {g : List D → D → Option (List D)} {Fe : En → Option (D × En)} (hr : MutR K r g) (h : Sem K m te Fe) (hj : j ∈ m) : SemS K fr pn m ml m (tDrop (tBM K "list" r (tVar j) (tCons te tNil))) (sMut j g Fe) := fun env σ S H R o e E q => by
  obtain ⟨⟨d, e1⟩, ed, e⟩ := bind_some e
  obtain ⟨ds, eds, e⟩ := bind_some e
  obtain ⟨d0, ed0, eds⟩ := bind_some eds
  cases asL_some eds
  obtain ⟨ds', eg, rfl⟩ := map_some e
  obtain ⟨p, vs, as, h1, h2, h3, h4, h5⟩ := R.ow j hj
  refine ⟨.ref p, h2, .inl ⟨rfl, _, .inl (.inl h4)⟩, h env σ S H R d e1 ed _ fun y S1 H1 g1 R1 ry => ?_⟩
  obtain ⟨p1, vs1, as1, k1, k2, k3, k4, k5⟩ := R1.ow j hj
  rw [h2] at k2; cases k2
  have := gv_some ed0
  rw [k1] at this; cases this
  refine hr S1 H1 p vs1 _ y d ds' R1.ex R1.sz k3 k4 k5 ry eg _ fun vs' z r' => ?_
  obtain ⟨g2, R2⟩ := R1.mut hj h2 k4 z r'
  exact q σ S1 _ (stp_e (g1.trans g2)) R2
/-- xs[i] = e -/
def setAt (ds : List D) (i : Int) (d : D) : Option (List D) := (ixN ds.length i).map fun k => ds.set k d
def sSetI (j : Nat) (Fe Fi : En → Option (D × En)) : En → Option Out := fun env => (Fe env).bind fun r => (Fi r.2).bind fun s => ((gv j s.2).bind asL).bind fun ds => (asI s.1).bind fun i => (setAt ds i r.1).map fun ds' => .nx (setE j (.list ds') s.2)
theorem semS_setI {j : Nat} {ti : TE} {Fe Fi : En → Option (D × En)} (h : Sem K m te Fe) (hi : Sem K m ti Fi) (hj : j ∈ m) : SemS K fr pn m ml m (tAsg te (gSub (tVar j) ti rSetL)) (sSetI j Fe Fi) := fun env σ S H R o e E q => by
  obtain ⟨⟨d, e1⟩, ed, e⟩ := bind_some e
  obtain ⟨⟨i, e2⟩, ei, e⟩ := bind_some e
  obtain ⟨ds, eds, e⟩ := bind_some e
  obtain ⟨d0, ed0, eds⟩ := bind_some eds
  cases asL_some eds
  obtain ⟨n, en, e⟩ := bind_some e
  cases asI_some en
  obtain ⟨ds', eg, rfl⟩ := map_some e
  obtain ⟨k, ek, rfl⟩ := map_some eg
  refine h env σ S H R d e1 ed _ fun y S1 H1 g1 R1 ry => ?_
  obtain ⟨p, vs, as, h1, h2, h3, h4, h5⟩ := R1.ow j hj
  refine ⟨.ref p, h2, hi e1 σ S1 H1 R1 _ e2 ei _ fun w S2 H2 g2 R2 rw' => ?_⟩
  obtain ⟨p1, vs1, as1, k1, k2, k3, k4, k5⟩ := R2.ow j hj
  rw [h2] at k2; cases k2
  have := gv_some ed0
  rw [k1] at this; cases this
  obtain ⟨g3, R3⟩ := R2.mut hj h2 k4 (vs' := vs1.set k y) (by rw [List.length_set]; exact R2.sz p _ k4) (k5.set (ry.mono g2.s) k)
  exact ⟨p, vs1, n, k, rfl, rw'.int_inv, k4, by rw [k5.length]; exact ek, q σ S2 _ (stp_e ((g1.trans g2).trans g3)) R3⟩
/-- xs.pop() as a value -/
def gPop (j : Nat) : En → Option (D × En) := fun env => ((gv j env).bind asL).bind fun ds => (ds[ds.length - 1]?).map fun d => (d, setE j (.list ds.dropLast) env)
theorem RpAll.dropLast {H : Hp} : ∀ {vs : List V} {ds : List D}, RpAll K H vs ds → RpAll K H vs.dropLast ds.dropLast := fun {vs ds} h => by
  rw [List.dropLast_eq_take, List.dropLast_eq_take, h.length]
  exact h.take _
theorem sem_pop {j : Nat} (hj : j ∈ m) : Sem K m (tBM0 K "list" rPop (tVar j)) (gPop j) := fun env σ S H R d env' e Q q => by
  obtain ⟨ds, eds, e⟩ := bind_some e
  obtain ⟨d0, ed0, eds⟩ := bind_some eds
  cases asL_some eds
  obtain ⟨z, ez, e⟩ := map_some e
  cases e
  obtain ⟨p, vs, as, h1, h2, h3, h4, h5⟩ := R.ow j hj
  have := gv_some ed0
  rw [h1] at this; cases this
  obtain ⟨y, hy, ry⟩ := h5.get' ez
  obtain ⟨g1, R1⟩ := R.mut hj h2 h4 (vs' := vs.dropLast) (by have := R.sz p _ h4; have h6 : vs.length ≤ sizeLine := this; rw [List.length_dropLast]; omega) h5.dropLast
  exact ⟨.ref p, h2, .inl ⟨rfl, _, .inl (.inl h4)⟩, p, vs, y, rfl, rfl, h4, by rw [h5.length]; exact hy, q y S _ g1 R1 ry⟩
/-- xs.remove(k), ints -/
def asInts : List D → Option (List Int)
  | [] => some []
  | .int i :: r => (asInts r).map fun s => i :: s
  | _ => none
theorem asInts_some : ∀ {ds : List D} {ns : List Int}, asInts ds = some ns → ds = ns.map PyData.int
  | [], ns, h => by cases h; rfl
  | .int i :: r, ns, h => by
    obtain ⟨s, hs, rfl⟩ := map_some h
    rw [asInts_some hs]; rfl
  | .none :: _, _, h => by cases h
  | .bool _ :: _, _, h => by cases h
  | .str _ :: _, _, h => by cases h
  | .list _ :: _, _, h => by cases h
  | .tuple _ :: _, _, h => by cases h
  | .dict _ :: _, _, h => by cases h
theorem asInts_map : ∀ ns : List Int, asInts (ns.map PyData.int) = some ns
  | [] => rfl
  | n :: ns => by simp [asInts, asInts_map ns]
def gRemove : List D → D → Option (List D) := fun ds d => (asInts ds).bind fun ns => (asI d).bind fun k => if k ∈ ns then some ((ns.erase k).map .int) else none
theorem gRemove_some {ds ds' : List D} {d : D} (h : gRemove ds d = some ds') : ∃ (ns : List Int) (k : Int), ds = ns.map PyData.int ∧ d = .int k ∧ k ∈ ns ∧ ds' = (ns.erase k).map PyData.int := by
  unfold gRemove at h
  obtain ⟨ns, en, h⟩ := bind_some h
  obtain ⟨k, ek, h⟩ := bind_some h
  refine ⟨ns, k, asInts_some en, asI_some ek, ?_⟩
  split at h
  · cases h
    exact ⟨by assumption, rfl⟩
  · cases h
theorem semS_remove {j : Nat} {W : WX} {Fe : En → Option (D × En)} (h : Sem K m te Fe) (hj : j ∈ m) : SemS K fr pn m ml m (tDrop (tRemX K W (tVar j) te)) (sMut j gRemove Fe) := fun env σ S H R o e E q => by
  obtain ⟨⟨d, e1⟩, ed, e⟩ := bind_some e
  obtain ⟨ds, eds, e⟩ := bind_some e
  obtain ⟨d0, ed0, eds⟩ := bind_some eds
  cases asL_some eds
  obtain ⟨ds', eg, rfl⟩ := map_some e
  obtain ⟨ns, k, hds, hd, hk, rfl⟩ := gRemove_some eg
  subst hds
  dsimp only at hd
  subst hd
  obtain ⟨p, vs, as, h1, h2, h3, h4, h5⟩ := R.ow j hj
  refine ⟨.ref p, h2, .inl ⟨rfl, _, .inl (.inl h4)⟩, h env σ S H R _ e1 ed _ fun y S1 H1 g1 R1 ry => ?_⟩
  obtain ⟨p1, vs1, as1, k1, k2, k3, k4, k5⟩ := R1.ow j hj
  rw [h2] at k2; cases k2
  have := gv_some ed0
  rw [k1] at this; cases this
  have hv := k5.ints_inv
  subst hv
  obtain ⟨g2, R2⟩ := R1.mut hj h2 k4 (vs' := (ns.erase k).map V.int) (by
    have h6 : (ns.map V.int).length ≤ sizeLine := R1.sz p _ k4
    have := List.length_erase_le (a := k) (l := ns)
    rw [List.length_map] at h6 ⊢
    omega) (RpAll.ints _)
  exact ⟨p, ns, k, rfl, ry.int_inv, k4, fun _ => q σ S1 _ (stp_e (g1.trans g2)) R2, fun z => absurd hk z⟩
/-- an expression that reads an owned list, its value flat -/
def fFlat (F : En → Option D) : En → Option D := fun env => (F env).bind fun d => if flat d = true then some d else none
theorem semP_flat {j : Nat} {m2 : List Nat} {F : En → Option D} (h : SemP K m2 te F) (hj : j ∈ m) (hm : m2 = m.filter (· ≠ j)) : SemP K m te (fFlat F) := fun env σ S H R d e Q q => by
  subst hm
  obtain ⟨d1, ed, e⟩ := bind_some e
  split at e
  · rename_i hf
    cases e
    obtain ⟨S2, g2, hs2, R2⟩ := R.share hj
    obtain ⟨p, vs, as, h1, h2, h3, h4, h5⟩ := R.ow j hj
    refine h env σ S2 H R2 d ed Q fun v S3 H3 k3 r3 => ?_
    -- take the owned list out again
    refine q v (fun a => if a = p then none else S3 a) H3 ⟨fun a o e => ?_, k3.h, fun a ha => ?_, fun a o e => ?_, k3.z⟩ (r3.flat hf)
    · have : a ≠ p := fun c => by subst c; rw [h3] at e; cases e
      show (if a = p then none else S3 a) = some o
      rw [if_neg this]
      exact k3.s a o (g2.s a o e)
    · show (if a = p then none else S3 a) = S a
      by_cases c : a = p
      · subst c; rw [if_pos rfl, h3]
      · rw [if_neg c, k3.n a ha]
        by_cases cc : S2 a = S a
        · exact cc
        · have := hs2 a cc
          rw [h2] at this
          injection this with this
          injection this with this
          exact absurd (by injection this with this; exact this.symm) c
    · by_cases c : a = p
      · subst c
        have e' : (if a = a then none else S3 a) = some o := e
        rw [if_pos rfl] at e'; cases e'
      · have e' : (if a = p then none else S3 a) = some o := e
        rw [if_neg c] at e'
        exact k3.x a o e'
  · cases e
/-- xs[i] of an owned list -/
def dAt (ds : List D) (i : Int) : Option D := atI ds i
theorem RpAll.atI {H : Hp} {vs : List V} {ds : List D} {i : Int} {d : D} (h : RpAll K H vs ds) (e : L2.atI ds i = some d) : ∃ v, L2.atI vs i = some v ∧ Rp K H v d := by
  unfold L2.atI at e ⊢
  obtain ⟨k, hk, e⟩ := bind_some e
  obtain ⟨v, h1, h2⟩ := h.get' e
  exact ⟨v, by rw [h.length, hk]; exact h1, h2⟩
def fIxO (j : Nat) (Fi : En → Option (D × En)) : En → Option (D × En) := fun env => (Fi env).bind fun r => ((gv j r.2).bind asL).bind fun ds => (asI r.1).bind fun i => (dAt ds i).map fun d => (d, r.2)
theorem sem_ixO {j : Nat} {ti : TE} {Fi : En → Option (D × En)} (hi : Sem K m ti Fi) (hj : j ∈ m) : Sem K m (tOp (rIxL K) (tVar j) ti) (fIxO j Fi) := fun env σ S H R d env' e Q q => by
  obtain ⟨⟨i, e1⟩, ei, e⟩ := bind_some e
  obtain ⟨ds, eds, e⟩ := bind_some e
  obtain ⟨d0, ed0, eds⟩ := bind_some eds
  cases asL_some eds
  obtain ⟨n, en, e⟩ := bind_some e
  cases asI_some en
  obtain ⟨z, ez, e⟩ := map_some e
  cases e
  obtain ⟨p, vs, as, h1, h2, h3, h4, h5⟩ := R.ow j hj
  refine ⟨.ref p, h2, hi env σ S H R _ e1 ei _ fun w S1 H1 g1 R1 r1 => ?_⟩
  obtain ⟨p1, vs1, as1, k1, k2, k3, k4, k5⟩ := R1.ow j hj
  rw [h2] at k2; cases k2
  have := gv_some ed0
  rw [k1] at this; cases this
  obtain ⟨v, hv, rv⟩ := k5.atI ez
  exact ⟨p, vs1, n, v, rfl, r1.int_inv, SqL.of k4, hv, q v S1 H1 g1 R1 rv⟩
/-- an owned list is walked by a comprehension that changes nothing -/
theorem semP_lcO {g : TG} {tt : TT} {vs ts : List Nat} {j : Nat} {m2 : List Nat} {Gt : D → En → Option En} {Ft : En → Option Bool} {Fe : En → Option D} {te : TE}
    (hg : SemG K m ts g Gt) (ht : SemPT K m tt Ft) (he : SemP K m te Fe) (hv : ∀ i, i ∈ m → i ∉ vs) (hts : ∀ i, i ∈ ts → i ∈ vs) (hj : j ∈ m) : SemP K m (tLc (iList K (tVar j)) g tt te vs) (lcF vs (fun env => (gv j env).bind asL) Gt Ft Fe) := fun env σ S H R d e Q q => by
  obtain ⟨ds, eds, e⟩ := bind_some e
  obtain ⟨res, hres, rfl⟩ := map_some e
  obtain ⟨d0, ed0, eds⟩ := bind_some eds
  cases asL_some eds
  obtain ⟨p, xs, as, h1, h2, h3, h4, h5⟩ := R.ow j hj
  have := gv_some ed0
  rw [h1] at this; cases this
  refine ⟨.ref p, h2, p, rfl, ⟨xs, SqL.of h4⟩, fun Dl hD => ?_⟩
  have hS : S Dl = none := ex_free R.ex hD
  have hsz : xs.length ≤ sizeLine := R.sz p _ h4
  have k1 : Gz S H S H := Gz.refl R.ex R.sz
  refine lc_it (walk_list (K := K) (a := p) (xs := xs)) (fun i H' => ∃ S' acc as, Gz S H S' H' ∧ S' Dl = none ∧ H' Dl = some (.lst acc) ∧ RpAll K S' acc as ∧ compD (fun d => (Gt d (wipeE env vs)).bind fun e => (Ft e).bind fun b => if b = true then (Fe e).map some else some none) (ds.take i) = some as)
    ⟨S, [], [], ⟨Ex.refl _, Ex.new hD, fun _ _ => rfl, fun a o e => by
      rw [upd_ne (ne_of_none e hS)]
      exact k1.x a o e, k1.z.upd (by show 0 ≤ sizeLine; omega)⟩, hS, upd_same, .nil, rfl⟩ (fun i H' _ pp => ?_) (fun i x H2 H3 hlt pp y => ?_) (fun H' pp => ?_)
  · obtain ⟨S', acc, as, g1, _⟩ := pp
    exact SqL.of (g1.h _ _ h4)
  · obtain ⟨S2, acc, as, g1, h22, h33, h44, h55⟩ := pp
    obtain ⟨rfl, hx'⟩ := y
    obtain ⟨dd, hx, rx⟩ := h5.get hx'
    obtain ⟨a', y', c1, c2, c3⟩ := compD_take hres hx
    rw [h55] at c1; cases c1
    obtain ⟨e2, ge, c2⟩ := bind_some c2
    obtain ⟨b, tb, c2⟩ := bind_some c2
    have R3 := ((R.gz k1).gz g1).wipe hv
    refine hg _ _ S2 H3 R3 x _ e2 (rx.mono g1.s) ge _ fun σ2 hl2 hf2 _ R2 => ⟨?_, ?_⟩
    · rw [wipe_eq (σ := wipe σ vs) hl2 fun i hi => hf2 i fun z => hi (hts i z)]
      exact wipe_eq (wipe_length _ _) fun i hi => wipe_out hi
    · refine ht e2 σ2 S2 H3 R2 b tb _ fun S4 H4 k4 => ?_
      have g4 := g1.trans k4
      have hD4 : H4 Dl = some (.lst acc) := k4.h _ _ h33
      have hS4 : S4 Dl = none := by
        rw [k4.n Dl (by rw [h33]; simp)]
        exact h22
      cases b with
      | false =>
        simp at c2
        subst c2
        exact ⟨S4, acc, as, g4, hS4, hD4, h44.mono k4.s, by simpa using c3⟩
      | true =>
        simp only [if_true] at c2 ⊢
        obtain ⟨z, ez, rfl⟩ := map_some c2
        refine he e2 σ2 S4 H4 (R2.gz k4) z ez _ fun w S5 H5 k5 r5 => ?_
        have g5 := g4.trans k5
        have hD5 : H5 Dl = some (.lst acc) := k5.h _ _ hD4
        have hS5 : S5 Dl = none := by rw [k5.n Dl (by rw [hD4]; simp)]; exact hS4
        have hlen : acc.length < sizeLine := by
          have h6 := compD_len h55
          rw [List.length_take] at h6
          rw [h44.length]
          omega
        refine ⟨acc, hD5, hlen, S5, acc ++ [w], as ++ [z], ⟨g5.s, fun a o e => ?_, g5.n, fun a o e => ?_, g5.z.upd (by show (acc ++ [w]).length ≤ sizeLine; simp; omega)⟩, hS5, upd_same, ((h44.mono (k4.s.trans k5.s)).append (.cons r5 .nil)), by simpa using c3⟩
        · rw [upd_ne (ne_of_none e hD)]
          exact g5.h a o e
        · rw [upd_ne (ne_of_none e hS5)]
          exact g5.x a o e
  · obtain ⟨S2, acc, as, g1, h22, h33, h44, h55⟩ := pp
    have : xs.length = ds.length := h5.length
    rw [this, List.take_length, hres] at h55
    cases h55
    refine q (.ref Dl) (upd S2 Dl (.lst acc)) H' (k1.trans ⟨g1.s.trans (Ex.new h22), g1.h, fun a ha => ?_, fun a o e => ?_, g1.z⟩) (.lst upd_same (h44.mono (Ex.new h22)))
    · have : a ≠ Dl := fun e => ha (e ▸ hD)
      rw [upd_ne this]
      exact g1.n a ha
    · by_cases c : a = Dl
      · subst c; rw [upd_same] at e; cases e; exact h33
      · rw [upd_ne c] at e; exact g1.x a o e
end
/-! ### promises -/
/-- hands back the data g tells -/
def spP (K : PySem.W.Frag) (g : List D → Option D) : Sp := fun vs H Q _ => ∃ S ds r, Ex S H ∧ SzH H ∧ RpAll K S vs ds ∧ g ds = some r ∧ ∀ v S' H', Gz S H S' H' → Rp K S' v r → Q v H'
/-- .. a list of its own -/
def spF (K : PySem.W.Frag) (g : List D → Option D) : Sp := fun vs H Q _ => ∃ S ds r, Ex S H ∧ SzH H ∧ RpAll K S vs ds ∧ g ds = some r ∧
  ∀ p xs es S' H', r = .list es → Gz S H S' H' → H p = none → S' p = none → H' p = some (.lst xs) → RpAll K S' xs es → Q (.ref p) H'
/-- changes the list of its first parameter -/
def spM (K : PySem.W.Frag) (g : List D → List D → Option (D × List D)) : Sp := fun vs H Q _ => ∃ S p xs ds ws as r ds', vs = .ref p :: ws ∧ Ex S H ∧ SzH H ∧ S p = none ∧ H p = some (.lst xs) ∧ RpAll K S xs ds ∧ RpAll K S ws as ∧ g ds as = some (r, ds') ∧
  ∀ v S' H' xs', Gm (· = p) S H S' H' → Ex S' H' → SzH H' → S' p = none → H' p = some (.lst xs') → RpAll K S' xs' ds' → Rp K S' v r → Q v H'
section
variable {K : PySem.W.Frag} {fr : Bool} {pn m m1 m' ml : List Nat} {ta : TA}
theorem semP_callP {g : List D → Option D} {Fa : En → Option (List D)} {E : XK} (ha : SemPA K m ta Fa) : SemP K m (tCall (spP K g) [] E ta) (fCall g Fa) := fun env σ S H R d e Q q => by
  obtain ⟨as, ea, e⟩ := bind_some e
  refine ha env σ S H R as ea _ fun vs S1 H1 k1 r1 => ?_
  rw [List.append_nil]
  exact ⟨S1, as, d, k1.x, k1.z, r1, e, fun v S2 H2 k2 r2 => q v S2 H2 (k1.trans k2) r2⟩
theorem sem_callP {g : List D → Option D} {Ga : En → Option (List D × En)} {E : XK} (ha : SemA K m ta Ga) : Sem K m (tCall (spP K g) [] E ta) (gCall g Ga) := fun env σ S H R d env' e Q q => by
  obtain ⟨⟨as, e1⟩, ea, e⟩ := bind_some e
  obtain ⟨z, ez, e⟩ := map_some e
  cases e
  refine ha env σ S H R as _ ea _ fun vs S1 H1 k1 R1 r1 => ?_
  rw [List.append_nil]
  exact ⟨S1, as, d, R1.ex, R1.sz, r1, ez, fun v S2 H2 k2 r2 => q v S2 H2 (k1.trans k2.gm) (R1.gz k2) r2⟩
theorem semF_callF {g : List D → Option D} {Ga : En → Option (List D × En)} {E : XK} (ha : SemA K m ta Ga) : SemF K m (tCall (spF K g) [] E ta) (gCall g Ga) := fun env σ S H R d env' e Q q => by
  obtain ⟨⟨as, e1⟩, ea, e⟩ := bind_some e
  obtain ⟨z, ez, e⟩ := map_some e
  cases e
  refine ha env σ S H R as _ ea _ fun vs S1 H1 k1 R1 r1 => ?_
  rw [List.append_nil]
  refine ⟨S1, as, d, R1.ex, R1.sz, r1, ez, fun p xs es S2 H2 hd k2 h1 h2 h3 h4 => q p xs es S2 H2 hd (k1.trans k2.gm) (R1.gz k2) ?_ h2 h3 h4⟩
  cases c : H p with
  | none => rfl
  | some u => exact absurd h1 (k1.d p (by rw [c]; simp))
theorem semP_callF {g : List D → Option D} {Fa : En → Option (List D)} {E : XK} (ha : SemPA K m ta Fa) (hl : ∀ ds r, g ds = some r → ∃ es, r = .list es) : SemP K m (tCall (spF K g) [] E ta) (fCall g Fa) := fun env σ S H R d e Q q => by
  obtain ⟨as, ea, e⟩ := bind_some e
  refine ha env σ S H R as ea _ fun vs S1 H1 k1 r1 => ?_
  rw [List.append_nil]
  refine ⟨S1, as, d, k1.x, k1.z, r1, e, fun p xs es S2 H2 hd k2 h1 h2 h3 h4 => ?_⟩
  subst hd
  have k3 : Gz S1 H1 (upd S2 p (.lst xs)) H2 := ⟨k2.s.trans (Ex.new h2), k2.h, fun a ha => by
    have : a ≠ p := fun c => ha (c ▸ h1)
    rw [upd_ne this]; exact k2.n a ha, fun a o e => by
    by_cases c : a = p
    · subst c; rw [upd_same] at e; cases e; exact h3
    · rw [upd_ne c] at e; exact k2.x a o e, k2.z⟩
  exact q _ _ H2 (k1.trans k3) (.lst upd_same (h4.mono (Ex.new h2)))
/-- f(x, ..), x an owned list that f changes -/
def gCallM (j : Nat) (g : List D → List D → Option (D × List D)) (Ga : En → Option (List D × En)) : En → Option (D × En) := fun env => (Ga env).bind fun a => ((gv j a.2).bind asL).bind fun ds => (g ds a.1).map fun r => (r.1, setE j (.list r.2) a.2)
theorem sem_callM {j : Nat} {g : List D → List D → Option (D × List D)} {Ga : En → Option (List D × En)} {E : XK} (ha : SemA K m ta Ga) (hj : j ∈ m) : Sem K m (tCall (spM K g) [] E (tCons (tVar j) ta)) (gCallM j g Ga) := fun env σ S H R d env' e Q q => by
  obtain ⟨⟨as, e1⟩, ea, e⟩ := bind_some e
  obtain ⟨ds, eds, e⟩ := bind_some e
  obtain ⟨d0, ed0, eds⟩ := bind_some eds
  cases asL_some eds
  obtain ⟨⟨z, ds'⟩, ez, e⟩ := map_some e
  cases e
  obtain ⟨p, vs, as0, h1, h2, h3, h4, h5⟩ := R.ow j hj
  refine ⟨.ref p, h2, ha env σ S H R as e1 ea _ fun ws S1 H1 k1 R1 r1 => ?_⟩
  show spM K g ((V.ref p :: ws) ++ []) H1 Q E
  rw [List.append_nil]
  obtain ⟨p1, vs1, as1, q1, q2, q3, q4, q5⟩ := R1.ow j hj
  rw [h2] at q2; cases q2
  have := gv_some ed0
  rw [q1] at this; cases this
  refine ⟨S1, p, vs1, ds, ws, as, _, ds', rfl, R1.ex, R1.sz, q3, q4, q5, r1, ez, fun v S2 H2 xs' g2 x2 z2 hS2 hH2 r2 rv => ?_⟩
  have own_p : ∀ a, a = p → Own m σ a := fun a e => ⟨j, hj, e ▸ h2⟩
  refine q v S2 H2 (k1.trans (g2.mono own_p)) ?_ rv
  refine ⟨x2, z2, by rw [setE, List.length_set, R1.len], fun i d hi e => ?_, fun i hi => ?_, R1.inj⟩
  · rw [setE, List.getElem?_set_ne (ne_mem hj hi).symm] at e
    obtain ⟨w, w1, w2⟩ := R1.sh i d hi e
    exact ⟨w, w1, w2.mono g2.s⟩
  · by_cases c : i = j
    · subst c
      exact ⟨p, xs', ds', by rw [setE, List.getElem?_set_self (List.getElem?_eq_some_iff.mp q1).1], h2, hS2, hH2, r2⟩
    · obtain ⟨p', ws', es, w1, w2, w3, w4, w5⟩ := R1.ow i hi
      have hne : p' ≠ p := fun e => c (R1.inj i j p hi hj (e ▸ w2) h2)
      exact ⟨p', ws', es, by rw [setE, List.getElem?_set_ne (fun e => c e.symm)]; exact w1, w2, (g2.n p' hne (by rw [w4]; simp)).trans w3, g2.h p' _ w4 hne, w5.mono g2.s⟩
end
/-! ### a def's body -/
def env0 (N : List Str) (ds : List D) : En := ds.map some ++ List.replicate (N.length - ds.length) none
theorem map_some_get {α : Type} {l : List α} {i : Nat} {k : Nat} {x : α} (h : (l.map some ++ List.replicate k none)[i]? = some (some x)) : l[i]? = some x := by
  by_cases c : i < l.length
  · rw [List.getElem?_append_left (by simpa using c), List.getElem?_map] at h
    obtain ⟨y, h1, h2⟩ := map_some h
    cases h2
    exact h1
  · rw [List.getElem?_append_right (by simpa using c)] at h
    rw [List.getElem?_replicate] at h
    split at h <;> cases h
theorem map_some_of {α : Type} {l : List α} {i : Nat} {k : Nat} {x : α} (h : l[i]? = some x) : (l.map some ++ List.replicate k none)[i]? = some (some x) := by
  have c := (List.getElem?_eq_some_iff.mp h).1
  rw [List.getElem?_append_left (by simpa using c), List.getElem?_map, h]; rfl
section
variable {K : PySem.W.Frag} {N ps : List Str}
theorem rel_start {vs : List V} {ds : List D} {S H : Hp} (x : Ex S H) (z : SzH H) (r : RpAll K S vs ds) : Rel K [] (env0 N ds) (L2.start N vs) S H :=
  ⟨x, z, by simp [env0, L2.start, r.length], fun i d _ e => by
    obtain ⟨v, h1, h2⟩ := r.get' (map_some_get e)
    exact ⟨v, map_some_of h1, h2⟩, fun i hi => by simp at hi, fun i j p hi => by simp at hi⟩
theorem rel_startM {p : Addr} {xs ws : List V} {ds as : List D} {S H : Hp} (x : Ex S H) (z : SzH H) (h1 : S p = none) (h2 : H p = some (.lst xs)) (ra : RpAll K S xs ds) (r : RpAll K S ws as) : Rel K [0] (env0 N (.list ds :: as)) (L2.start N (.ref p :: ws)) S H :=
  ⟨x, z, by simp [env0, L2.start, r.length], fun i d hi e => by
    have h3 := map_some_get e
    cases i with
    | zero => simp at hi
    | succ i =>
      obtain ⟨v, h4, h5⟩ := r.get' (i := i) (by simpa using h3)
      exact ⟨v, map_some_of (by simpa using h4), h5⟩, fun i hi => by
    simp at hi
    subst hi
    exact ⟨p, xs, ds, map_some_of (by simp), map_some_of (by simp), h1, h2, ra⟩, fun i j q hi hj _ _ => by simp at hi hj; omega⟩
end
def resP : Out → Option D
  | .rt d _ => some d
  | .nx _ => some .none
  | _ => none
def resM : Out → Option (D × List D)
  | .rt d [.list ds] => some (d, ds)
  | .nx e => ((gv 0 e).bind asL).map fun ds => (.none, ds)
  | _ => none
end CS

/-! CsG: promises that may use that no repr runs. -/
namespace CS
open PySem PySem.Spec PyProof.Rows L2
open Evl (Ex ex_l ex_t)
/-- a def keeps its promise wherever no repr runs -/
structure FnG (P : Program) (w : World) (K : PySem.W.Frag) (mg : Str → Option Value) (base : Heap) (CX : CXT) (k : Nat) (f : Addr) (fd : FuncData) (ps : List Str) (sp : Sp) : Prop where
  len : ∀ vs H Q E, sp vs H Q E → vs.length = ps.length
  go : ∀ (A : Around), Room k A → A.guards = some [] → ∀ (outer : List PySem.Env) (s : Shared) (H : Hp), Env0 P w K mg base A outer s H →
    ∀ (args : Args) (us : List Value) (vs : List V), BindsTo s fd args (ps.zip us) → Vals vs us →
      ∀ (Q : VK) (E : XK), sp vs H Q E → codeAny (model P w) A (.call (.ref f) args) (CR CX outer P w H s Q E) s
theorem FnG.mono {P : Program} {w : World} {K : PySem.W.Frag} {mg : Str → Option Value} {base : Heap} {CX : CXT} {j k : Nat} {f : Addr} {fd : FuncData} {ps : List Str} {sp : Sp}
    (F : FnG P w K mg base CX j f fd ps sp) (h : j ≤ k) : FnG P w K mg base CX k f fd ps sp :=
  ⟨F.len, fun A hr => F.go A (hr.mono h)⟩
theorem FnG.imp {P : Program} {w : World} {K : PySem.W.Frag} {mg : Str → Option Value} {base : Heap} {CX : CXT} {k : Nat} {f : Addr} {fd : FuncData} {ps : List Str} {sp sp' : Sp}
    (F : FnG P w K mg base CX k f fd ps sp) (h : ∀ vs H Q E, sp' vs H Q E → sp vs H Q E) : FnG P w K mg base CX k f fd ps sp' :=
  ⟨fun vs H Q E q => F.len vs H Q E (h _ _ _ _ q), fun A hr g outer s H e0 args us vs hb hv Q E q => F.go A hr g outer s H e0 args us vs hb hv Q E (h _ _ _ _ q)⟩
section
variable {P : Program} {w : World} {K : PySem.W.Frag} {mg : Str → Option Value} {base : Heap} {CX : CXT} {N ps : List Str} {k : Nat} {f : Addr} {fd : FuncData} {sp : Sp}
theorem Fun.okG {x qual : Str} {st : Stmt} (Fu : Fun K x qual st f fd) (S : FnScope N ps (defScope st)) (hlen : ∀ vs H Q E, sp vs H Q E → vs.length = ps.length)
    (hbody : ∀ (cdv : Value) (A : Around) (outer : List PySem.Env) (s : Shared) (H : Hp) (vs : List V) (Q : VK) (E : XK),
      Room k (A.deeper (envOfC qual (defScope st) s.heap.objs.size f cdv)) → (A.deeper (envOfC qual (defScope st) s.heap.objs.size f cdv)).guards = some [] → sp vs H Q E →
      ∃ t, PSs (cxOf CX P w K mg base N qual (defScope st) f cdv A outer s H E) (defBody st) t ∧ t { nx := fun _ H' => Q .non H', rt := Q } (L2.start N vs) H) :
    FnG P w K mg base CX (k + 1) f fd ps sp := by
  obtain ⟨oc, od, kV, doc, pm, an, cdv, ct, osl, hfd, lk, hcd⟩ := Fu.ex
  subst hfd
  constructor
  · exact hlen
  intro A hr hg outer s H e0 args us vs hb hv Q E hsp
  have kept : ∀ b o, base.get? b = some o → s.heap.get? b = some o := fun b o e => (e0.bs b o e).1
  have kin := e0.mod.kin.keeps kept
  have nolim := e0.mod.nolimit.keeps kept
  refine codeAny_call_function hr.depth (kin _ _ lk) rfl S.co S.gen rfl (PySem.W.codeRec_of kin hcd) (hb _ _ _ _ ?_)
  have kinds : ∀ y ∈ ps.zip us, (defScope st).names.lookup y.1 = some .local ∨
      ((defScope st).names.lookup y.1 = some .cell ∧ ((cellsFrom (s.heap.objs.size + 1) (defScope st).names []).lookup y.1).isSome = true) := by
    intro y hy
    obtain ⟨n, v⟩ := y
    have hn : n ∈ ps := (List.of_mem_zip hy).1
    cases S.par n hn with
    | inl q => exact Or.inl q
    | inr q => exact Or.inr ⟨q, PySem.W.cellsFrom_some _ _ _ (Or.inl q)⟩
  refine wpAny_newFunctionEnv_cells S.kind kinds fun env he s1 hx => ?_
  subst he
  refine And.intro (nolim.keeps hx.toInCall.keep) (codeAny_func ?_)
  have hr' := hr.deeper (envOfC qual (defScope st) s.heap.objs.size f cdv)
  obtain ⟨t, ht, hq⟩ := hbody cdv A outer s H vs Q E hr' hg hsp
  have I0 := inv_start (E := E) (CX := CX) S hr.hd e0 (hlen _ _ _ _ hsp) hv hx
  have tail : ∀ {σ' : SL} {H' : Hp} {v : V} {u : Value} {s' : Shared}, Inv (cxOf CX P w K mg base N qual (defScope st) f cdv A outer s H E) [] σ' H' s' → RelV v u → Q v H' → CE outer P w H s Q u s' := by
    intro σ' H' v u s' J rv q
    exact ⟨v, H', J.os, J.bare, J.base, J.hok, rv, q⟩
  refine wpAny_mono (ht.run [] s1 (L2.start N vs) H _ I0 hq) ?_ (fun _ _ z => z)
  intro fl s' hs
  match fl, hs with
  | .ret u, ⟨v, σ', H', J, rv, q⟩ => exact tail J rv q
  | .next, ⟨σ', H', J, q⟩ => exact tail (v := .non) (u := .none) J rfl q
  | .brk, ⟨_, _, _, q⟩ => exact q.elim
  | .cont, ⟨_, _, _, q⟩ => exact q.elim
end
/-! calls -/
section
variable {X : Cx} {CX : CXT} {k : Nat} {f : Addr} {fd : FuncData} {ps ks : List Str} {sp : Sp} {E : XK} {x : Str} {p pos : Pos} {e : Expr} {es : List Expr} {kws : List Keyword} {t tk : TA}
theorem callG_end {pins : List (Addr × Obj)} {σ : SL} {H : Hp} {s : Shared} {Q : VK} {args : Args} {us : List Value} {vs : List V} (F : FnG X.prog X.w X.K X.mg X.base CX k f fd ps sp) (hr : Room k X.A) (hg : X.A.guards = some [])
    (hx : Passes CX X E) (I : Inv X pins σ H s) (hb : BindsTo s fd args (ps.zip us)) (r : Vals vs us) (h : sp vs H Q E) : wpAny (model X.prog X.w) X.A (call (.ref f) args.pos args.kw) (EP X pins σ Q) X.xe s := by
  refine wpAny_call (codeAny_mono (F.go X.A hr hg X.stack s H I.env0 args us vs hb r Q E h) ?_)
  intro res s' hq
  match res, hq with
  | .error e, hq => exact hx pins σ H s e s' I hq
  | .ok (.ret u), hq => exact I.after hq
  | .ok .next, hq => exact (show False from hq).elim
  | .ok .brk, hq => exact (show False from hq).elim
  | .ok .cont, hq => exact (show False from hq).elim
theorem pe_callG (F : FnG X.prog X.w X.K X.mg X.base CX k f fd ps sp) (hr : Room k X.A) (hgd : X.A.guards = some []) (hg : Gl X x) (hm : X.mg x = some (.ref f)) (hk : PySem.W.keepIn X.K (.ref f) = true) (hb : Binds X.K fd ps []) (hx : Passes CX X E)
    (ha : PA X (e :: es) t) (hdb : (x == ("__debug__" : Str)) = false) (he : starEach (e :: es) X.env = (false, eval e X.env) :: starEach es X.env) (hpl : (backTo pos (starEach es X.env)).any (·.1) = false) :
    PE X (.Call (.Name x p) (e :: es) [] pos) (tCall sp [] E t) := by
  constructor
  intro pins s σ H Q I h
  refine wpAny_Call_Name_kw (ld_glob I hg hm (PySem.W.callWith_K (h₀ := X.base) I.ok.mod.kin hk (thn (ha.run pos pins s σ H _ I h) ?_) he hpl) hdb)
  intro us s1 ⟨vs, H1, I1, r, q0⟩
  have q : sp (vs ++ []) H1 Q E := q0
  rw [List.append_nil] at q
  refine ⟨I1.kIn, ?_⟩
  have hl : us.length = ps.length := r.length.symm.trans (F.len _ _ _ _ q)
  have hb' := hb s1 us I1.kIn (by rw [List.append_nil]; exact hl)
  rw [List.append_nil] at hb'
  exact callG_end (args := ⟨us, []⟩) F hr hgd hx I1 hb' r q
/-- f(), no arguments -/
theorem pe_callG0 (F : FnG X.prog X.w X.K X.mg X.base CX k f fd ps sp) (hr : Room k X.A) (hgd : X.A.guards = some []) (hg : Gl X x) (hm : X.mg x = some (.ref f)) (hk : PySem.W.keepIn X.K (.ref f) = true) (hb : Binds X.K fd ps []) (hx : Passes CX X E)
    (hdb : (x == ("__debug__" : Str)) = false) : PE X (.Call (.Name x p) [] [] pos) (tCall sp [] E tNil) := by
  constructor
  intro pins s σ H Q I h
  refine wpAny_Call_Name_kw (ld_glob I hg hm ?_ hdb)
  have q : sp ([] ++ []) H Q E := h
  rw [List.append_nil] at q
  have hl : ([] : List Value).length = ps.length := F.len _ _ _ _ q
  have hb' := hb s [] I.kIn (by rw [List.append_nil]; exact hl)
  rw [List.append_nil] at hb'
  exact PySem.W.callWith_K0 I.kIn hk (callG_end (args := ⟨[], []⟩) F hr hgd hx I hb' .nil q)
/-- how n positional values and the keywords' values come to the parameters -/
def KB (K : PySem.W.Frag) (fd : FuncData) (ps : List Str) (n : Nat) (ks : List Str) (pm : List Nat) : Prop := ∀ (s : Shared) (us ws : List Value), K.In s.heap → us.length = n → ws.length = ks.length →
  BindsTo s fd ⟨us, ks.zip ws⟩ (ps.zip (pm.filterMap fun i => (us ++ ws)[i]?))
def pick (pm : List Nat) {α : Type} (l : List α) : List α := pm.filterMap fun i => l[i]?
theorem Vals.pick {vs : List V} {us : List Value} (r : Vals vs us) : ∀ pm : List Nat, Vals (pick pm vs) (pick pm us)
  | [] => .nil
  | i :: pm => by
    unfold CS.pick
    cases h : vs[i]? with
    | none =>
      rw [List.filterMap_cons, List.filterMap_cons, h, r.none_of h]
      exact Vals.pick r pm
    | some v =>
      obtain ⟨u, hu, ru⟩ := r.get h
      rw [List.filterMap_cons, List.filterMap_cons, h, hu]
      exact .cons ru (Vals.pick r pm)
def tCallKG (n m : Nat) (sp : Sp) (pm : List Nat) (E : XK) (t tk : TA) : TE := fun σ H Q => t σ H fun vs H1 => tk σ H1 fun zs H2 => vs.length = n ∧ zs.length = m ∧ sp (pick pm (vs ++ zs)) H2 Q E
theorem pe_callKG {n : Nat} {pm : List Nat} (F : FnG X.prog X.w X.K X.mg X.base CX k f fd ps sp) (hr : Room k X.A) (hgd : X.A.guards = some []) (hg : Gl X x) (hm : X.mg x = some (.ref f)) (hk : PySem.W.keepIn X.K (.ref f) = true) (hb : KB X.K fd ps n ks pm) (hx : Passes CX X E)
    (ha : PA X (e :: es) t) (hkw : PK X kws tk) (hall : (backToKw pos (keywordEach kws X.env)).all (·.1.isSome) = true) (hks : (backToKw pos (keywordEach kws X.env)).filterMap (·.1) = ks)
    (hdb : (x == ("__debug__" : Str)) = false) (he : starEach (e :: es) X.env = (false, eval e X.env) :: starEach es X.env)
    (hpl : ((backTo pos (starEach (e :: es) X.env)).any (·.1) || (backToKw pos (keywordEach kws X.env)).any (·.1.isNone)) = false) :
    PE X (.Call (.Name x p) (e :: es) kws pos) (tCallKG n ks.length sp pm E t tk) := by
  constructor
  intro pins s σ H Q I h
  refine wpAny_Call_Name_kw (ld_glob I hg hm (PySem.W.callWith_KW (h₀ := X.base) I.ok.mod.kin hk hall (thn (ha.run pos pins s σ H _ I h) ?_) hpl he) hdb)
  intro us s1 ⟨vs, H1, I1, r, q⟩
  refine thn (hkw.run pos pins s1 σ H1 _ I1 q) ?_
  intro ws s2 ⟨zs, H2, I2, rz, l1, l2, q2⟩
  refine ⟨I2.kIn, ?_⟩
  rw [hks]
  exact callG_end (args := ⟨us, ks.zip ws⟩) F hr hgd hx I2 (hb s2 us ws I2.kIn (r.length.symm.trans l1) (rz.length.symm.trans l2)) (CS.Vals.pick (r.append rz) pm) q2
theorem pe_callKG0 {pm : List Nat} (F : FnG X.prog X.w X.K X.mg X.base CX k f fd ps sp) (hr : Room k X.A) (hgd : X.A.guards = some []) (hg : Gl X x) (hm : X.mg x = some (.ref f)) (hk : PySem.W.keepIn X.K (.ref f) = true) (hb : KB X.K fd ps 0 ks pm) (hx : Passes CX X E)
    (hkw : PK X kws tk) (hall : (backToKw pos (keywordEach kws X.env)).all (·.1.isSome) = true) (hks : (backToKw pos (keywordEach kws X.env)).filterMap (·.1) = ks)
    (hdb : (x == ("__debug__" : Str)) = false) (hpl : ((backTo pos (starEach [] X.env)).any (·.1) || (backToKw pos (keywordEach kws X.env)).any (·.1.isNone)) = false) :
    PE X (.Call (.Name x p) [] kws pos) (tCallKG 0 ks.length sp pm E tNil tk) := by
  constructor
  intro pins s σ H Q I h
  refine wpAny_Call_Name_kw (ld_glob I hg hm (PySem.W.callWith_KW0 (h₀ := X.base) I.ok.mod.kin hk hall (thn (hkw.run pos pins s σ H _ I h) ?_) hpl) hdb)
  intro ws s2 ⟨zs, H2, I2, rz, l1, l2, q2⟩
  refine ⟨I2.kIn, ?_⟩
  rw [hks]
  have hb' := hb s2 [] ws I2.kIn rfl (rz.length.symm.trans l2)
  exact callG_end (args := ⟨[], ks.zip ws⟩) F hr hgd hx I2 hb' (CS.Vals.pick (L2.Vals.append .nil rz) pm) q2
end
section
variable {P : Program} {w : World} {K : PySem.W.Frag} {mg : Str → Option Value} {base : Heap}
abbrev BIx (k : Nat) (qual : Str) (sc : Scope) (f : Addr) : Type := { q : Value × Around × List PySem.Env × Shared × Hp × XK // Room k (q.2.1.deeper (envOfC qual sc q.2.2.2.1.heap.objs.size f q.1)) ∧ (q.2.1.deeper (envOfC qual sc q.2.2.2.1.heap.objs.size f q.1)).guards = some [] }
abbrev bodyX (P : Program) (w : World) (K : PySem.W.Frag) (mg : Str → Option Value) (base : Heap) (N : List Str) (qual : Str) (sc : Scope) (f : Addr) (k : Nat) : BIx k qual sc f → Cx := fun i =>
  (cxOf CX0 P w K mg base N qual sc f i.1.1 i.1.2.1 i.1.2.2.1 i.1.2.2.2.1 i.1.2.2.2.2.1 i.1.2.2.2.2.2).nox
def DSs {ι : Type} (X : ι → Cx) (K : PySem.W.Frag) (fr : Bool) (pn m ml m' : List Nat) (st : List Stmt) (F : En → Option Out) : Prop := ∃ t : TS, (∀ i, PSs (X i) st t) ∧ SemS K fr pn m ml m' t F
theorem fnP {x qual : Str} {st : Stmt} {f : Addr} {fd : FuncData} {N ps : List Str} {k : Nat} {ml m' : List Nat} {g : List D → Option D} {F : En → Option Out} (Fu : Fun K x qual st f fd) (S : FnScope N ps (defScope st))
    (B : DSs (bodyX P w K mg base N qual (defScope st) f k) K false [] [] ml m' (defBody st) F) (hg : ∀ ds r, g ds = some r → ds.length = ps.length ∧ ∃ o, F (env0 N ds) = some o ∧ resP o = some r) : FnG P w K mg base CX0 (k + 1) f fd ps (spP K g) := by
  obtain ⟨t, hps, hsem⟩ := B
  refine Fun.okG Fu S (fun vs H Q E h => ?_) (fun cdv A outer s H vs Q E hr hgd h => ⟨t, (hps ⟨⟨cdv, A, outer, s, H, E⟩, hr, hgd⟩).nox, ?_⟩)
  · obtain ⟨S1, ds, r, _, _, ra, hgr, _⟩ := h
    rw [ra.length]; exact (hg ds r hgr).1
  · obtain ⟨S1, ds, r, x, z, ra, hgr, q⟩ := h
    obtain ⟨_, o, ho, hres⟩ := hg ds r hgr
    refine hsem (env0 N ds) (L2.start N vs) S1 H (rel_start x z ra) o ho _ ?_
    have noO : ∀ a, ¬ Own [] (L2.start N vs) a := fun a ⟨i, hi, _⟩ => by simp at hi
    have toGz : ∀ {S' H'}, Gm (Own [] (L2.start N vs)) S1 H S' H' → Ex S' H' → SzH H' → Gz S1 H S' H' := fun g xx zz => ⟨g.s, fun a o e => g.h a o e (noO a), fun a ha => g.n a (noO a) ha, xx, zz⟩
    cases o with
    | nx e =>
      cases hres
      intro σ' S' H' st' R'
      exact q .non S' H' (toGz st'.g R'.ex R'.sz) .non
    | rt d own =>
      cases hres
      intro v σ' S' H' g1 _ P' rv
      exact q v S' H' (toGz g1 P'.ex P'.sz) (by unfold RetV at rv; simpa using rv)
    | bk e => cases hres
    | ct e => cases hres
theorem fnF {x qual : Str} {st : Stmt} {f : Addr} {fd : FuncData} {N ps : List Str} {k : Nat} {ml m' : List Nat} {g : List D → Option D} {F : En → Option Out} (Fu : Fun K x qual st f fd) (S : FnScope N ps (defScope st))
    (B : DSs (bodyX P w K mg base N qual (defScope st) f k) K true [] [] ml m' (defBody st) F) (hg : ∀ ds r, g ds = some r → ds.length = ps.length ∧ ∃ own, F (env0 N ds) = some (.rt r own)) : FnG P w K mg base CX0 (k + 1) f fd ps (spF K g) := by
  obtain ⟨t, hps, hsem⟩ := B
  refine Fun.okG Fu S (fun vs H Q E h => ?_) (fun cdv A outer s H vs Q E hr hgd h => ⟨t, (hps ⟨⟨cdv, A, outer, s, H, E⟩, hr, hgd⟩).nox, ?_⟩)
  · obtain ⟨S1, ds, r, _, _, ra, hgr, _⟩ := h
    rw [ra.length]; exact (hg ds r hgr).1
  · obtain ⟨S1, ds, r, x, z, ra, hgr, q⟩ := h
    obtain ⟨_, own, ho⟩ := hg ds r hgr
    refine hsem (env0 N ds) (L2.start N vs) S1 H (rel_start x z ra) _ ho _ ?_
    have noO : ∀ a, ¬ Own [] (L2.start N vs) a := fun a ⟨i, hi, _⟩ => by simp at hi
    intro v σ' S' H' g1 _ P' rv
    unfold RetV at rv
    rw [if_pos rfl] at rv
    obtain ⟨p, xs, es, h1, h2, h3, h4, h5, h6, h7⟩ := rv
    subst h2
    exact q p xs es S' H' h1 ⟨g1.s, fun a o e => g1.h a o e (noO a), fun a ha => g1.n a (noO a) ha, P'.ex, P'.sz⟩ (h3.elim (fun z => absurd z (noO p)) id) h5 h6 h7
theorem fnM {x qual : Str} {st : Stmt} {f : Addr} {fd : FuncData} {N ps : List Str} {k : Nat} {ml m' : List Nat} {g : List D → List D → Option (D × List D)} {F : En → Option Out} (Fu : Fun K x qual st f fd) (S : FnScope N ps (defScope st))
    (B : DSs (bodyX P w K mg base N qual (defScope st) f k) K false [0] [0] ml m' (defBody st) F) (hm : 0 ∈ m') (hg : ∀ ds as r, g ds as = some r → as.length + 1 = ps.length ∧ ∃ o, F (env0 N (.list ds :: as)) = some o ∧ resM o = some r) : FnG P w K mg base CX0 (k + 1) f fd ps (spM K g) := by
  obtain ⟨t, hps, hsem⟩ := B
  refine Fun.okG Fu S (fun vs H Q E h => ?_) (fun cdv A outer s H vs Q E hr hgd h => ⟨t, (hps ⟨⟨cdv, A, outer, s, H, E⟩, hr, hgd⟩).nox, ?_⟩)
  · obtain ⟨S1, p, xs, ds, ws, as, r, ds', rfl, _, _, _, _, _, ra, hgr, _⟩ := h
    rw [List.length_cons, ra.length]; exact (hg ds as _ hgr).1
  · obtain ⟨S1, p, xs, ds, ws, as, r, ds', rfl, x, z, hS, hH, rx, ra, hgr, q⟩ := h
    obtain ⟨_, o, ho, hres⟩ := hg ds as _ hgr
    have R := rel_startM (N := N) x z hS hH rx ra
    have s0 : (L2.start N (.ref p :: ws))[0]? = some (some (.ref p)) := map_some_of (by simp)
    refine hsem _ (L2.start N (.ref p :: ws)) S1 H R o ho _ ?_
    have oO : ∀ a, Own [0] (L2.start N (.ref p :: ws)) a → a = p := fun a ⟨i, hi, e⟩ => by
      simp at hi
      subst hi
      rw [s0] at e
      cases e
      rfl
    cases o with
    | nx e =>
      intro σ' S' H' st' R'
      obtain ⟨es, he, hres⟩ := map_some hres
      cases hres
      obtain ⟨d0, ed0, he⟩ := bind_some he
      cases asL_some he
      obtain ⟨p', xs', es', k1, k2, k3, k4, k5⟩ := R'.ow 0 hm
      rw [st'.k 0 (by simp), s0] at k2
      cases k2
      have := gv_some ed0
      rw [k1] at this
      cases this
      exact q .non S' H' xs' (st'.g.mono oO) R'.ex R'.sz k3 k4 k5 .non
    | rt d own =>
      intro v σ' S' H' g1 hk P' rv
      have : ∃ es, own = [.list es] ∧ d = r ∧ es = ds' := by
        unfold resM at hres
        split at hres
        · rename_i e; cases e; cases hres; exact ⟨_, rfl, rfl, rfl⟩
        · rename_i e; cases e
        · cases hres
      obtain ⟨es, rfl, rfl, rfl⟩ := this
      obtain ⟨p', xs', es', k1, k2, k3, k4, k5⟩ := P'.ow 0 0 rfl
      rw [hk 0 (by simp), s0] at k2
      cases k2
      cases k1
      exact q v S' H' xs' (g1.mono oO) P'.ex P'.sz k3 k4 k5 (by unfold RetV at rv; simpa using rv)
    | bk e => cases hres
    | ct e => cases hres
end
/-! the end of a law -/
theorem law_callG {P : Program} {w : World} {K : PySem.W.Frag} {mg mb : Str → Option Value} {CX : CXT} {k : Nat} {fa a : Addr} {fd : FuncData} {x : Str} {sp : Sp} {s₁ : Shared} {vs : List Value} {ns : List Int}
    (KX : K.In s₁.heap) (hns : s₁.heap.Ns mainGlobals mg) (hbn : s₁.heap.Ns builtinsNs mb) (hbb : ∀ x : Str, x ≠ "__name__" → mb x = bootBuiltins x) (hlim : s₁.heap.NoLimit) (hgen : s₁.gens = #[])
    (ha : s₁.heap.get? a = some { cls := .type "list", data := .seq vs.toArray }) (hi : IntsAre vs ns) (hl : ns.length ≤ sizeLine) (hr : Room k callerA)
    (F : ∀ base : Heap, K.In base → base.Ns mainGlobals mg → FnG P w K mg base CX k fa fd [x] sp) (hbind : ∀ (s : Shared) (u : Value), BindsTo s fd ⟨[u], []⟩ [(x, u)])
    (hsp : ∀ H : Hp, SzH H → SqL K H a (ns.map V.int) → sp [.ref a] H (fun v _ => v = .bl true) fun _ _ _ => False) (hCX : ∀ H e s', CX [] H s₁ (fun _ _ _ => False) e s' → False) :
    codeAny (model P w) callerA (.call (.ref fa) ⟨[.ref a], []⟩) (fun r s' => r = .ok (.ret (.bool true)) ∧ OldK s₁.heap s'.heap ∧ s'.os = s₁.os ∧ AllBare s'.gens) s₁ := by
  let so : Obj := { cls := .type "list", data := .seq vs.toArray }
  have rv := vals_ints hi
  -- the abstract heap: the script alone, unless it stands in the written part
  let H : Hp := fun b => if b = a ∧ K.lookup a = none then some (.frz so (.lst (ns.map V.int))) else none
  have hH : ∀ {b : Addr} {u : HO}, H b = some u → b = a ∧ K.lookup a = none ∧ u = .frz so (.lst (ns.map V.int)) := by
    intro b u e
    have e' : (if b = a ∧ K.lookup a = none then some (HO.frz so (.lst (ns.map V.int))) else none) = some u := e
    split at e'
    · rename_i h; cases e'; exact ⟨h.1, h.2, rfl⟩
    · cases e'
  have hok : HOk P w H s₁.heap := by
    intro b u e
    obtain ⟨rfl, _, rfl⟩ := hH e
    exact ⟨ha, by rw [List.length_map]; exact hl, vs, _, rv, ha⟩
  have sz : SzH H := by
    intro b u e
    obtain ⟨_, _, rfl⟩ := hH e
    show (ns.map V.int).length ≤ sizeLine
    rw [List.length_map]; exact hl
  have seq : SqL K H a (ns.map V.int) := by
    cases hk : K.lookup a with
    | none => exact .inl (.inr ⟨so, if_pos ⟨rfl, hk⟩⟩)
    | some o =>
      have e := KX a o hk
      rw [ha] at e
      cases e
      exact .inr ⟨_, vs.toArray, _, hk, rfl, rfl, rfl, by rw [List.size_toArray, hi.length]; exact hl, by simpa using rv⟩
  have dictFree : ∀ {b : Addr} {o : Obj} {des : Array DictEntry} {ep : Nat}, s₁.heap.get? b = some o → o.data = .dict des ep → H b = none := by
    intro b o des ep e d
    cases q : H b with
    | none => rfl
    | some u =>
      obtain ⟨rfl, _, _⟩ := hH q
      rw [ha] at e
      cases e
      cases (show Data.seq vs.toArray 0 = Data.dict des ep from d)
  have nsIn : ∀ {b : Addr} {m : Str → Option Value}, s₁.heap.Ns b m → (hidT s₁.heap H).Ns b m := by
    intro b m ⟨o, des, ep, e, d, r⟩
    exact ⟨o, des, ep, hidT_get e (dictFree e d), d, r⟩
  have kin : K.In (hidT s₁.heap H) := by
    intro b o e
    refine hidT_get (KX b o e) ?_
    cases q : H b with
    | none => rfl
    | some u =>
      obtain ⟨rfl, z, _⟩ := hH q
      rw [z] at e; cases e
  obtain ⟨mc, l1, l2⟩ := hlim
  have md : Mod K mg (hidT s₁.heap H) := ⟨kin, nsIn hns, ⟨mb, nsIn hbn, hbb⟩, ⟨mc, nsIn l1, l2⟩⟩
  have e0 : Env0 P w K mg (hidT s₁.heap H) callerA [] s₁ H :=
    ⟨rfl, md, fun b o e => of_hidT e, Nat.le_of_eq (hidT_size _ _), trivial, fun b hb => absurd (show b ∈ ([] : List Addr) from hb) (by simp), hok, .of_eq hgen⟩
  have G := (F _ kin (nsIn hns)).go callerA hr rfl [] s₁ H e0 ⟨[.ref a], []⟩ [.ref a] [.ref a] (hbind s₁ (.ref a)) (.cons rfl .nil) _ _ (hsp H sz seq)
  refine codeAny_mono G ?_
  intro r s' h
  match r, h with
  | .error e, h => exact (hCX H e s' h).elim
  | .ok .next, h => exact (show False from h).elim
  | .ok .brk, h => exact (show False from h).elim
  | .ok .cont, h => exact (show False from h).elim
  | .ok (.ret u), ⟨v, H', os, bare, un, hok', r', q⟩ =>
    have q1 : v = .bl true := q
    subst q1
    cases (show u = Value.bool true from r')
    refine ⟨rfl, OldK.of_keep fun b o e => ?_, os, bare⟩
    cases q : H b with
    | none => exact un.keep b o e q (fun z => absurd (show b ∈ ([] : List Addr) from z) (by simp)) (by simp)
    | some u =>
      obtain ⟨_, _, rfl⟩ := hH q
      have h2 := hok' b _ (un.frzs b so _ q)
      have h1 := hok b _ q
      have h3 : s₁.heap.get? b = some so := h1.1
      rw [e] at h3
      cases h3
      exact h2.1
theorem walk_ofG {l : PySem.W.OpenLaw} {n k : Nat} {q : Program} {loose : List Str} {XP : (Str → Option Value) → Heap → Prop} {YP : World → Heap → Prop} {d : DefRec} {K : Params → PySem.W.Frag} {CX : World → CXT} {sp : World → Sp} {x : Str}
    (hn : l.most = some n) (hn2 : n ≤ sizeLine) (hdf : d.params.defaults = []) (hr : Room k callerA)
    (hY : ∀ (w : World) (h : Heap), YP w h → (K w.params).In h)
    (F : ∀ (w : World) (mg : Str → Option Value) (fa : Addr) (h : Heap), (K w.params).In h → h.Ns mainGlobals mg → mg d.name = some (.ref fa) →
      ∃ fd : FuncData, (∀ (s : Shared) (u : Value), BindsTo s fd ⟨[u], []⟩ [(x, u)]) ∧
        ∀ base : Heap, (K w.params).In base → base.Ns mainGlobals mg → FnG l.prog w (K w.params) mg base (CX w) k fa fd [x] (sp w))
    (hsp : ∀ (w : World) (H : Hp) (a : Addr) (ns : List Int), ns.length ≤ n → (∀ z ∈ ns, Builtin.Int.intBits z ≤ 1048576) → SzH H → SqL (K w.params) H a (ns.map V.int) → sp w [.ref a] H (fun v _ => v = .bl true) fun _ _ _ => False)
    (hCX : ∀ (w : World) (H : Hp) (s : Shared) (e : Value) (s' : Shared), CX w [] H s (fun _ _ _ => False) e s' → False) :
    PySem.W.WalkO q loose XP YP l.row.toRowW d [] (fun f vs => PySem.call f vs) := by
  refine Att.attach_callB hn hdf ?_
  intro w s₀ s₁ mg mb fa o pm cd doc a vs ns G Y ho hd hcd hmg hobj hints hlen hbits hgen
  obtain ⟨fd, hb, hF⟩ := F w mg fa _ (hY w _ Y) G.T.g hmg
  exact law_callG (hY w _ Y) G.T.g G.T.b G.T.builtins G.T.nolimit hgen hobj hints (Nat.le_trans hlen hn2) hr hF hb (fun H hz hS => hsp w H a ns hlen hbits hz hS) (fun H e s' => hCX w H s₁ e s')
end CS

/-! CsE: what operators and built-in functions are worth, by data. -/
namespace CS
open PySem PySem.Spec PyProof.Rows L2
open Evl (Ex ex_l ex_t)
theorem OpR.or {X : Cx} {f : Value → Value → PySem.Sem Value} {r r' : R2} (h : OpR X f r) (h' : OpR X f r') : OpR X f (fun x y H Q => r x y H Q ∨ r' x y H Q) := by
  intro pins s σ H x y v u Q I rx ry q
  rcases q with q | q
  · exact h pins s σ H x y v u Q I rx ry q
  · exact h' pins s σ H x y v u Q I rx ry q
theorem CallR.or {X : Cx} {f : Value} {r r' : List V → Hp → VK → Prop} (h : CallR X f r) (h' : CallR X f r') : CallR X f (fun xs H Q => r xs H Q ∨ r' xs H Q) := by
  intro pins s σ H xs us Q I rx q
  rcases q with q | q
  · exact h pins s σ H xs us Q I rx q
  · exact h' pins s σ H xs us Q I rx q
section
variable {K : PySem.W.Frag}
theorem newL {S H : Hp} {xs : List V} {ds : List D} (x : Ex S H) (z : SzH H) (r : RpAll K S xs ds) (hz : ds.length ≤ sizeLine) {p : Addr} (hp : H p = none) : Gz S H (upd S p (.lst xs)) (upd H p (.lst xs)) ∧ Rp K (upd S p (.lst xs)) (.ref p) (.list ds) :=
  ⟨Gz.new x z hp (by show xs.length ≤ sizeLine; rw [r.length]; exact hz), rp_newL x hp r⟩
theorem newT {S H : Hp} {xs : List V} {ds : List D} (x : Ex S H) (z : SzH H) (r : RpAll K S xs ds) (hz : ds.length ≤ sizeLine) {p : Addr} (hp : H p = none) : Gz S H (upd S p (.tup xs)) (upd H p (.tup xs)) ∧ Rp K (upd S p (.tup xs)) (.ref p) (.tuple ds) :=
  ⟨Gz.new x z hp (by show xs.length ≤ sizeLine; rw [r.length]; exact hz), rp_newT x hp r⟩
/-! ### + -/
/-- list + list, both as they may be read -/
def rCatS (K : PySem.W.Frag) : R2 := fun x y H Q => ∃ l b xs zs, x = .ref l ∧ y = .ref b ∧ SqL K H l xs ∧ SqL K H b zs ∧ xs.length + zs.length ≤ sizeLine ∧ ∀ p, H p = none → Q (.ref p) (upd H p (.lst (xs ++ zs)))
theorem op_catS {X : Cx} : OpR X (binaryOp .Add) (rCatS X.K) := by
  intro pins s σ H x y v u Q I rx ry h
  obtain ⟨l, b, xs, zs, rfl, rfl, h1, h2, hz, q⟩ := h
  cases rx
  cases ry
  obtain ⟨i1, r1, ⟨o1, n1, g1, c1, d1, e1⟩, _⟩ := I.list h1
  obtain ⟨i2, r2, ⟨o2, n2, g2, c2, d2, e2⟩, _⟩ := I.list h2
  have l1 := r1.length
  have l2 := r2.length
  obtain ⟨cl1, di1, da1, sl1⟩ := o1
  obtain ⟨cl2, di2, da2, sl2⟩ := o2
  simp only at c1 e1 c2 e2
  subst c1 e1 c2 e2
  have app : i1.toArray ++ i2.toArray = (i1 ++ i2).toArray := by simp
  refine concat_meets ⟨_, g1, rfl⟩ ⟨_, g2, rfl⟩ noFill_list_add seq_list_add PySem.F.slot_list_add PySem.F.entry_list_add (PySem.F.args_list_add_2 _ _)
    (list_addW l b i1.toArray i2.toArray n1 n2 di1 di2 sl1 sl2 (by simp; omega)) ⟨g1, g2, ?_⟩
  rw [app]
  exact ⟨.ref _, _, I.lnew (t' := s.toks) (r1.append r2) (by rw [List.length_append]; omega), rfl, q _ I.fresh⟩
def rAddStr : R2 := fun x y H Q => ∃ i j, x = .str i ∧ y = .str j ∧ i.length + j.length ≤ sizeLine ∧ Q (.str (i ++ j)) H
def rAddU (K : PySem.W.Frag) : R2 := fun x y H Q => rI0 (fun i j => .int (i + j)) x y H Q ∨ (fun x y H Q => rCatS K x y H Q ∨ (fun x y H Q => rCatA K x y H Q ∨ rAddStr x y H Q) x y H Q) x y H Q
theorem op_addU {X : Cx} : OpR X (binaryOp .Add) (rAddU X.K) := OpR.or op_add (OpR.or op_catS (OpR.or op_catA op_add_str))
def dAdd : D → D → Option D
  | .int a, .int b => some (.int (a + b))
  | .list a, .list b => if a.length + b.length ≤ sizeLine then some (.list (a ++ b)) else none
  | .tuple a, .tuple b => if a.length + b.length ≤ sizeLine then some (.tuple (a ++ b)) else none
  | .str a, .str b => if a.length + b.length ≤ sizeLine then some (.str (a ++ b)) else none
  | .dict [(.none, .list a)], .list b => if a.length + b.length ≤ sizeLine then some (.list (a ++ b)) else none
  | _, _ => none
theorem scr_inv {S : Hp} {x : V} {ds : List D} (h : Rp K S x (.dict [(.none, .list ds)])) : ∃ (a : Addr) (ns : List Int), x = .ref a ∧ ds = ns.map PyData.int ∧ SqL K S a (ns.map V.int) := by
  cases h with
  | scr hs => exact ⟨_, _, rfl, rfl, hs⟩
theorem opd_add : OpD K (rAddU K) dAdd := fun S H x y a b d e z ra rb g Q q => by
  unfold dAdd at g
  split at g
  · cases g
    exact .inl ⟨_, _, ra.int_inv, rb.int_inv, q _ S H (Gz.refl e z) (.int _)⟩
  · split at g <;> cases g
    rename_i hz
    obtain ⟨l, xs, rfl, hx, rx⟩ := ra.list_inv
    obtain ⟨m, ys, rfl, hy, ry⟩ := rb.list_inv
    refine .inr (.inl ⟨l, m, xs, ys, rfl, rfl, SqL.of (e _ _ hx), SqL.of (e _ _ hy), by rw [rx.length, ry.length]; exact hz, fun p hp => ?_⟩)
    obtain ⟨k1, k2⟩ := newL e z (rx.append ry) (by rw [List.length_append]; exact hz) hp
    exact q _ _ _ k1 k2
  · split at g <;> cases g
    rename_i hz
    obtain ⟨l, xs, rfl, hx, rx⟩ := ra.tuple_inv
    obtain ⟨m, ys, rfl, hy, ry⟩ := rb.tuple_inv
    refine .inr (.inr (.inl ⟨l, m, xs, ys, rfl, rfl, SqT.of (e _ _ hx), SqT.of (e _ _ hy), by rw [rx.length, ry.length]; exact hz, fun h => ?_, fun _ h => ?_, fun _ _ p hp => ?_⟩))
    · subst h
      cases rx
      exact q _ S H (Gz.refl e z) rb
    · subst h
      cases ry
      rw [List.append_nil] at q
      exact q _ S H (Gz.refl e z) ra
    · obtain ⟨k1, k2⟩ := newT e z (rx.append ry) (by rw [List.length_append]; exact hz) hp
      exact q _ _ _ k1 k2
  · split at g <;> cases g
    rename_i hz
    exact .inr (.inr (.inr ⟨_, _, ra.str_inv, rb.str_inv, hz, q _ S H (Gz.refl e z) (.str _)⟩))
  · split at g <;> cases g
    rename_i hz
    obtain ⟨l, ns, rfl, rfl, hx⟩ := scr_inv ra
    obtain ⟨m, ys, rfl, hy, ry⟩ := rb.list_inv
    refine .inr (.inl ⟨l, m, _, ys, rfl, rfl, ex_l e hx, SqL.of (e _ _ hy), by rw [ry.length]; simpa using hz, fun p hp => ?_⟩)
    obtain ⟨k1, k2⟩ := newL e z ((RpAll.ints ns).append ry) (by rw [List.length_append]; exact hz) hp
    exact q _ _ _ k1 k2
  · cases g
/-! ### -, *, //, %, **, shifts, | and & of ints -/
def dI (C : Int → Int → Prop) [∀ i j, Decidable (C i j)] (f : Int → Int → Int) : D → D → Option D
  | .int a, .int b => if C a b then some (.int (f a b)) else none
  | _, _ => none
theorem opd_I {C : Int → Int → Prop} [∀ i j, Decidable (C i j)] {f : Int → Int → Int} : OpD K (rI C fun i j => .int (f i j)) (dI C f) := fun S H x y a b d e z ra rb g Q q => by
  unfold dI at g
  split at g
  · split at g <;> cases g
    rename_i hc
    exact ⟨_, _, ra.int_inv, rb.int_inv, hc, q _ S H (Gz.refl e z) (.int _)⟩
  · cases g
def dI0 (f : Int → Int → Int) : D → D → Option D
  | .int a, .int b => some (.int (f a b))
  | _, _ => none
theorem opd_I0 {f : Int → Int → Int} : OpD K (rI0 fun i j => .int (f i j)) (dI0 f) := fun S H x y a b d e z ra rb g Q q => by
  unfold dI0 at g
  split at g
  · cases g
    exact ⟨_, _, ra.int_inv, rb.int_inv, q _ S H (Gz.refl e z) (.int _)⟩
  · cases g
abbrev dSub := dI0 fun i j => i - j
instance {i j : Int} : Decidable (IntMulOk i j) := by unfold IntMulOk; exact inferInstance
theorem op_mulX {X : Cx} : OpR X (binaryOp .Mult) (rI IntMulOk fun i j => .int (i * j)) := opI fun _ _ _ _ _ _ _ hc q => mul_int q hc
def rMulU (K : PySem.W.Frag) : R2 := fun x y H Q => rI IntMulOk (fun i j => .int (i * j)) x y H Q ∨ (fun x y H Q => rRep x y H Q ∨ rRepT K x y H Q) x y H Q
theorem op_mulU {X : Cx} : OpR X (binaryOp .Mult) (rMulU X.K) := OpR.or op_mulX (OpR.or op_rep op_repT)
def repD (k : Nat) (ds : List D) : List D := (List.replicate k ds).flatten
theorem RpAll.rep {S : Hp} {xs : List V} {ds : List D} (r : RpAll K S xs ds) : ∀ k : Nat, RpAll K S (List.replicate k xs).flatten (List.replicate k ds).flatten
  | 0 => .nil
  | k + 1 => by
    rw [List.replicate_succ, List.replicate_succ, List.flatten_cons, List.flatten_cons]
    exact r.append (RpAll.rep r k)
def dMul : D → D → Option D
  | .int a, .int b => if IntMulOk a b then some (.int (a * b)) else none
  | .list a, .int k => if -(2 ^ 63) ≤ k ∧ k < 2 ^ 63 ∧ a.length * k.toNat ≤ sizeLine then some (.list (repD k.toNat a)) else none
  | .tuple a, .int k => if a ≠ [] ∧ 2 ≤ k ∧ k ≤ 1000 ∧ a.length ≤ 1000 then some (.tuple (repD k.toNat a)) else none
  | _, _ => none
theorem repD_length (k : Nat) (ds : List D) : (repD k ds).length = k * ds.length := by
  unfold repD; simp [List.length_flatten]
theorem opd_mul : OpD K (rMulU K) dMul := fun S H x y a b d e z ra rb g Q q => by
  unfold dMul at g
  split at g
  · split at g <;> cases g
    rename_i hc
    exact .inl ⟨_, _, ra.int_inv, rb.int_inv, hc, q _ S H (Gz.refl e z) (.int _)⟩
  · split at g <;> cases g
    rename_i a k hc
    obtain ⟨l, xs, rfl, hx, rx⟩ := ra.list_inv
    refine .inr (.inl ⟨l, k, xs, rfl, rb.int_inv, e _ _ hx, hc.1, hc.2.1, by rw [rx.length]; exact hc.2.2, fun p hp => ?_⟩)
    obtain ⟨k1, k2⟩ := newL e z (rx.rep k.toNat) (by have := repD_length k.toNat a; unfold repD at this; rw [this, Nat.mul_comm]; exact hc.2.2) hp
    exact q _ _ _ k1 k2
  · split at g <;> cases g
    rename_i a k hc
    obtain ⟨l, xs, rfl, hx, rx⟩ := ra.tuple_inv
    refine .inr (.inr ⟨l, k, xs, rfl, rb.int_inv, SqT.of (e _ _ hx), ?_, hc.2.1, hc.2.2.1, by rw [rx.length]; exact hc.2.2.2, fun p hp => ?_⟩)
    · intro h; subst h; cases rx; exact hc.1 rfl
    · obtain ⟨k1, k2⟩ := newT e z (rx.rep k.toNat) (by
        have := repD_length k.toNat a
        unfold repD at this
        rw [this, sizeLine_eq]
        have h1 := hc.2.2
        have : k.toNat * a.length ≤ 1000 * 1000 := Nat.mul_le_mul (by omega) h1.2
        omega) hp
      exact q _ _ _ k1 k2
  · cases g
/-- a divisor that is not 0 and below 2 ^ 9000 in size -/
def COkDiv (_ j : Int) : Prop := j ≠ 0 ∧ j.natAbs.log2 < 9000
instance {i j : Int} : Decidable (COkDiv i j) := by unfold COkDiv; exact inferInstance
theorem op_fdivU {X : Cx} : OpR X (binaryOp .FloorDiv) (rI COkDiv fun i j => .int (i.fdiv j)) := opI fun _ _ _ _ _ _ _ hc q => floordiv_int hc.1 q (.inl (PyProof.noPylong_of_log2 hc.2))
abbrev dFdiv := dI COkDiv fun i j => i.fdiv j
def CNe0 (_ j : Int) : Prop := j ≠ 0
instance {i j : Int} : Decidable (CNe0 i j) := by unfold CNe0; exact inferInstance
theorem op_modU {X : Cx} : OpR X (binaryOp .Mod) (rI CNe0 fun i j => .int (i.fmod j)) := opI fun _ _ _ _ _ _ _ hc q => mod_int' hc q
abbrev dMod := dI CNe0 fun i j => i.fmod j
def CPowU (i j : Int) : Prop := 0 ≤ j ∧ (Builtin.Int.intBits i : Int) * j ≤ 2 ^ 27
instance {i j : Int} : Decidable (CPowU i j) := by unfold CPowU; exact inferInstance
theorem op_powU {X : Cx} : OpR X (binaryOp .Pow) (rI CPowU fun i j => .int (i ^ j.toNat)) := opI fun _ _ _ _ _ _ _ hc q => pow_int hc.1 hc.2 q
abbrev dPow := dI CPowU fun i j => i ^ j.toNat
instance {i j : Int} : Decidable (L2.CPow i j) := by unfold L2.CPow; exact inferInstance
abbrev dShl := dI L2.CPow fun i j => i * 2 ^ j.toNat
def CNn (_ j : Int) : Prop := 0 ≤ j
instance {i j : Int} : Decidable (CNn i j) := by unfold CNn; exact inferInstance
theorem op_shrU {X : Cx} : OpR X (binaryOp .RShift) (rI CNn fun i j => .int (i / 2 ^ j.toNat)) := op_shr
abbrev dShr := dI CNn fun i j => i / 2 ^ j.toNat
abbrev dOr := dI0 fun i j => Builtin.bitOr i j
abbrev dAnd := dI0 fun i j => Builtin.bitAnd i j
def dNeg : D → Option D
  | .int a => some (.int (-a))
  | _ => none
theorem und_neg : UnD K (rU fun i => .int (-i)) dNeg := fun S H x a d e z ra g Q q => by
  unfold dNeg at g
  split at g
  · cases g
    exact ⟨_, ra.int_inv, q _ S H (Gz.refl e z) (.int _)⟩
  · cases g
/-! ### comparisons -/
/-- the script as a list -/
def unS : D → D
  | .dict [(.none, .list ns)] => .list ns
  | d => d
theorem Rp.dpU {S : Hp} {x : V} {d : D} (r : Rp K S x d) (h : (unS d).canLay0 = true) : Dp K S x (unS d) := by
  cases r with
  | non => exact .non
  | bl b => exact .bl b
  | int i => exact .int i
  | str y => exact .str y
  | lst hs ha => exact Rp.dp h (.lst hs ha)
  | tup hs ha => exact Rp.dp h (.tup hs ha)
  | scr hs => exact .lst hs (RpAll.dp' _ _ (by simpa [unS, PyData.canLay0] using h) (RpAll.ints _))
def dEq (neg : Bool) : D → D → Option D
  | .str x, .str y => some (.bool (if neg then !(x == y) else x == y))
  | a, b => if SeqAt.shaped (unS a) = true ∧ SeqAt.shaped (unS b) = true then some (.bool (if neg then !PyData.eqv (unS a) (unS b) else PyData.eqv (unS a) (unS b))) else none
def rEqU (K : PySem.W.Frag) : R2 := fun x y H Q => rEqD K x y H Q ∨ rEq x y H Q
def rNeU (K : PySem.W.Frag) : R2 := fun x y H Q => rNeD K x y H Q ∨ rNe x y H Q
theorem op_eqU {X : Cx} (hu : X.A.units + 64 < cLine) : OpR X (compareOp .Eq) (rEqU X.K) := OpR.or (op_eqD hu) op_eq
theorem op_neU {X : Cx} (hu : X.A.units + 64 < cLine) : OpR X (compareOp .NotEq) (rNeU X.K) := OpR.or (op_neD hu) op_ne
theorem opd_eq : OpD K (rEqU K) (dEq false) := fun S H x y a b d e z ra rb g Q q => by
  unfold dEq at g
  split at g
  · cases g
    cases ra
    cases rb
    refine .inr ⟨rfl, ?_⟩
    rw [dec_str]
    exact q _ S H (Gz.refl e z) (.bl _)
  · split at g <;> cases g
    rename_i h
    exact .inl ⟨unS a, unS b, (ra.mono e).dpU (SeqAt.canLay_of_shaped h.1), (rb.mono e).dpU (SeqAt.canLay_of_shaped h.2), h.1, h.2, q _ S H (Gz.refl e z) (.bl _)⟩
theorem opd_ne : OpD K (rNeU K) (dEq true) := fun S H x y a b d e z ra rb g Q q => by
  unfold dEq at g
  split at g
  · cases g
    cases ra
    cases rb
    refine .inr ⟨rfl, ?_⟩
    rw [dec_str]
    exact q _ S H (Gz.refl e z) (.bl _)
  · split at g <;> cases g
    rename_i h
    exact .inl ⟨unS a, unS b, (ra.mono e).dpU (SeqAt.canLay_of_shaped h.1), (rb.mono e).dpU (SeqAt.canLay_of_shaped h.2), h.1, h.2, q _ S H (Gz.refl e z) (.bl _)⟩
def dCmp (f : Int → Int → Bool) : D → D → Option D
  | .int a, .int b => some (.bool (f a b))
  | _, _ => none
theorem opd_cmp {f : Int → Int → Bool} : OpD K (rI0 fun i j => .bl (f i j)) (dCmp f) := fun S H x y a b d e z ra rb g Q q => by
  unfold dCmp at g
  split at g
  · cases g
    exact ⟨_, _, ra.int_inv, rb.int_inv, q _ S H (Gz.refl e z) (.bl _)⟩
  · cases g
abbrev dLt := dCmp fun i j => decide (i < j)
abbrev dLe := dCmp fun i j => decide (i ≤ j)
abbrev dGt := dCmp fun i j => decide (j < i)
abbrev dGe := dCmp fun i j => decide (j ≤ i)
/-- < of tuples of ints -/
def dLtT : D → D → Option D := fun a b => (asT a).bind fun xs => (asT b).bind fun ys => (asInts xs).bind fun ns => (asInts ys).map fun ms => .bool (HT.lexLt ns ms)
theorem opd_ltT : OpD K (rLtT K) dLtT := fun S H x y a b d e z ra rb g Q q => by
  obtain ⟨xs, ex, g⟩ := bind_some g
  obtain ⟨ys, ey, g⟩ := bind_some g
  obtain ⟨ns, en, g⟩ := bind_some g
  obtain ⟨ms, em, rfl⟩ := map_some g
  have := asT_some ex; subst this
  have := asT_some ey; subst this
  have := asInts_some en; subst this
  have := asInts_some em; subst this
  obtain ⟨l, vs, rfl, hx, rx⟩ := ra.tuple_inv
  obtain ⟨m, ws, rfl, hy, ry⟩ := rb.tuple_inv
  have := rx.ints_inv; subst this
  have := ry.ints_inv; subst this
  exact ⟨l, m, ns, ms, rfl, rfl, SqT.of (e _ _ hx), SqT.of (e _ _ hy), q _ S H (Gz.refl e z) (.bl _)⟩
/-- is None -/
def dIsN : D → D → Option D
  | .none, .none => some (.bool true)
  | .dict _, .none => none
  | _, .none => some (.bool false)
  | _, _ => none
def dNotN : D → D → Option D := fun a b => (dIsN a b).bind fun d => (asB d).map fun k => .bool (!k)
theorem isN_of {S : Hp} {x y : V} {a b : D} {d : D} (ra : Rp K S x a) (rb : Rp K S y b) (g : dIsN a b = some d) : y = .non ∧ d = .bool (decide (x = .non)) := by
  unfold dIsN at g
  split at g
  · cases g; exact ⟨rb.none_inv, by rw [ra.none_inv]; simp⟩
  · cases g
  · rename_i h1 h2
    cases g
    refine ⟨rb.none_inv, ?_⟩
    cases ra with
    | non => exact absurd rfl h1
    | bl b => simp
    | int i => simp
    | str x => simp
    | lst _ _ => simp
    | tup _ _ => simp
    | scr _ => exact absurd rfl (h2 _)
  · cases g
theorem opd_isN : OpD K (fun x y H Q => y = .non ∧ Q (.bl (decide (x = .non))) H) dIsN := fun S H x y a b d e z ra rb g Q q => by
  obtain ⟨h1, rfl⟩ := isN_of ra rb g
  exact ⟨h1, q _ S H (Gz.refl e z) (.bl _)⟩
theorem opd_notN : OpD K (fun x y H Q => y = .non ∧ Q (.bl (!decide (x = .non))) H) dNotN := fun S H x y a b d e z ra rb g Q q => by
  obtain ⟨d1, h1, g⟩ := bind_some g
  obtain ⟨k, hk, rfl⟩ := map_some g
  obtain ⟨h2, rfl⟩ := isN_of ra rb h1
  cases hk
  exact ⟨h2, q _ S H (Gz.refl e z) (.bl _)⟩
/-- in, not in a list of data -/
def dIn (neg : Bool) : D → D → Option D
  | a, .list bs => if SeqAt.shaped a = true ∧ SeqAt.shaped (.list bs) = true then some (.bool (if neg then !(bs.any fun z => PyData.eqv z a) else bs.any fun z => PyData.eqv z a)) else none
  | _, _ => none
theorem opd_in : OpD K (rInD K) (dIn false) := fun S H x y a b d e z ra rb g Q q => by
  unfold dIn at g
  split at g
  · split at g <;> cases g
    rename_i h
    exact ⟨_, _, (ra.mono e).dp (SeqAt.canLay_of_shaped h.1), (rb.mono e).dp (SeqAt.canLay_of_shaped h.2), h.1, h.2, q _ S H (Gz.refl e z) (.bl _)⟩
  · cases g
theorem opd_notIn : OpD K (rNotInD K) (dIn true) := fun S H x y a b d e z ra rb g Q q => by
  unfold dIn at g
  split at g
  · split at g <;> cases g
    rename_i h
    exact ⟨_, _, (ra.mono e).dp (SeqAt.canLay_of_shaped h.1), (rb.mono e).dp (SeqAt.canLay_of_shaped h.2), h.1, h.2, q _ S H (Gz.refl e z) (.bl _)⟩
  · cases g
/-! ### subscripts, slices -/
def dIx : D → D → Option D
  | .list ds, .int i => atI ds i
  | .tuple ds, .int i => atI ds i
  | _, _ => none
def rIxU (K : PySem.W.Frag) : R2 := fun x y H Q => rIxL K x y H Q ∨ rIxT K x y H Q
theorem ix_U {X : Cx} : IxR X (rIxU X.K) := IxR.or ix_list ix_tup
theorem opd_ix : OpD K (rIxU K) dIx := fun S H x y a b d e z ra rb g Q q => by
  unfold dIx at g
  split at g
  · obtain ⟨l, xs, rfl, hx, rx⟩ := ra.list_inv
    obtain ⟨v, hv, rv⟩ := rx.atI g
    exact .inl ⟨l, xs, _, v, rfl, rb.int_inv, SqL.of (e _ _ hx), hv, q v S H (Gz.refl e z) rv⟩
  · obtain ⟨l, xs, rfl, hx, rx⟩ := ra.tuple_inv
    obtain ⟨v, hv, rv⟩ := rx.atI g
    exact .inr ⟨l, xs, _, v, rfl, rb.int_inv, SqT.of (e _ _ hx), hv, q v S H (Gz.refl e z) rv⟩
  · cases g
def cutD (ds : List D) (lo hi : Option Int) : List D := (ds.drop (HT.sIx ds.length 0 lo)).take (HT.sIx ds.length ds.length hi - HT.sIx ds.length 0 lo)
theorem RpAll.cut {S : Hp} {xs : List V} {ds : List D} (r : RpAll K S xs ds) (lo hi : Option Int) : RpAll K S (cutV xs lo hi) (cutD ds lo hi) := by
  unfold cutV cutD
  rw [r.length]
  exact (r.drop _).take _
theorem cutD_le (ds : List D) (lo hi : Option Int) : (cutD ds lo hi).length ≤ ds.length := by
  unfold cutD
  rw [List.length_take, List.length_drop]
  omega
/-- slices of lists and tuples -/
def rSlU (K : PySem.W.Frag) : V → Option Int → Option Int → Hp → VK → Prop := fun x lo hi H Q => rSlL K x lo hi H Q ∨ rSlA K x lo hi H Q
theorem sl_U {X : Cx} : SlR X (rSlU X.K) := SlR.or sl_list sl_tupA
def dSl (lo hi : Option Int) : D → Option D
  | .list ds => some (.list (cutD ds lo hi))
  | .tuple ds => some (.tuple (cutD ds lo hi))
  | _ => none
theorem sld {S H : Hp} {x : V} {a d : D} {lo hi : Option Int} (e : Ex S H) (z : SzH H) (ra : Rp K S x a) (g : dSl lo hi a = some d) (Q : VK) (q : ∀ v S' H', Gz S H S' H' → Rp K S' v d → Q v H') : rSlU K x lo hi H Q := by
  unfold dSl at g
  split at g
  · cases g
    obtain ⟨l, xs, rfl, hx, rx⟩ := ra.list_inv
    refine .inl ⟨l, xs, rfl, SqL.of (e _ _ hx), fun p hp => ?_⟩
    have h0 := z.list (K := K) (SqL.of (e _ _ hx))
    obtain ⟨k1, k2⟩ := newL e z (rx.cut lo hi) (Nat.le_trans (cutD_le _ lo hi) (by rw [← rx.length]; exact h0)) hp
    exact q _ _ _ k1 k2
  · cases g
    obtain ⟨l, xs, rfl, hx, rx⟩ := ra.tuple_inv
    have h0 := z.tup (K := K) (SqT.of (e _ _ hx))
    refine .inr ⟨l, xs, rfl, SqT.of (e _ _ hx), fun hw => ?_, fun _ p hp => ?_⟩
    · have hc := rx.cut lo hi
      have hcv : cutV xs lo hi = xs := by
        unfold cutV
        rw [hw.1, hw.2]
        simp
      rw [hcv] at hc
      exact q _ S H (Gz.refl e z) (.tup hx hc)
    · obtain ⟨k1, k2⟩ := newT e z (rx.cut lo hi) (Nat.le_trans (cutD_le _ lo hi) (by rw [← rx.length]; exact h0)) hp
      exact q _ _ _ k1 k2
  · cases g
/-! ### built-in functions -/
def dLen : List D → Option D
  | [.list ds] => some (.int ds.length)
  | [.tuple ds] => some (.int ds.length)
  | [.dict [(.none, .list ds)]] => some (.int ds.length)
  | _ => none
def rLenQ (K : PySem.W.Frag) : List V → Hp → VK → Prop := fun xs H Q => ∃ p ys, xs = [.ref p] ∧ (SqL K H p ys ∨ SqT K H p ys) ∧ Q (.int ys.length) H
theorem calld_len : CallD K (rLenQ K) dLen := fun S H xs as d e z r g Q q => by
  unfold dLen at g
  split at g
  · cases g
    obtain ⟨v, rfl, rv⟩ := r.one_inv
    obtain ⟨l, ys, rfl, hx, rx⟩ := rv.list_inv
    exact ⟨l, ys, rfl, .inl (SqL.of (e _ _ hx)), q _ S H (Gz.refl e z) (by rw [rx.length]; exact .int _)⟩
  · cases g
    obtain ⟨v, rfl, rv⟩ := r.one_inv
    obtain ⟨l, ys, rfl, hx, rx⟩ := rv.tuple_inv
    exact ⟨l, ys, rfl, .inr (SqT.of (e _ _ hx)), q _ S H (Gz.refl e z) (by rw [rx.length]; exact .int _)⟩
  · cases g
    obtain ⟨v, rfl, rv⟩ := r.one_inv
    obtain ⟨l, ns, rfl, rfl, hx⟩ := scr_inv rv
    exact ⟨l, _, rfl, .inl (ex_l e hx), q _ S H (Gz.refl e z) (by rw [List.length_map, List.length_map]; exact .int _)⟩
  · cases g
def dAbs : List D → Option D
  | [.int i] => some (.int (if i < 0 then -i else i))
  | _ => none
theorem calld_abs : CallD K (fun xs H Q => ∃ i, xs = [.int i] ∧ Q (.int (if i < 0 then -i else i)) H) dAbs := fun S H xs as d e z r g Q q => by
  unfold dAbs at g
  split at g
  · cases g
    obtain ⟨v, rfl, rv⟩ := r.one_inv
    exact ⟨_, by rw [rv.int_inv], q _ S H (Gz.refl e z) (.int _)⟩
  · cases g
def maxL : List Int → Int
  | [] => 0
  | [x] => x
  | x :: xs => max x (maxL xs)
def minL : List Int → Int
  | [] => 0
  | [x] => x
  | x :: xs => min x (minL xs)
theorem maxL_mem : ∀ {l : List Int}, l ≠ [] → maxL l ∈ l
  | [], h => absurd rfl h
  | [x], _ => by simp [maxL]
  | x :: y :: r, _ => by
    have ih := maxL_mem (l := y :: r) (by simp)
    show max x (maxL (y :: r)) ∈ x :: y :: r
    by_cases c : x ≤ maxL (y :: r)
    · rw [Int.max_eq_right c]; exact List.mem_cons_of_mem _ ih
    · rw [Int.max_eq_left (by omega)]; simp
theorem maxL_ge : ∀ {l : List Int} {y : Int}, y ∈ l → y ≤ maxL l
  | [], _, h => by simp at h
  | [x], y, h => by simp at h; simp [maxL, h]
  | x :: z :: r, y, h => by
    show y ≤ max x (maxL (z :: r))
    rcases List.mem_cons.mp h with h | h
    · omega
    · have := maxL_ge (l := z :: r) h; omega
theorem minL_mem : ∀ {l : List Int}, l ≠ [] → minL l ∈ l
  | [], h => absurd rfl h
  | [x], _ => by simp [minL]
  | x :: y :: r, _ => by
    have ih := minL_mem (l := y :: r) (by simp)
    show min x (minL (y :: r)) ∈ x :: y :: r
    by_cases c : x ≤ minL (y :: r)
    · rw [Int.min_eq_left c]; simp
    · rw [Int.min_eq_right (by omega)]; exact List.mem_cons_of_mem _ ih
theorem minL_le : ∀ {l : List Int} {y : Int}, y ∈ l → minL l ≤ y
  | [], _, h => by simp at h
  | [x], y, h => by simp at h; simp [minL, h]
  | x :: z :: r, y, h => by
    show min x (minL (z :: r)) ≤ y
    rcases List.mem_cons.mp h with h | h
    · omega
    · have := minL_le (l := z :: r) h; omega
/-- max, min: of two ints, of a list of ints -/
def dMax : List D → Option D
  | [.int i, .int j] => some (.int (if j > i then j else i))
  | [.list ds] => (asInts ds).bind fun ns => if ns ≠ [] then some (.int (maxL ns)) else none
  | _ => none
def dMin : List D → Option D
  | [.int i, .int j] => some (.int (if j < i then j else i))
  | [.list ds] => (asInts ds).bind fun ns => if ns ≠ [] then some (.int (minL ns)) else none
  | _ => none
def rMaxU (K : PySem.W.Frag) : List V → Hp → VK → Prop := fun xs H Q => (∃ i j, xs = [.int i, .int j] ∧ Q (.int (if j > i then j else i)) H) ∨ rMax K xs H Q
def rMinU (K : PySem.W.Frag) : List V → Hp → VK → Prop := fun xs H Q => (∃ i j, xs = [.int i, .int j] ∧ Q (.int (if j < i then j else i)) H) ∨ rMin K xs H Q
theorem cr_maxU {X : Cx} (hc : X.calm = true) : CallR X (.builtin "max") (rMaxU X.K) := CallR.or (call_max2 hc) (cr_max hc)
theorem cr_minU {X : Cx} (hc : X.calm = true) : CallR X (.builtin "min") (rMinU X.K) := CallR.or (call_min2 hc) (cr_min hc)
theorem calld_max : CallD K (rMaxU K) dMax := fun S H xs as d e z r g Q q => by
  unfold dMax at g
  split at g
  · cases g
    obtain ⟨v, w, rfl, rv, rw'⟩ := r.two_inv
    exact .inl ⟨_, _, by rw [rv.int_inv, rw'.int_inv], q _ S H (Gz.refl e z) (.int _)⟩
  · obtain ⟨ns, en, g⟩ := bind_some g
    split at g <;> cases g
    rename_i hn
    have := asInts_some en; subst this
    obtain ⟨v, rfl, rv⟩ := r.one_inv
    obtain ⟨l, ys, rfl, hx, rx⟩ := rv.list_inv
    have := rx.ints_inv; subst this
    refine .inr ⟨l, ns, rfl, SqL.of (e _ _ hx), List.length_pos_iff.mpr hn, fun m hm hge => ?_⟩
    have hmm : m = maxL ns := by
      have h1 := maxL_ge hm
      have h2 := hge _ (maxL_mem hn)
      omega
    subst hmm
    exact q _ S H (Gz.refl e z) (.int _)
  · cases g
theorem calld_min : CallD K (rMinU K) dMin := fun S H xs as d e z r g Q q => by
  unfold dMin at g
  split at g
  · cases g
    obtain ⟨v, w, rfl, rv, rw'⟩ := r.two_inv
    exact .inl ⟨_, _, by rw [rv.int_inv, rw'.int_inv], q _ S H (Gz.refl e z) (.int _)⟩
  · obtain ⟨ns, en, g⟩ := bind_some g
    split at g <;> cases g
    rename_i hn
    have := asInts_some en; subst this
    obtain ⟨v, rfl, rv⟩ := r.one_inv
    obtain ⟨l, ys, rfl, hx, rx⟩ := rv.list_inv
    have := rx.ints_inv; subst this
    refine .inr ⟨l, ns, rfl, SqL.of (e _ _ hx), List.length_pos_iff.mpr hn, fun m hm hge => ?_⟩
    have hmm : m = minL ns := by
      have h1 := minL_le hm
      have h2 := hge _ (minL_mem hn)
      omega
    subst hmm
    exact q _ S H (Gz.refl e z) (.int _)
  · cases g
def dSum : List D → Option D
  | [.list ds] => (asInts ds).map fun ns => .int ns.sum
  | _ => none
theorem calld_sum : CallD K (rSum K) dSum := fun S H xs as d e z r g Q q => by
  unfold dSum at g
  split at g
  · obtain ⟨ns, en, rfl⟩ := map_some g
    have := asInts_some en; subst this
    obtain ⟨v, rfl, rv⟩ := r.one_inv
    obtain ⟨l, ys, rfl, hx, rx⟩ := rv.list_inv
    have := rx.ints_inv; subst this
    exact ⟨l, ns, rfl, SqL.of (e _ _ hx), q _ S H (Gz.refl e z) (.int _)⟩
  · cases g
def dInt : List D → Option D
  | [.int i] => some (.int i)
  | [.bool k] => some (.int (if k then 1 else 0))
  | _ => none
theorem calld_int : CallD K (fun xs H Q => (∃ i, xs = [.int i] ∧ Q (.int i) H) ∨ ∃ k, xs = [.bl k] ∧ Q (.int (if k then 1 else 0)) H) dInt := fun S H xs as d e z r g Q q => by
  unfold dInt at g
  split at g
  · cases g
    obtain ⟨v, rfl, rv⟩ := r.one_inv
    exact .inl ⟨_, by rw [rv.int_inv], q _ S H (Gz.refl e z) (.int _)⟩
  · cases g
    obtain ⟨v, rfl, rv⟩ := r.one_inv
    exact .inr ⟨_, by rw [rv.bool_inv], q _ S H (Gz.refl e z) (.int _)⟩
  · cases g
def asBools : List D → Option (List Bool)
  | [] => some []
  | .bool i :: r => (asBools r).map fun s => i :: s
  | _ => none
theorem asBools_some : ∀ {ds : List D} {ns : List Bool}, asBools ds = some ns → ds = ns.map PyData.bool
  | [], ns, h => by cases h; rfl
  | .bool i :: r, ns, h => by
    obtain ⟨s, hs, rfl⟩ := map_some h
    rw [asBools_some hs]; rfl
  | .none :: _, _, h => by cases h
  | .int _ :: _, _, h => by cases h
  | .str _ :: _, _, h => by cases h
  | .list _ :: _, _, h => by cases h
  | .tuple _ :: _, _, h => by cases h
  | .dict _ :: _, _, h => by cases h
theorem asBools_map : ∀ ns : List Bool, asBools (ns.map PyData.bool) = some ns
  | [] => rfl
  | n :: ns => by simp [asBools, asBools_map ns]
def dAll : List D → Option D
  | [.list ds] => (asBools ds).map fun bs => .bool (bs.all id)
  | _ => none
def dAny : List D → Option D
  | [.list ds] => (asBools ds).map fun bs => .bool (bs.any id)
  | _ => none
theorem calld_all : CallD K (rAll K) dAll := fun S H xs as d e z r g Q q => by
  unfold dAll at g
  split at g
  · obtain ⟨ns, en, rfl⟩ := map_some g
    have := asBools_some en; subst this
    obtain ⟨v, rfl, rv⟩ := r.one_inv
    obtain ⟨l, ys, rfl, hx, rx⟩ := rv.list_inv
    have := rx.bools_inv; subst this
    exact ⟨l, ns, rfl, SqL.of (e _ _ hx), q _ S H (Gz.refl e z) (.bl _)⟩
  · cases g
theorem calld_any : CallD K (rAny K) dAny := fun S H xs as d e z r g Q q => by
  unfold dAny at g
  split at g
  · obtain ⟨ns, en, rfl⟩ := map_some g
    have := asBools_some en; subst this
    obtain ⟨v, rfl, rv⟩ := r.one_inv
    obtain ⟨l, ys, rfl, hx, rx⟩ := rv.list_inv
    have := rx.bools_inv; subst this
    exact ⟨l, ns, rfl, SqL.of (e _ _ hx), q _ S H (Gz.refl e z) (.bl _)⟩
  · cases g
/-- repr of a list or tuple -/
def rReprD (K : PySem.W.Frag) : List V → Hp → VK → Prop := fun xs H Q => ∃ a d, xs = [.ref a] ∧ Dp K H (.ref a) d ∧ d.showable = true ∧ d.canLay0 = true ∧ d.depth ≤ 60 ∧ d.shown.length ≤ sizeLine ∧ Q (.str d.shown) H
theorem cr_repr {X : Cx} (hg : X.A.guards = some []) (hu : X.A.units + 64 < cLine) : CallR X (.builtin "repr") (rReprD X.K) := by
  intro pins s σ H xs us Q I r h
  obtain ⟨a, d, rfl, hd, hs, hl, hdp, hz, q⟩ := h
  obtain ⟨u, rfl, ru⟩ := vals1 r
  cases ru
  obtain ⟨as, rr⟩ := Dp.reads I d (.ref a) (.ref a) hd rfl
  exact repr_of_reads' rr hs (noDict_hsm (hasDict_of_canLay d hl)) hg (by omega) (fun _ _ e => e) (fun h' u tk k => ⟨.str d.shown, H, I.kept k, ⟨u, rfl⟩, q⟩) hz
where
  hasDict_of_canLay := PyData.hasDict_of_canLay
  noDict_hsm {d : PyData} {as : List Addr} := @PyData.noDict_hsm d as
def shows (d : D) : Bool := d.showable && d.canLay0 && decide (d.depth ≤ 60) && decide (d.shown.length ≤ sizeLine)
def dRepr : List D → Option D
  | [.list ds] => if shows (.list ds) = true then some (.str (PyData.shown (.list ds))) else none
  | [.tuple ds] => if shows (.tuple ds) = true then some (.str (PyData.shown (.tuple ds))) else none
  | _ => none
theorem calld_repr : CallD K (rReprD K) dRepr := fun S H xs as d e z r g Q q => by
  have key : ∀ {a : Addr} {d : D}, Rp K S (.ref a) d → shows d = true → (∀ v S' H', Gz S H S' H' → Rp K S' v (.str d.shown) → Q v H') → rReprD K [.ref a] H Q := by
    intro a d ra hs q
    unfold shows at hs
    simp only [Bool.and_eq_true, decide_eq_true_eq] at hs
    exact ⟨a, d, rfl, (ra.mono e).dp hs.1.1.2, hs.1.1.1, hs.1.1.2, hs.1.2, hs.2, q _ S H (Gz.refl e z) (.str _)⟩
  unfold dRepr at g
  split at g
  · split at g <;> cases g
    rename_i hs
    obtain ⟨v, rfl, rv⟩ := r.one_inv
    obtain ⟨l, ys, rfl, _, _⟩ := id rv.list_inv
    exact key rv hs q
  · split at g <;> cases g
    rename_i hs
    obtain ⟨v, rfl, rv⟩ := r.one_inv
    obtain ⟨l, ys, rfl, _, _⟩ := id rv.tuple_inv
    exact key rv hs q
  · cases g
/-! sorted: ints, pairs of ints -/
def sortI (ns : List Int) : List Int := ns.mergeSort fun a b => decide (a ≤ b)
def lexLe (p q : Int × Int) : Bool := decide (p.1 < q.1 ∨ (p.1 = q.1 ∧ p.2 ≤ q.2))
def sortP (ps : List (Int × Int)) : List (Int × Int) := ps.mergeSort lexLe
theorem perm_sorted_eq {α : Type} {le : α → α → Bool} (asym : ∀ a b, le a b = true → le b a = true → a = b) : ∀ {l₁ l₂ : List α}, l₁.Perm l₂ → l₁.Pairwise (fun a b => le a b = true) → l₂.Pairwise (fun a b => le a b = true) → l₁ = l₂ := fun {l₁ l₂} hp h1 h2 =>
  List.Perm.eq_of_pairwise (fun a b _ _ ha hb => asym a b ha hb) h1 h2 hp
theorem sortI_perm (ns : List Int) : (sortI ns).Perm ns := List.mergeSort_perm ns _
theorem sortI_sorted (ns : List Int) : (sortI ns).Pairwise (· ≤ ·) := by
  have h := List.pairwise_mergeSort (le := fun a b : Int => decide (a ≤ b)) (fun a b c h1 h2 => by simp at *; omega) (fun a b => by simp; omega) ns
  exact h.imp fun h => by simpa using h
theorem sortI_uniq {ns ms : List Int} (hp : ms.Perm ns) (h : ms.Pairwise (· ≤ ·)) : ms = sortI ns :=
  perm_sorted_eq (le := fun a b : Int => decide (a ≤ b)) (fun a b h1 h2 => by simp at *; omega) (hp.trans (sortI_perm ns).symm) (h.imp fun h => by simpa using h) ((sortI_sorted ns).imp fun h => by simpa using h)
theorem lexLe_tr (a b c : Int × Int) (h1 : lexLe a b = true) (h2 : lexLe b c = true) : lexLe a c = true := by
  unfold lexLe at *; simp only [decide_eq_true_eq] at *; omega
theorem lexLe_tot (a b : Int × Int) : (lexLe a b || lexLe b a) = true := by
  unfold lexLe; simp only [Bool.or_eq_true, decide_eq_true_eq]; omega
theorem lexLe_as (a b : Int × Int) (h1 : lexLe a b = true) (h2 : lexLe b a = true) : a = b := by
  unfold lexLe at *; simp only [decide_eq_true_eq] at *
  apply Prod.ext <;> omega
theorem sortP_perm (ps : List (Int × Int)) : (sortP ps).Perm ps := List.mergeSort_perm ps _
theorem sortP_sorted (ps : List (Int × Int)) : (sortP ps).Pairwise (fun a b => lexLe a b = true) := List.pairwise_mergeSort lexLe_tr lexLe_tot ps
theorem sortP_uniq {ps qs : List (Int × Int)} (hp : qs.Perm ps) (h : qs.Pairwise (fun a b => lexLe a b = true)) : qs = sortP ps :=
  perm_sorted_eq lexLe_as (hp.trans (sortP_perm ps).symm) h (sortP_sorted ps)
def pairD (p : Int × Int) : D := .tuple [.int p.1, .int p.2]
def asPairs : List D → Option (List (Int × Int))
  | [] => some []
  | .tuple [.int a, .int b] :: r => (asPairs r).map fun s => (a, b) :: s
  | _ => none
theorem asPairs_some : ∀ {ds : List D} {ps : List (Int × Int)}, asPairs ds = some ps → ds = ps.map pairD := by
  intro ds
  induction ds with
  | nil => intro ps h; cases h; rfl
  | cons x r ih =>
    intro ps h
    unfold asPairs at h
    split at h
    · rename_i e; cases e
    · rename_i a b r' e
      cases e
      obtain ⟨s, hs, rfl⟩ := map_some h
      rw [ih hs]; rfl
    · cases h
theorem asPairs_map : ∀ ps : List (Int × Int), asPairs (ps.map pairD) = some ps
  | [] => rfl
  | p :: ps => by
    show (asPairs (ps.map pairD)).map (fun s => (p.1, p.2) :: s) = some (p :: ps)
    rw [asPairs_map ps]; rfl
def dSorted : List D → Option D
  | [.list ds] => match asInts ds with
    | some ns => some (.list ((sortI ns).map .int))
    | none => (asPairs ds).map fun ps => .list ((sortP ps).map pairD)
  | _ => none
def rSortU (K : PySem.W.Frag) : List V → Hp → VK → Prop := fun xs H Q => rSortedI K xs H Q ∨ rSortedPO K xs H Q
theorem cr_sortU {X : Cx} : CallR X (.builtin "sorted") (rSortU X.K) := CallR.or cr_sortedI cr_sortedPO
theorem sz_of_len {S H : Hp} {l : Addr} {xs : List V} (z : SzH H) (h : H l = some (.lst xs)) : xs.length ≤ sizeLine := z l _ h
/-- the pair at a value -/
def pairAt (H : Hp) (v : V) : Int × Int := match v with
  | .ref a => match H a with
    | some (.tup [.int i, .int j]) => (i, j)
    | _ => (0, 0)
  | _ => (0, 0)
theorem rp_pair {S H : Hp} {v : V} {p : Int × Int} (e : Ex S H) (r : Rp K S v (pairD p)) : ∃ t, v = .ref t ∧ H t = some (.tup [.int p.1, .int p.2]) ∧ pairAt H v = p := by
  obtain ⟨a, xs, rfl, hx, rx⟩ := r.tuple_inv
  obtain ⟨u, w, rfl, r1, r2⟩ := rx.two_inv
  rw [r1.int_inv, r2.int_inv] at hx
  have h1 := e _ _ hx
  exact ⟨a, rfl, h1, by unfold pairAt; simp only [h1]⟩
theorem rp_pairs {S H : Hp} (e : Ex S H) : ∀ {vs : List V} {ps : List (Int × Int)}, RpAll K S vs (ps.map pairD) → vs.map (pairAt H) = ps ∧ ∀ v ∈ vs, ∃ p : Int × Int, Rp K S v (pairD p)
  | [], [], _ => ⟨rfl, fun _ h => by simp at h⟩
  | v :: vs, p :: ps, h => by
    cases h with
    | cons h1 h2 =>
      obtain ⟨k1, k2⟩ := rp_pairs e h2
      obtain ⟨_, _, _, k3⟩ := rp_pair e h1
      refine ⟨by rw [List.map_cons, k1, k3], fun w hw => ?_⟩
      rcases List.mem_cons.mp hw with rfl | hw
      · exact ⟨p, h1⟩
      · exact k2 w hw
  | [], _ :: _, h => by cases h
  | _ :: _, [], h => by cases h
theorem rp_of_pairs {S H : Hp} (e : Ex S H) : ∀ (vs : List V), (∀ v ∈ vs, ∃ p : Int × Int, Rp K S v (pairD p)) → RpAll K S vs ((vs.map (pairAt H)).map pairD)
  | [], _ => .nil
  | v :: vs, h => by
    obtain ⟨p, hp⟩ := h v (by simp)
    obtain ⟨_, _, _, k3⟩ := rp_pair e hp
    rw [List.map_cons, List.map_cons, k3]
    exact .cons hp (rp_of_pairs e vs fun w hw => h w (List.mem_cons_of_mem _ hw))
theorem calld_sorted : CallD K (rSortU K) dSorted := fun S H xs as d e z r g Q q => by
  unfold dSorted at g
  split at g
  · obtain ⟨v, rfl, rv⟩ := r.one_inv
    obtain ⟨l, ys, rfl, hx, rx⟩ := rv.list_inv
    have hl := z l _ (e _ _ hx)
    have hl : ys.length ≤ sizeLine := hl
    split at g
    · rename_i ns en
      cases g
      have := asInts_some en; subst this
      have := rx.ints_inv; subst this
      refine .inl ⟨l, ns, rfl, SqL.of (e _ _ hx), fun ns' p hperm hs hp => ?_⟩
      have := sortI_uniq hperm hs; subst this
      obtain ⟨k1, k2⟩ := newL e z (RpAll.ints (K := K) (H := S) (sortI ns)) (by rw [List.length_map, (sortI_perm ns).length_eq]; simpa using hl) hp
      exact q _ _ _ k1 k2
    · obtain ⟨ps, ep, rfl⟩ := map_some g
      have := asPairs_some ep; subst this
      obtain ⟨k1, k2⟩ := rp_pairs e rx
      refine .inr ⟨l, ys, pairAt H, rfl, SqL.of (e _ _ hx), fun v hv => ?_, fun zs p hs hb hp => ?_⟩
      · obtain ⟨w, hw⟩ := k2 v hv
        obtain ⟨t, h1, h2, h3⟩ := rp_pair e hw
        exact ⟨t, h1, by rw [h3]; exact h2⟩
      · have hperm : zs.Perm ys := hb.perm
        have hz : ∀ v ∈ zs, ∃ p : Int × Int, Rp K S v (pairD p) := fun v hv => k2 v (hperm.mem_iff.mp hv)
        have r2 := rp_of_pairs e zs hz
        have e2 : zs.map (pairAt H) = sortP ps := by
          refine sortP_uniq ?_ ?_
          · rw [← k1]; exact hperm.map _
          · refine List.pairwise_map.mpr (hs.imp fun {a b} h => ?_)
            have h' : SrtO.lexB (pairAt H b) (pairAt H a) = false := h
            have := SrtO.lexB_no.mp h'
            unfold lexLe
            simp only [decide_eq_true_eq]
            omega
        rw [e2] at r2
        have hz2 : zs.length ≤ sizeLine := by rw [hperm.length_eq]; exact hl
        obtain ⟨k3, k4⟩ := newL e z r2 (by rw [← r2.length]; exact hz2) hp
        exact q _ _ _ k3 k4
  · cases g
end
end CS

/-! CsF: one rule a construct: a piece of syntax over a family of contexts, and the data function it is worth. -/
namespace CS
open PySem PySem.Spec PyProof.Rows L2
open Evl (Ex ex_l ex_t)
structure Cok {ι : Type} (X : ι → Cx) (K : PySem.W.Frag) (k : Nat) : Prop where
  hK : ∀ i, (X i).K = K
  calm : ∀ i, (X i).calm = true
  nd : ∀ i, (X i).N.Nodup
  room : ∀ i, Room k (X i).A
  gd : ∀ i, (X i).A.guards = some []
  po : ∀ i, PassesOwn (model (X i).prog (X i).w) (X i).A (X i).env (X i).xe
abbrev blkX {ι : Type} (X : ι → Cx) (scope : Scope) : ι × Shared × Hp × Addr × List (Str × Addr) × List Addr → Cx := fun j =>
  (X j.1).blk j.2.1 j.2.2.1 scope (compEnvC scope j.2.2.2.2.1 j.2.2.2.1 (X j.1).env) j.2.2.2.2.2
theorem Cok.blk {ι : Type} {X : ι → Cx} {K : PySem.W.Frag} {k : Nat} (C : Cok X K k) (scope : Scope) : Cok (blkX X scope) K k :=
  ⟨fun j => C.hK j.1, fun j => C.calm j.1, fun j => C.nd j.1, fun j => C.room j.1, fun j => C.gd j.1, fun j => PassesOwn.never⟩
theorem Cok.mono {ι : Type} {X : ι → Cx} {K : PySem.W.Frag} {j k : Nat} (C : Cok X K k) (h : j ≤ k) : Cok X K j := ⟨C.hK, C.calm, C.nd, fun i => (C.room i).mono h, C.gd, C.po⟩
theorem bodyX_ok {P : Program} {w : World} {K : PySem.W.Frag} {mg : Str → Option Value} {base : Heap} {N ps : List Str} {qual : Str} {sc : Scope} {f : Addr} {k : Nat} (S : FnScope N ps sc) : Cok (bodyX P w K mg base N qual sc f k) K k :=
  ⟨fun _ => rfl, fun _ => rfl, fun _ => S.nd, fun i => i.2.1, fun i => i.2.2, fun _ => PassesOwn.never⟩
section
variable {ι : Type} (X : ι → Cx) (K : PySem.W.Frag) (m : List Nat)
def DE (e : Expr) (F : En → Option D) : Prop := ∃ t : TE, (∀ i, PE (X i) e t) ∧ SemP K m t F
def DM (e : Expr) (G : En → Option (D × En)) : Prop := ∃ t : TE, (∀ i, PE (X i) e t) ∧ Sem K m t G
def DF (e : Expr) (G : En → Option (D × En)) : Prop := ∃ t : TE, (∀ i, PE (X i) e t) ∧ SemF K m t G
def DT (e : Expr) (F : En → Option Bool) : Prop := ∃ t : TT, (∀ i, PT (X i) e t) ∧ SemPT K m t F
def DTM (e : Expr) (F : En → Option (Bool × En)) : Prop := ∃ t : TT, (∀ i, PT (X i) e t) ∧ SemT K m t F
def DW (e : Expr) (F : En → Option Bool) : Prop := ∃ t : TT, (∀ i, PW (X i) e t) ∧ SemPT K m t F
def DWM (e : Expr) (F : En → Option (Bool × En)) : Prop := ∃ t : TT, (∀ i, PW (X i) e t) ∧ SemT K m t F
def DA (es : List Expr) (F : En → Option (List D)) : Prop := ∃ t : TA, (∀ i, PA (X i) es t) ∧ SemPA K m t F
def DAM (es : List Expr) (F : En → Option (List D × En)) : Prop := ∃ t : TA, (∀ i, PA (X i) es t) ∧ SemA K m t F
def DK (es : List Keyword) (F : En → Option (List D)) : Prop := ∃ t : TA, (∀ i, PK (X i) es t) ∧ SemPA K m t F
def DTs (ifs : List Expr) (F : En → Option Bool) : Prop := ∃ t : TT, (∀ i, PTs (X i) ifs t) ∧ SemPT K m t F
def DTsM (ifs : List Expr) (F : En → Option (Bool × En)) : Prop := ∃ t : TT, (∀ i, PTs (X i) ifs t) ∧ SemT K m t F
def DI (tg e : Expr) (F : En → Option (List D)) : Prop := ∃ t : TI, (∀ i, PI (X i) tg e t) ∧ SemPI K m t F
def DIM (tg e : Expr) (F : En → Option (List D × En)) : Prop := ∃ t : TI, (∀ i, PI (X i) tg e t) ∧ SemI K m t F
def DG (ts : List Nat) (e : Expr) (Gt : D → En → Option En) : Prop := ∃ g : TG, (∀ i, PG (X i) e g) ∧ SemG K m ts g Gt
def DGs (n : Nat) (ts : List Nat) (es : List Expr) (Gt : List D → En → Option En) : Prop := ∃ g : TGs, (∀ i, PGs (X i) es g) ∧ SemGs K m ts g Gt ∧ ∀ ds env e, Gt ds env = some e → ds.length = n
end
def DS {ι : Type} (X : ι → Cx) (K : PySem.W.Frag) (fr : Bool) (pn m ml m' : List Nat) (st : Stmt) (F : En → Option Out) : Prop := ∃ t : TS, (∀ i, PS (X i) st t) ∧ SemS K fr pn m ml m' t F
section
variable {ι : Type} {X : ι → Cx} {K : PySem.W.Frag} {k : Nat} {m : List Nat} {a b e : Expr} {es : List Expr} {pos : Pos} {F Fa Fb : En → Option D} {G Ga Gb : En → Option (D × En)}
theorem DE.up (h : DE X K m e F) : DM X K m e (up F) := let ⟨t, p, s⟩ := h; ⟨t, p, s.up⟩
theorem DA.up {Fl : En → Option (List D)} (h : DA X K m es Fl) : DAM X K m es (up Fl) := let ⟨t, p, s⟩ := h; ⟨t, p, s.up⟩
theorem DT.up {Ft : En → Option Bool} (h : DT X K m e Ft) : DTM X K m e (CS.up Ft) := let ⟨t, p, s⟩ := h; ⟨t, p, s.up⟩
theorem DTs.up {Ft : En → Option Bool} (h : DTs X K m es Ft) : DTsM X K m es (CS.up Ft) := let ⟨t, p, s⟩ := h; ⟨t, p, s.up⟩
theorem DI.up {tg : Expr} {Fl : En → Option (List D)} (h : DI X K m tg e Fl) : DIM X K m tg e (CS.up Fl) := let ⟨t, p, s⟩ := h; ⟨t, p, s.up⟩
theorem DF.dm (h : DF X K m e G) : DM X K m e G := let ⟨t, p, s⟩ := h; ⟨t, p, s.sem⟩
/-! names, constants -/
theorem eN (j : Nat) {x : Str} (hj : j ∉ m := by decide) (hN : ∀ i, (X i).N[j]? = some x := by intro _; rfl) (hv : ∀ i, Vis (X i).env.scope x := by intro _; first | exact Or.inl rfl | exact Or.inr (Or.inl rfl) | exact Or.inr (Or.inr rfl))
    (hd : (x == ("__debug__" : Str)) = false := by decide) (hcd : (x == ("__classdict__" : Str)) = false := by decide) : DE X K m (.Name x pos) (gv j) := ⟨_, fun i => pe_var (hN i) (hv i) hd hcd, semP_var hj⟩
theorem eI {z : Int} {j : Nat} : DE X K m (.Constant (.int z) j pos) (fun _ => some (.int z)) := ⟨_, fun _ => pe_int, semP_c fun _ => .int z⟩
theorem eB {z : Bool} {j : Nat} : DE X K m (.Constant (.bool z) j pos) (fun _ => some (.bool z)) := ⟨_, fun _ => pe_bl, semP_c fun _ => .bl z⟩
theorem eZ {j : Nat} : DE X K m (.Constant .none j pos) (fun _ => some .none) := ⟨_, fun _ => pe_non, semP_c fun _ => .non⟩
theorem eS {z : Str} {j : Nat} : DE X K m (.Constant (.str z) j pos) (fun _ => some (.str z)) := ⟨_, fun _ => pe_str, semP_c fun _ => .str z⟩
/-- a constant of the module: an int, a text -/
theorem eGI {x : Str} {z : Int} {mg : Str → Option Value} (hm : ∃ t, mg x = some (.int z t)) (hmg : ∀ i, (X i).mg = mg := by intro _; rfl) (hg : ∀ i, Gl (X i) x := by intro _; rfl) (hd : (x == ("__debug__" : Str)) = false := by decide) : DE X K m (.Name x pos) (fun _ => some (.int z)) :=
  let ⟨t, h⟩ := hm; ⟨_, fun i => pe_glob (hg i) (by rw [hmg i]; exact h) (v := .int z) ⟨t, rfl⟩ hd, semP_c fun _ => .int z⟩
theorem eGS {x : Str} {z : Str} {mg : Str → Option Value} (hm : ∃ t, mg x = some (.str z t)) (hmg : ∀ i, (X i).mg = mg := by intro _; rfl) (hg : ∀ i, Gl (X i) x := by intro _; rfl) (hd : (x == ("__debug__" : Str)) = false := by decide) : DE X K m (.Name x pos) (fun _ => some (.str z)) :=
  let ⟨t, h⟩ := hm; ⟨_, fun i => pe_glob (hg i) (by rw [hmg i]; exact h) (v := .str z) ⟨t, rfl⟩ hd, semP_c fun _ => .str z⟩
/-! operators -/
theorem eBin {op : Operator} {r : PySem.W.Frag → R2} {g : D → D → Option D} (hr : ∀ X, OpR X (binaryOp op) (r X.K)) (hg : OpD K (r K) g) (C : Cok X K k) (ha : DE X K m a Fa) (hb : DE X K m b Fb) : DE X K m (.BinOp a op b pos) (f2 g Fa Fb) := by
  obtain ⟨ta, pa, sa⟩ := ha
  obtain ⟨tb, pb, sb⟩ := hb
  exact ⟨_, fun i => pe_op (by have h := hr (X i); rw [C.hK i] at h; exact h) (pa i) (pb i), semP_op hg sa sb⟩
theorem mBin {op : Operator} {r : PySem.W.Frag → R2} {g : D → D → Option D} (hr : ∀ X, OpR X (binaryOp op) (r X.K)) (hg : OpD K (r K) g) (C : Cok X K k) (ha : DM X K m a Ga) (hb : DM X K m b Gb) : DM X K m (.BinOp a op b pos) (g2 g Ga Gb) := by
  obtain ⟨ta, pa, sa⟩ := ha
  obtain ⟨tb, pb, sb⟩ := hb
  exact ⟨_, fun i => pe_op (by have h := hr (X i); rw [C.hK i] at h; exact h) (pa i) (pb i), sem_op hg sa sb⟩
theorem eAdd (C : Cok X K k) (ha : DE X K m a Fa) (hb : DE X K m b Fb) : DE X K m (.BinOp a .Add b pos) (f2 dAdd Fa Fb) := eBin (r := rAddU) (fun _ => op_addU) opd_add C ha hb
theorem eSub (C : Cok X K k) (ha : DE X K m a Fa) (hb : DE X K m b Fb) : DE X K m (.BinOp a .Sub b pos) (f2 dSub Fa Fb) := eBin (r := fun _ => rI0 fun i j => .int (i - j)) (fun _ => op_sub) opd_I0 C ha hb
theorem eMul (C : Cok X K k) (ha : DE X K m a Fa) (hb : DE X K m b Fb) : DE X K m (.BinOp a .Mult b pos) (f2 dMul Fa Fb) := eBin (r := rMulU) (fun _ => op_mulU) opd_mul C ha hb
theorem eFdiv (C : Cok X K k) (ha : DE X K m a Fa) (hb : DE X K m b Fb) : DE X K m (.BinOp a .FloorDiv b pos) (f2 dFdiv Fa Fb) := eBin (r := fun _ => rI COkDiv fun i j => .int (i.fdiv j)) (fun _ => op_fdivU) opd_I C ha hb
theorem eMod (C : Cok X K k) (ha : DE X K m a Fa) (hb : DE X K m b Fb) : DE X K m (.BinOp a .Mod b pos) (f2 dMod Fa Fb) := eBin (r := fun _ => rI CNe0 fun i j => .int (i.fmod j)) (fun _ => op_modU) opd_I C ha hb
theorem ePow (C : Cok X K k) (ha : DE X K m a Fa) (hb : DE X K m b Fb) : DE X K m (.BinOp a .Pow b pos) (f2 dPow Fa Fb) := eBin (r := fun _ => rI CPowU fun i j => .int (i ^ j.toNat)) (fun _ => op_powU) opd_I C ha hb
theorem eShl (C : Cok X K k) (ha : DE X K m a Fa) (hb : DE X K m b Fb) : DE X K m (.BinOp a .LShift b pos) (f2 dShl Fa Fb) := eBin (r := fun _ => rI L2.CPow fun i j => .int (i * 2 ^ j.toNat)) (fun _ => op_shl) opd_I C ha hb
theorem eShr (C : Cok X K k) (ha : DE X K m a Fa) (hb : DE X K m b Fb) : DE X K m (.BinOp a .RShift b pos) (f2 dShr Fa Fb) := eBin (r := fun _ => rI CNn fun i j => .int (i / 2 ^ j.toNat)) (fun _ => op_shrU) opd_I C ha hb
theorem eOr (C : Cok X K k) (ha : DE X K m a Fa) (hb : DE X K m b Fb) : DE X K m (.BinOp a .BitOr b pos) (f2 dOr Fa Fb) := eBin (r := fun _ => rI0 fun i j => .int (Builtin.bitOr i j)) (fun _ => op_or) opd_I0 C ha hb
theorem eAnd (C : Cok X K k) (ha : DE X K m a Fa) (hb : DE X K m b Fb) : DE X K m (.BinOp a .BitAnd b pos) (f2 dAnd Fa Fb) := eBin (r := fun _ => rI0 fun i j => .int (Builtin.bitAnd i j)) (fun _ => op_and) opd_I0 C ha hb
theorem mAdd (C : Cok X K k) (ha : DM X K m a Ga) (hb : DM X K m b Gb) : DM X K m (.BinOp a .Add b pos) (g2 dAdd Ga Gb) := mBin (r := rAddU) (fun _ => op_addU) opd_add C ha hb
theorem mSub (C : Cok X K k) (ha : DM X K m a Ga) (hb : DM X K m b Gb) : DM X K m (.BinOp a .Sub b pos) (g2 dSub Ga Gb) := mBin (r := fun _ => rI0 fun i j => .int (i - j)) (fun _ => op_sub) opd_I0 C ha hb
theorem mMul (C : Cok X K k) (ha : DM X K m a Ga) (hb : DM X K m b Gb) : DM X K m (.BinOp a .Mult b pos) (g2 dMul Ga Gb) := mBin (r := rMulU) (fun _ => op_mulU) opd_mul C ha hb
theorem mFdiv (C : Cok X K k) (ha : DM X K m a Ga) (hb : DM X K m b Gb) : DM X K m (.BinOp a .FloorDiv b pos) (g2 dFdiv Ga Gb) := mBin (r := fun _ => rI COkDiv fun i j => .int (i.fdiv j)) (fun _ => op_fdivU) opd_I C ha hb
theorem mMod (C : Cok X K k) (ha : DM X K m a Ga) (hb : DM X K m b Gb) : DM X K m (.BinOp a .Mod b pos) (g2 dMod Ga Gb) := mBin (r := fun _ => rI CNe0 fun i j => .int (i.fmod j)) (fun _ => op_modU) opd_I C ha hb
theorem eNeg (ha : DE X K m a Fa) : DE X K m (.UnaryOp .USub a pos) (f1 dNeg Fa) := let ⟨t, p, s⟩ := ha; ⟨_, fun i => pe_un un_neg (p i), semP_un und_neg s⟩
/-! comparisons -/
theorem eCmp {op : CmpOp} {r : PySem.W.Frag → R2} {g : D → D → Option D} (hr : ∀ i, OpR (X i) (compareOp op) (r (X i).K)) (hg : OpD K (r K) g) (C : Cok X K k) (ha : DE X K m a Fa) (hb : DE X K m b Fb) (hm : behindInMarks op b = false) : DE X K m (.Compare a [op] [b] pos) (f2 g Fa Fb) := by
  obtain ⟨ta, pa, sa⟩ := ha
  obtain ⟨tb, pb, sb⟩ := hb
  exact ⟨_, fun i => pe_cmpR (by have h := hr i; rw [C.hK i] at h; exact h) (pa i) (pb i) hm, semP_op hg sa sb⟩
theorem mCmp {op : CmpOp} {r : PySem.W.Frag → R2} {g : D → D → Option D} (hr : ∀ i, OpR (X i) (compareOp op) (r (X i).K)) (hg : OpD K (r K) g) (C : Cok X K k) (ha : DM X K m a Ga) (hb : DM X K m b Gb) (hm : behindInMarks op b = false) : DM X K m (.Compare a [op] [b] pos) (g2 g Ga Gb) := by
  obtain ⟨ta, pa, sa⟩ := ha
  obtain ⟨tb, pb, sb⟩ := hb
  exact ⟨_, fun i => pe_cmpR (by have h := hr i; rw [C.hK i] at h; exact h) (pa i) (pb i) hm, sem_op hg sa sb⟩
theorem tCmp' {op : CmpOp} {r : PySem.W.Frag → R2} {g : D → D → Option D} (hr : ∀ i, OpR (X i) (compareOp op) (r (X i).K)) (hg : OpD K (r K) g) (C : Cok X K k) (ha : DE X K m a Fa) (hb : DE X K m b Fb) (hm : behindInMarks op b = false) : DT X K m (.Compare a [op] [b] pos) (fTest (f2 g Fa Fb)) := by
  obtain ⟨ta, pa, sa⟩ := ha
  obtain ⟨tb, pb, sb⟩ := hb
  exact ⟨_, fun i => pt_cmpR (by have h := hr i; rw [C.hK i] at h; exact h) (pa i) (pb i) hm, semPT_test (semP_op hg sa sb)⟩
theorem tmCmp {op : CmpOp} {r : PySem.W.Frag → R2} {g : D → D → Option D} (hr : ∀ i, OpR (X i) (compareOp op) (r (X i).K)) (hg : OpD K (r K) g) (C : Cok X K k) (ha : DM X K m a Ga) (hb : DM X K m b Gb) (hm : behindInMarks op b = false) : DTM X K m (.Compare a [op] [b] pos) (gTest (g2 g Ga Gb)) := by
  obtain ⟨ta, pa, sa⟩ := ha
  obtain ⟨tb, pb, sb⟩ := hb
  exact ⟨_, fun i => pt_cmpR (by have h := hr i; rw [C.hK i] at h; exact h) (pa i) (pb i) hm, semT_test (sem_op hg sa sb)⟩
/-- the rules of the single comparisons, to be handed to eCmp, tCmp', mCmp, tmCmp -/
structure CR2 (X : ι → Cx) (K : PySem.W.Frag) (op : CmpOp) (r : PySem.W.Frag → R2) (g : D → D → Option D) : Prop where
  o : ∀ i, OpR (X i) (compareOp op) (r (X i).K)
  d : OpD K (r K) g
theorem cLt : CR2 X K .Lt (fun _ => rI0 fun i j => .bl (decide (i < j))) dLt := ⟨fun _ => op_lt, opd_cmp⟩
theorem cLe : CR2 X K .LtE (fun _ => rI0 fun i j => .bl (decide (i ≤ j))) dLe := ⟨fun _ => op_le, opd_cmp⟩
theorem cGt : CR2 X K .Gt (fun _ => rI0 fun i j => .bl (decide (j < i))) dGt := ⟨fun _ => op_gt, opd_cmp⟩
theorem cGe : CR2 X K .GtE (fun _ => rI0 fun i j => .bl (decide (j ≤ i))) dGe := ⟨fun _ => op_ge, opd_cmp⟩
theorem cEq (C : Cok X K k) : CR2 X K .Eq (fun K => rEqU K) (dEq false) := ⟨fun i => op_eqU (C.room i).units, opd_eq⟩
theorem cNe (C : Cok X K k) : CR2 X K .NotEq (fun K => rNeU K) (dEq true) := ⟨fun i => op_neU (C.room i).units, opd_ne⟩
theorem cLtT (C : Cok X K k) : CR2 X K .Lt (fun K => rLtT K) dLtT := ⟨fun i => op_ltT (C.room i).units0, opd_ltT⟩
theorem cIsN : CR2 X K .Is (fun _ => fun x y H Q => y = .non ∧ Q (.bl (decide (x = .non))) H) dIsN := ⟨fun _ => op_isN, opd_isN⟩
theorem cNotN : CR2 X K .IsNot (fun _ => fun x y H Q => y = .non ∧ Q (.bl (!decide (x = .non))) H) dNotN := ⟨fun _ => op_notN, opd_notN⟩
theorem cIn (C : Cok X K k) : CR2 X K .In (fun K => rInD K) (dIn false) := ⟨fun i => op_inD (by have := (C.room i).un; omega), opd_in⟩
theorem cNotIn (C : Cok X K k) : CR2 X K .NotIn (fun K => rNotInD K) (dIn true) := ⟨fun i => op_notInD (by have := (C.room i).un; omega), opd_notIn⟩
variable {op op' : CmpOp} {r r' : PySem.W.Frag → R2} {g g' : D → D → Option D}
theorem eC (C : Cok X K k) (h : CR2 X K op r g) (ha : DE X K m a Fa) (hb : DE X K m b Fb) (hm : behindInMarks op b = false := by first | exact nomark _ | with_unfolding_all rfl) : DE X K m (.Compare a [op] [b] pos) (f2 g Fa Fb) := eCmp h.o h.d C ha hb hm
theorem mC (C : Cok X K k) (h : CR2 X K op r g) (ha : DM X K m a Ga) (hb : DM X K m b Gb) (hm : behindInMarks op b = false := by first | exact nomark _ | with_unfolding_all rfl) : DM X K m (.Compare a [op] [b] pos) (g2 g Ga Gb) := mCmp h.o h.d C ha hb hm
theorem tC' (C : Cok X K k) (h : CR2 X K op r g) (ha : DE X K m a Fa) (hb : DE X K m b Fb) (hm : behindInMarks op b = false := by first | exact nomark _ | with_unfolding_all rfl) : DT X K m (.Compare a [op] [b] pos) (fTest (f2 g Fa Fb)) := tCmp' h.o h.d C ha hb hm
theorem tmC (C : Cok X K k) (h : CR2 X K op r g) (ha : DM X K m a Ga) (hb : DM X K m b Gb) (hm : behindInMarks op b = false := by first | exact nomark _ | with_unfolding_all rfl) : DTM X K m (.Compare a [op] [b] pos) (gTest (g2 g Ga Gb)) := tmCmp h.o h.d C ha hb hm
theorem eCh {c : Expr} {Fc : En → Option D} (C : Cok X K k) (h : CR2 X K op r g) (h' : CR2 X K op' r' g') (ha : DE X K m a Fa) (hb : DE X K m b Fb) (hc : DE X K m c Fc) (hm : lastMarks [op, op'] [b, c] = false := by with_unfolding_all rfl) : DE X K m (.Compare a [op, op'] [b, c] pos) (fChain g g' Fa Fb Fc) := by
  obtain ⟨ta, pa, sa⟩ := ha
  obtain ⟨tb, pb, sb⟩ := hb
  obtain ⟨tc, pc, sc⟩ := hc
  exact ⟨_, fun i => pe_chain (by have q := h.o i; rw [C.hK i] at q; exact q) (by have q := h'.o i; rw [C.hK i] at q; exact q) (pa i) (pb i) (pc i) hm, semP_chain h.d h'.d sa sb sc⟩
theorem tCh {c : Expr} {Fc : En → Option D} (C : Cok X K k) (h : CR2 X K op r g) (h' : CR2 X K op' r' g') (ha : DE X K m a Fa) (hb : DE X K m b Fb) (hc : DE X K m c Fc) (hm : lastMarks [op, op'] [b, c] = false := by with_unfolding_all rfl) : DT X K m (.Compare a [op, op'] [b, c] pos) (fTest (fChain g g' Fa Fb Fc)) := by
  obtain ⟨ta, pa, sa⟩ := ha
  obtain ⟨tb, pb, sb⟩ := hb
  obtain ⟨tc, pc, sc⟩ := hc
  exact ⟨_, fun i => pt_chain (by have q := h.o i; rw [C.hK i] at q; exact q) (by have q := h'.o i; rw [C.hK i] at q; exact q) (pa i) (pb i) (pc i) hm, semPT_test (semP_chain h.d h'.d sa sb sc)⟩
/-! tests -/
theorem tV (h : DE X K m e F) (he : ∀ i whole, isTrue e (X i).env whole = (do let v ← whole; standAt e.pos; holding [v] (truthy v)) := by intro _ _; rfl) : DT X K m e (fTest F) := let ⟨t, p, s⟩ := h; ⟨_, fun i => pt_val (p i) (he i), semPT_B s⟩
theorem tmV (h : DM X K m e G) (he : ∀ i whole, isTrue e (X i).env whole = (do let v ← whole; standAt e.pos; holding [v] (truthy v)) := by intro _ _; rfl) : DTM X K m e (gTest G) := let ⟨t, p, s⟩ := h; ⟨_, fun i => pt_val (p i) (he i), semT_B s⟩
variable {rest : List Expr} {Ft Fu : En → Option Bool} {Gt Gu : En → Option (Bool × En)}
theorem tNot' (h : DT X K m a Ft) : DT X K m (.UnaryOp .Not a pos) (fNot Ft) := let ⟨t, p, s⟩ := h; ⟨_, fun i => pt_not (p i), semPT_not s⟩
theorem tmNot (h : DTM X K m a Gt) : DTM X K m (.UnaryOp .Not a pos) (gNot Gt) := let ⟨t, p, s⟩ := h; ⟨_, fun i => pt_not (p i), semT_not s⟩
theorem wAnd1 (h : DT X K m a Ft) : DW X K m (.BoolOp .And [a] pos) Ft := let ⟨t, p, s⟩ := h; ⟨_, fun i => pw_and1 (p i), s⟩
theorem wOr1 (h : DT X K m a Ft) : DW X K m (.BoolOp .Or [a] pos) Ft := let ⟨t, p, s⟩ := h; ⟨_, fun i => pw_or1 (p i), s⟩
theorem wAnd (h : DT X K m a Ft) (h2 : DW X K m (.BoolOp .And (b :: rest) pos) Fu) : DW X K m (.BoolOp .And (a :: b :: rest) pos) (fAnd Ft Fu) := let ⟨_, p, s⟩ := h; let ⟨_, p2, s2⟩ := h2; ⟨_, fun i => pw_and (p i) (p2 i), semPT_and s s2⟩
theorem wOr (h : DT X K m a Ft) (h2 : DW X K m (.BoolOp .Or (b :: rest) pos) Fu) : DW X K m (.BoolOp .Or (a :: b :: rest) pos) (fOr Ft Fu) := let ⟨_, p, s⟩ := h; let ⟨_, p2, s2⟩ := h2; ⟨_, fun i => pw_or (p i) (p2 i), semPT_or s s2⟩
theorem DW.t (h : DW X K m e Ft) : DT X K m e Ft := let ⟨t, p, s⟩ := h; ⟨_, fun i => (p i).pt, s⟩
theorem wmAnd1 (h : DTM X K m a Gt) : DWM X K m (.BoolOp .And [a] pos) Gt := let ⟨t, p, s⟩ := h; ⟨_, fun i => pw_and1 (p i), s⟩
theorem wmOr1 (h : DTM X K m a Gt) : DWM X K m (.BoolOp .Or [a] pos) Gt := let ⟨t, p, s⟩ := h; ⟨_, fun i => pw_or1 (p i), s⟩
theorem wmAnd (h : DTM X K m a Gt) (h2 : DWM X K m (.BoolOp .And (b :: rest) pos) Gu) : DWM X K m (.BoolOp .And (a :: b :: rest) pos) (gAnd Gt Gu) := let ⟨_, p, s⟩ := h; let ⟨_, p2, s2⟩ := h2; ⟨_, fun i => pw_and (p i) (p2 i), semT_and s s2⟩
theorem wmOr (h : DTM X K m a Gt) (h2 : DWM X K m (.BoolOp .Or (b :: rest) pos) Gu) : DWM X K m (.BoolOp .Or (a :: b :: rest) pos) (gOr Gt Gu) := let ⟨_, p, s⟩ := h; let ⟨_, p2, s2⟩ := h2; ⟨_, fun i => pw_or (p i) (p2 i), semT_or s s2⟩
theorem DWM.t (h : DWM X K m e Gt) : DTM X K m e Gt := let ⟨t, p, s⟩ := h; ⟨_, fun i => (p i).pt, s⟩
theorem eOne {bo : BoolOp} (h : DE X K m a Fa) : DE X K m (.BoolOp bo [a] pos) Fa := let ⟨t, p, s⟩ := h; ⟨_, fun i => pe_one (p i), s⟩
theorem eAndV (h : DE X K m a Fa) (h2 : DE X K m (.BoolOp .And (b :: rest) pos) Fb) : DE X K m (.BoolOp .And (a :: b :: rest) pos) (fAndV Fa Fb) := let ⟨_, p, s⟩ := h; let ⟨_, p2, s2⟩ := h2; ⟨_, fun i => pe_and (p i) (p2 i), semP_andV s s2⟩
theorem eOrV (h : DE X K m a Fa) (h2 : DE X K m (.BoolOp .Or (b :: rest) pos) Fb) : DE X K m (.BoolOp .Or (a :: b :: rest) pos) (fOrV Fa Fb) := let ⟨_, p, s⟩ := h; let ⟨_, p2, s2⟩ := h2; ⟨_, fun i => pe_or (p i) (p2 i), semP_orV s s2⟩
theorem eNotV (h : DE X K m a Fa) : DE X K m (.UnaryOp .Not a pos) (fNotV Fa) := let ⟨t, p, s⟩ := h; ⟨_, fun i => pe_not (p i), semP_notV s⟩
theorem eIf {c : Expr} (h : DT X K m c Ft) (ha : DE X K m a Fa) (hb : DE X K m b Fb) : DE X K m (.IfExp c a b pos) (fIf Ft Fa Fb) := let ⟨_, p, s⟩ := h; let ⟨_, p2, s2⟩ := ha; let ⟨_, p3, s3⟩ := hb; ⟨_, fun i => pe_ifExp (p i) (p2 i) (p3 i), semP_if s s2 s3⟩
theorem mIf {c : Expr} (h : DTM X K m c Gt) (ha : DM X K m a Ga) (hb : DM X K m b Gb) : DM X K m (.IfExp c a b pos) (gIf Gt Ga Gb) := let ⟨_, p, s⟩ := h; let ⟨_, p2, s2⟩ := ha; let ⟨_, p3, s3⟩ := hb; ⟨_, fun i => pe_ifExp (p i) (p2 i) (p3 i), sem_if s s2 s3⟩
/-! argument lists, displays -/
variable {Fl : En → Option (List D)} {Gl' : En → Option (List D × En)}
theorem aN : DA X K m [] fNil := ⟨_, fun _ => pa_nil, semPA_nil⟩
theorem aC (h : DE X K m e F) (hr : DA X K m es Fl) (hs : ∀ i, starEach (e :: es) (X i).env = (false, eval e (X i).env) :: starEach es (X i).env := by intro _; rfl) : DA X K m (e :: es) (fCons F Fl) := let ⟨_, p, s⟩ := h; let ⟨_, p2, s2⟩ := hr; ⟨_, fun i => pa_cons (p i) (p2 i) (hs i), semPA_cons s s2⟩
theorem amN : DAM X K m [] gNilE := ⟨_, fun _ => pa_nil, semA_nil⟩
theorem amC (h : DM X K m e G) (hr : DAM X K m es Gl') (hs : ∀ i, starEach (e :: es) (X i).env = (false, eval e (X i).env) :: starEach es (X i).env := by intro _; rfl) : DAM X K m (e :: es) (gConsE G Gl') := let ⟨_, p, s⟩ := h; let ⟨_, p2, s2⟩ := hr; ⟨_, fun i => pa_cons (p i) (p2 i) (hs i), semA_cons s s2⟩
theorem kN : DK X K m [] fNil := ⟨_, fun _ => pk_nil, semPA_nil⟩
theorem kC {nm : Option Str} {kpos : Pos} {kws : List Keyword} (h : DE X K m e F) (hr : DK X K m kws Fl) : DK X K m (⟨nm, e, kpos⟩ :: kws) (fCons F Fl) := let ⟨_, p, s⟩ := h; let ⟨_, p2, s2⟩ := hr; ⟨_, fun i => pk_cons (p i) (p2 i), semPA_cons s s2⟩
theorem eL (h : DA X K m es Fl) : DE X K m (.List es pos) (fLst Fl) := let ⟨_, p, s⟩ := h; ⟨_, fun i => pe_lst (p i), semP_lst s⟩
theorem eT {x1} (h : DA X K m es Fl) : DE X K m (.Tuple es x1 pos) (fTup Fl) := let ⟨_, p, s⟩ := h; ⟨_, fun i => pe_tup (p i), semP_tup s⟩
theorem mL (h : DAM X K m es Gl') : DM X K m (.List es pos) (gLstE Gl') := let ⟨_, p, s⟩ := h; ⟨_, fun i => pe_lst (p i), sem_lst s⟩
theorem mT {x1} (h : DAM X K m es Gl') : DM X K m (.Tuple es x1 pos) (gTupE Gl') := let ⟨_, p, s⟩ := h; ⟨_, fun i => pe_tup (p i), sem_tup s⟩
theorem fL (h : DAM X K m es Gl') : DF X K m (.List es pos) (gLstE Gl') := let ⟨_, p, s⟩ := h; ⟨_, fun i => pe_lst (p i), semF_lst s⟩
/-! subscripts -/
theorem eIx (C : Cok X K k) (ha : DE X K m a Fa) (hb : DE X K m b Fb) (hs : PlainIx b := by exact fun _ _ => rfl) : DE X K m (.Subscript a b pos) (f2 dIx Fa Fb) := by
  obtain ⟨ta, pa, sa⟩ := ha
  obtain ⟨tb, pb, sb⟩ := hb
  exact ⟨_, fun i => pe_ix (by have h := @ix_U (X i); rw [C.hK i] at h; exact h) (pa i) (pb i) hs, semP_op opd_ix sa sb⟩
theorem mIx (C : Cok X K k) (ha : DM X K m a Ga) (hb : DM X K m b Gb) (hs : PlainIx b := by exact fun _ _ => rfl) : DM X K m (.Subscript a b pos) (g2 dIx Ga Gb) := by
  obtain ⟨ta, pa, sa⟩ := ha
  obtain ⟨tb, pb, sb⟩ := hb
  exact ⟨_, fun i => pe_ix (by have h := @ix_U (X i); rw [C.hK i] at h; exact h) (pa i) (pb i) hs, sem_op opd_ix sa sb⟩
/-- xs[i], xs an owned list -/
theorem mIxO (j : Nat) {x : Str} {pos' : Pos} (C : Cok X K k) (hb : DM X K m b Gb) (hj : j ∈ m := by decide) (hs : PlainIx b := by exact fun _ _ => rfl) (hN : ∀ i, (X i).N[j]? = some x := by intro _; rfl) (hv : ∀ i, Vis (X i).env.scope x := by intro _; first | exact Or.inl rfl | exact Or.inr (Or.inl rfl) | exact Or.inr (Or.inr rfl))
    (hd : (x == ("__debug__" : Str)) = false := by decide) (hcd : (x == ("__classdict__" : Str)) = false := by decide) : DM X K m (.Subscript (.Name x pos') b pos) (fIxO j Gb) := by
  obtain ⟨tb, pb, sb⟩ := hb
  exact ⟨_, fun i => pe_ix (by have h := @ix_list (X i); rw [C.hK i] at h; exact h) (pe_var (hN i) (hv i) hd hcd) (pb i) hs, sem_ixO sb hj⟩
/-- slice bounds -/
def DO (X : ι → Cx) (K : PySem.W.Frag) (m : List Nat) (e : Option Expr) (F : En → Option (Option Int)) : Prop := ∃ t : TO, (∀ i, PO (X i) e t) ∧ ∀ env σ S H, Rel K m env σ S H → ∀ d, F env = some d → ∀ Q : Option Int → Hp → Prop, (∀ S' H', Gz S H S' H' → Q d H') → t σ H Q
theorem oN : DO X K m none (fun _ => some none) := ⟨_, fun _ => po_none, fun env σ S H R d e Q q => by cases e; exact q S H (Gz.refl R.ex R.sz)⟩
theorem oS (h : DE X K m e F) : DO X K m (some e) (fun env => ((F env).bind asI).map some) := by
  obtain ⟨t, p, s⟩ := h
  refine ⟨_, fun i => po_some (p i), fun env σ S H R d ee Q q => ?_⟩
  obtain ⟨i, ei, rfl⟩ := map_some ee
  obtain ⟨a, ea, ei⟩ := bind_some ei
  have := asI_some ei; subst this
  exact s env σ S H R _ ea _ fun v S1 H1 k1 r => ⟨i, r.int_inv, q S1 H1 k1⟩
def fSl (F : En → Option D) (Fl Fh : En → Option (Option Int)) : En → Option D := fun env => (F env).bind fun a => (Fl env).bind fun l => (Fh env).bind fun h => dSl l h a
theorem eSl {lo hi : Option Expr} {p2 : Pos} {Flo Fhi : En → Option (Option Int)} (C : Cok X K k) (h : DE X K m e F) (hl : DO X K m lo Flo) (hh : DO X K m hi Fhi) : DE X K m (.Subscript e (.Slice lo hi none p2) pos) (fSl F Flo Fhi) := by
  obtain ⟨t, p, s⟩ := h
  obtain ⟨t2, p2, s2⟩ := hl
  obtain ⟨t3, p3, s3⟩ := hh
  refine ⟨_, fun i => pe_slice (by have h := @sl_U (X i); rw [C.hK i] at h; exact h) (p i) (p2 i) (p3 i), fun env σ S H R d ee Q q => ?_⟩
  obtain ⟨a, ea, ee⟩ := bind_some ee
  obtain ⟨l, el, ee⟩ := bind_some ee
  obtain ⟨u, eu, ee⟩ := bind_some ee
  exact s env σ S H R a ea _ fun v S1 H1 k1 r => s2 env σ S1 H1 (R.gz k1) l el _ fun S2 H2 k2 => s3 env σ S2 H2 ((R.gz k1).gz k2) u eu _ fun S3 H3 k3 =>
    sld k3.x k3.z (r.mono (k2.s.trans k3.s)) ee Q fun w S4 H4 k4 r4 => q w S4 H4 (((k1.trans k2).trans k3).trans k4) r4
/-! calls of built-ins -/
theorem eCB {id : String} {x : Str} {p : Pos} {mg : Str → Option Value} {r : PySem.W.Frag → List V → Hp → VK → Prop} {g : List D → Option D} (hc : ∀ i, CallR (X i) (.builtin id) (r (X i).K)) (hg : CallD K (r K) g) (C : Cok X K k) (hmg : mg x = none) (hv : bootBuiltins x = some (.builtin id)) (ha : DA X K m (e :: es) Fl)
    (hm : ∀ i, (X i).mg = mg := by intro _; rfl) (hgl : ∀ i, Gl (X i) x := by intro _; rfl) (hn : x ≠ "__name__" := by decide) (hdb : (x == ("__debug__" : Str)) = false := by decide) (he : ∀ i, starEach (e :: es) (X i).env = (false, eval e (X i).env) :: starEach es (X i).env := by intro _; rfl) (hpl : ∀ i, (backTo pos (starEach es (X i).env)).any (·.1) = false := by intro _; rfl) :
    DE X K m (.Call (.Name x p) (e :: es) [] pos) (fCall g Fl) := by
  obtain ⟨t, pp, s⟩ := ha
  exact ⟨_, fun i => pe_callB (by have h := hc i; rw [C.hK i] at h; exact h) (hgl i) (by rw [hm i]; exact hmg) hv (pp i) hn hdb (he i) (hpl i), semP_call hg s⟩
theorem mCB {id : String} {x : Str} {p : Pos} {mg : Str → Option Value} {r : PySem.W.Frag → List V → Hp → VK → Prop} {g : List D → Option D} (hc : ∀ i, CallR (X i) (.builtin id) (r (X i).K)) (hg : CallD K (r K) g) (C : Cok X K k) (hmg : mg x = none) (hv : bootBuiltins x = some (.builtin id)) (ha : DAM X K m (e :: es) Gl')
    (hm : ∀ i, (X i).mg = mg := by intro _; rfl) (hgl : ∀ i, Gl (X i) x := by intro _; rfl) (hn : x ≠ "__name__" := by decide) (hdb : (x == ("__debug__" : Str)) = false := by decide) (he : ∀ i, starEach (e :: es) (X i).env = (false, eval e (X i).env) :: starEach es (X i).env := by intro _; rfl) (hpl : ∀ i, (backTo pos (starEach es (X i).env)).any (·.1) = false := by intro _; rfl) :
    DM X K m (.Call (.Name x p) (e :: es) [] pos) (gCall g Gl') := by
  obtain ⟨t, pp, s⟩ := ha
  exact ⟨_, fun i => pe_callB (by have h := hc i; rw [C.hK i] at h; exact h) (hgl i) (by rw [hm i]; exact hmg) hv (pp i) hn hdb (he i) (hpl i), sem_call hg s⟩
theorem eCTy {T : String} {x : Str} {p : Pos} {mg : Str → Option Value} {r : PySem.W.Frag → List V → Hp → VK → Prop} {g : List D → Option D} (hc : ∀ i, CallR (X i) (.type T) (r (X i).K)) (hg : CallD K (r K) g) (C : Cok X K k) (hmg : mg x = none) (hv : bootBuiltins x = some (.type T)) (ha : DA X K m (e :: es) Fl)
    (hm : ∀ i, (X i).mg = mg := by intro _; rfl) (hgl : ∀ i, Gl (X i) x := by intro _; rfl) (hn : x ≠ "__name__" := by decide) (hdb : (x == ("__debug__" : Str)) = false := by decide) (he : ∀ i, starEach (e :: es) (X i).env = (false, eval e (X i).env) :: starEach es (X i).env := by intro _; rfl) (hpl : ∀ i, (backTo pos (starEach es (X i).env)).any (·.1) = false := by intro _; rfl) :
    DE X K m (.Call (.Name x p) (e :: es) [] pos) (fCall g Fl) := by
  obtain ⟨t, pp, s⟩ := ha
  exact ⟨_, fun i => pe_callTy (by have h := hc i; rw [C.hK i] at h; exact h) (hgl i) (by rw [hm i]; exact hmg) hv (pp i) hn hdb (he i) (hpl i), semP_call hg s⟩
theorem mCTy {T : String} {x : Str} {p : Pos} {mg : Str → Option Value} {r : PySem.W.Frag → List V → Hp → VK → Prop} {g : List D → Option D} (hc : ∀ i, CallR (X i) (.type T) (r (X i).K)) (hg : CallD K (r K) g) (C : Cok X K k) (hmg : mg x = none) (hv : bootBuiltins x = some (.type T)) (ha : DAM X K m (e :: es) Gl')
    (hm : ∀ i, (X i).mg = mg := by intro _; rfl) (hgl : ∀ i, Gl (X i) x := by intro _; rfl) (hn : x ≠ "__name__" := by decide) (hdb : (x == ("__debug__" : Str)) = false := by decide) (he : ∀ i, starEach (e :: es) (X i).env = (false, eval e (X i).env) :: starEach es (X i).env := by intro _; rfl) (hpl : ∀ i, (backTo pos (starEach es (X i).env)).any (·.1) = false := by intro _; rfl) :
    DM X K m (.Call (.Name x p) (e :: es) [] pos) (gCall g Gl') := by
  obtain ⟨t, pp, s⟩ := ha
  exact ⟨_, fun i => pe_callTy (by have h := hc i; rw [C.hK i] at h; exact h) (hgl i) (by rw [hm i]; exact hmg) hv (pp i) hn hdb (he i) (hpl i), sem_call hg s⟩
/-- a built-in function's rule, to be handed to eF, mF -/
structure BR (X : ι → Cx) (K : PySem.W.Frag) (id : String) (r : PySem.W.Frag → List V → Hp → VK → Prop) (g : List D → Option D) : Prop where
  o : ∀ i, CallR (X i) (.builtin id) (r (X i).K)
  d : CallD K (r K) g
structure TR (X : ι → Cx) (K : PySem.W.Frag) (T : String) (r : PySem.W.Frag → List V → Hp → VK → Prop) (g : List D → Option D) : Prop where
  o : ∀ i, CallR (X i) (.type T) (r (X i).K)
  d : CallD K (r K) g
theorem bLen : BR X K "len" (fun K => rLenQ K) dLen := ⟨fun _ => call_len_seq, calld_len⟩
theorem bAbs : BR X K "abs" (fun _ xs H Q => ∃ i, xs = [.int i] ∧ Q (.int (if i < 0 then -i else i)) H) dAbs := ⟨fun _ => call_abs, calld_abs⟩
theorem bMax (C : Cok X K k) : BR X K "max" (fun K => rMaxU K) dMax := ⟨fun i => cr_maxU (C.calm i), calld_max⟩
theorem bMin (C : Cok X K k) : BR X K "min" (fun K => rMinU K) dMin := ⟨fun i => cr_minU (C.calm i), calld_min⟩
theorem bSum (C : Cok X K k) : BR X K "sum" (fun K => rSum K) dSum := ⟨fun i => cr_sum (C.calm i), calld_sum⟩
theorem bAll (C : Cok X K k) : BR X K "all" (fun K => rAll K) dAll := ⟨fun i => cr_all (C.calm i), calld_all⟩
theorem bAny (C : Cok X K k) : BR X K "any" (fun K => rAny K) dAny := ⟨fun i => cr_any (C.calm i), calld_any⟩
theorem bRepr (C : Cok X K k) : BR X K "repr" (fun K => rReprD K) dRepr := ⟨fun i => cr_repr (C.gd i) (by have := (C.room i).un; omega), calld_repr⟩
theorem bSorted : BR X K "sorted" (fun K => CS.rSortU K) dSorted := ⟨fun _ => cr_sortU, calld_sorted⟩
theorem tyInt : TR X K "int" (fun _ xs H Q => (∃ i, xs = [.int i] ∧ Q (.int i) H) ∨ ∃ k, xs = [.bl k] ∧ Q (.int (if k then 1 else 0)) H) dInt := ⟨fun _ => call_int1, calld_int⟩
theorem eF {id : String} {x : Str} {p : Pos} {mg : Str → Option Value} {r : PySem.W.Frag → List V → Hp → VK → Prop} {g : List D → Option D} (h : BR X K id r g) (C : Cok X K k) (hmg : mg x = none) (ha : DA X K m (e :: es) Fl) (hv : bootBuiltins x = some (.builtin id) := by decide +kernel)
    (hm : ∀ i, (X i).mg = mg := by intro _; rfl) (hgl : ∀ i, Gl (X i) x := by intro _; rfl) (hn : x ≠ "__name__" := by decide) (hdb : (x == ("__debug__" : Str)) = false := by decide) (he : ∀ i, starEach (e :: es) (X i).env = (false, eval e (X i).env) :: starEach es (X i).env := by intro _; rfl) (hpl : ∀ i, (backTo pos (starEach es (X i).env)).any (·.1) = false := by intro _; rfl) :
    DE X K m (.Call (.Name x p) (e :: es) [] pos) (fCall g Fl) := eCB h.o h.d C hmg hv ha hm hgl hn hdb he hpl
theorem mF {id : String} {x : Str} {p : Pos} {mg : Str → Option Value} {r : PySem.W.Frag → List V → Hp → VK → Prop} {g : List D → Option D} (h : BR X K id r g) (C : Cok X K k) (hmg : mg x = none) (ha : DAM X K m (e :: es) Gl') (hv : bootBuiltins x = some (.builtin id) := by decide +kernel)
    (hm : ∀ i, (X i).mg = mg := by intro _; rfl) (hgl : ∀ i, Gl (X i) x := by intro _; rfl) (hn : x ≠ "__name__" := by decide) (hdb : (x == ("__debug__" : Str)) = false := by decide) (he : ∀ i, starEach (e :: es) (X i).env = (false, eval e (X i).env) :: starEach es (X i).env := by intro _; rfl) (hpl : ∀ i, (backTo pos (starEach es (X i).env)).any (·.1) = false := by intro _; rfl) :
    DM X K m (.Call (.Name x p) (e :: es) [] pos) (gCall g Gl') := mCB h.o h.d C hmg hv ha hm hgl hn hdb he hpl
theorem eTy {T : String} {x : Str} {p : Pos} {mg : Str → Option Value} {r : PySem.W.Frag → List V → Hp → VK → Prop} {g : List D → Option D} (h : TR X K T r g) (C : Cok X K k) (hmg : mg x = none) (ha : DA X K m (e :: es) Fl) (hv : bootBuiltins x = some (.type T) := by decide +kernel)
    (hm : ∀ i, (X i).mg = mg := by intro _; rfl) (hgl : ∀ i, Gl (X i) x := by intro _; rfl) (hn : x ≠ "__name__" := by decide) (hdb : (x == ("__debug__" : Str)) = false := by decide) (he : ∀ i, starEach (e :: es) (X i).env = (false, eval e (X i).env) :: starEach es (X i).env := by intro _; rfl) (hpl : ∀ i, (backTo pos (starEach es (X i).env)).any (·.1) = false := by intro _; rfl) :
    DE X K m (.Call (.Name x p) (e :: es) [] pos) (fCall g Fl) := eCTy h.o h.d C hmg hv ha hm hgl hn hdb he hpl
theorem mTy {T : String} {x : Str} {p : Pos} {mg : Str → Option Value} {r : PySem.W.Frag → List V → Hp → VK → Prop} {g : List D → Option D} (h : TR X K T r g) (C : Cok X K k) (hmg : mg x = none) (ha : DAM X K m (e :: es) Gl') (hv : bootBuiltins x = some (.type T) := by decide +kernel)
    (hm : ∀ i, (X i).mg = mg := by intro _; rfl) (hgl : ∀ i, Gl (X i) x := by intro _; rfl) (hn : x ≠ "__name__" := by decide) (hdb : (x == ("__debug__" : Str)) = false := by decide) (he : ∀ i, starEach (e :: es) (X i).env = (false, eval e (X i).env) :: starEach es (X i).env := by intro _; rfl) (hpl : ∀ i, (backTo pos (starEach es (X i).env)).any (·.1) = false := by intro _; rfl) :
    DM X K m (.Call (.Name x p) (e :: es) [] pos) (gCall g Gl') := mCTy h.o h.d C hmg hv ha hm hgl hn hdb he hpl
/-- what reads an owned list and is flat -/
theorem eO (j : Nat) {m2 : List Nat} (h : DE X K m2 e F) (hj : j ∈ m := by decide) (hm : m2 = m.filter (· ≠ j) := by decide) : DE X K m e (fFlat F) := let ⟨t, p, s⟩ := h; ⟨t, p, semP_flat s hj hm⟩
end
end CS

/-! CsH: calls of own defs, comprehensions, statements. -/
namespace CS
open PySem PySem.Spec PyProof.Rows L2
open Evl (Ex ex_l ex_t)
/-! ### contexts that look at one program -/
structure Cw {ι : Type} (X : ι → Cx) (P : Program) (w : World) (K : PySem.W.Frag) (mg : Str → Option Value) (base : Heap) (k : Nat) : Prop extends Cok X K k where
  hP : ∀ i, (X i).prog = P
  hw : ∀ i, (X i).w = w
  hm : ∀ i, (X i).mg = mg
  hb : ∀ i, (X i).base = base
section
variable {ι : Type} {X : ι → Cx} {P : Program} {w : World} {K : PySem.W.Frag} {mg : Str → Option Value} {base : Heap} {k j : Nat}
theorem Cw.blk (C : Cw X P w K mg base k) (scope : Scope) : Cw (blkX X scope) P w K mg base k := ⟨C.toCok.blk scope, fun j => C.hP j.1, fun j => C.hw j.1, fun j => C.hm j.1, fun j => C.hb j.1⟩
theorem bodyX_at {N ps : List Str} {qual : Str} {sc : Scope} {f : Addr} (S : FnScope N ps sc) : Cw (bodyX P w K mg base N qual sc f k) P w K mg base k := ⟨bodyX_ok S, fun _ => rfl, fun _ => rfl, fun _ => rfl, fun _ => rfl⟩
end
/-! ### a def that may be called -/
structure Fn (P : Program) (w : World) (K : PySem.W.Frag) (mg : Str → Option Value) (base : Heap) (k : Nat) (x : Str) (st : Stmt) (ps : List Str) (sp : Sp) : Prop where
  ex : ∃ (f : Addr) (fd : FuncData), Fun K x x st f fd ∧ FnG P w K mg base CX0 k f fd ps sp ∧ mg x = some (.ref f) ∧ Binds K fd ps []
section
variable {P : Program} {w : World} {K : PySem.W.Frag} {mg : Str → Option Value} {base : Heap} {j k : Nat} {x : Str} {st : Stmt} {ps : List Str} {sp : Sp}
theorem Fn.mono (F : Fn P w K mg base j x st ps sp) (h : j ≤ k) : Fn P w K mg base k x st ps sp := let ⟨f, fd, a, b, c, d⟩ := F.ex; ⟨f, fd, a, b.mono h, c, d⟩
theorem Fn.imp {sp' : Sp} (F : Fn P w K mg base k x st ps sp) (h : ∀ vs H Q E, sp' vs H Q E → sp vs H Q E) : Fn P w K mg base k x st ps sp' := let ⟨f, fd, a, b, c, d⟩ := F.ex; ⟨f, fd, a, b.imp h, c, d⟩
/-- binding by keyword, by computation -/
def KwB (x : Str) (st : Stmt) (ps : List Str) (n : Nat) (ks : List Str) (pm : List Nat) : Prop := ∀ (kV doc pmv : Value) (an : Option Addr) (cdv ct : Value) (us ws : List Value), us.length = n → ws.length = ks.length →
  bindArgs (PySem.W.fnOf x x (defArgs st) (defBody st) (defScope st) .none kV doc pmv an cdv ct) ⟨us, ks.zip ws⟩ = pure (ps.zip (pm.filterMap fun i => (us ++ ws)[i]?))
theorem fun_kb {f : Addr} {fd : FuncData} {n : Nat} {ks : List Str} {pm : List Nat} (F : Fun K x x st f fd) (h : KwB x st ps n ks pm) : KB K fd ps n ks pm := by
  obtain ⟨oc, od, kV, doc, pmv, an, cdv, ct, osl, rfl, lk, hcd⟩ := F.ex
  exact fun s us ws _ l1 l2 => .of_eq (h kV doc pmv an cdv ct us ws l1 l2)
end
section
variable {ι : Type} {X : ι → Cx} {P : Program} {w : World} {K : PySem.W.Frag} {mg : Str → Option Value} {base : Heap} {k j : Nat} {m : List Nat} {x : Str} {st : Stmt} {ps : List Str} {e : Expr} {es : List Expr} {p pos : Pos} {Fl Fk : En → Option (List D)} {Ga Gk : En → Option (List D × En)}
theorem pCall {sp : Sp} {t : TA} (C : Cw X P w K mg base k) (F : Fn P w K mg base j x st ps sp) (ha : ∀ i, PA (X i) (e :: es) t) (hjk : j ≤ k)
    (hgl : ∀ i, Gl (X i) x) (hdb : (x == ("__debug__" : Str)) = false) (he : ∀ i, starEach (e :: es) (X i).env = (false, eval e (X i).env) :: starEach es (X i).env) (hpl : ∀ i, (backTo pos (starEach es (X i).env)).any (·.1) = false) (i : ι) :
    PE (X i) (.Call (.Name x p) (e :: es) [] pos) (tCall sp [] (fun _ _ _ => False) t) := by
  obtain ⟨f, fd, hF, hG, hmg, hB⟩ := F.ex
  have a1 := C.hP i; have a2 := C.hw i; have a3 := C.hK i; have a4 := C.hm i; have a5 := C.hb i
  subst a1 a2 a3 a4 a5
  exact pe_callG hG ((C.room i).mono hjk) (C.gd i) (hgl i) hmg hF.kp hB (fun _ _ _ _ _ _ _ h => h.elim) (ha i) hdb (he i) (hpl i)
/-- f(e, ..), pure -/
theorem eCall {g : List D → Option D} (C : Cw X P w K mg base k) (F : Fn P w K mg base j x st ps (spP K g)) (ha : DA X K m (e :: es) Fl) (hjk : j ≤ k := by omega)
    (hgl : ∀ i, Gl (X i) x := by intro _; rfl) (hdb : (x == ("__debug__" : Str)) = false := by decide) (he : ∀ i, starEach (e :: es) (X i).env = (false, eval e (X i).env) :: starEach es (X i).env := by intro _; rfl) (hpl : ∀ i, (backTo pos (starEach es (X i).env)).any (·.1) = false := by intro _; rfl) :
    DE X K m (.Call (.Name x p) (e :: es) [] pos) (fCall g Fl) := let ⟨_, pp, s⟩ := ha; ⟨_, pCall C F pp hjk hgl hdb he hpl, semP_callP s⟩
theorem mCall {g : List D → Option D} (C : Cw X P w K mg base k) (F : Fn P w K mg base j x st ps (spP K g)) (ha : DAM X K m (e :: es) Ga) (hjk : j ≤ k := by omega)
    (hgl : ∀ i, Gl (X i) x := by intro _; rfl) (hdb : (x == ("__debug__" : Str)) = false := by decide) (he : ∀ i, starEach (e :: es) (X i).env = (false, eval e (X i).env) :: starEach es (X i).env := by intro _; rfl) (hpl : ∀ i, (backTo pos (starEach es (X i).env)).any (·.1) = false := by intro _; rfl) :
    DM X K m (.Call (.Name x p) (e :: es) [] pos) (gCall g Ga) := let ⟨_, pp, s⟩ := ha; ⟨_, pCall C F pp hjk hgl hdb he hpl, sem_callP s⟩
/-- a fresh list, owned at once -/
theorem fCallF {g : List D → Option D} (C : Cw X P w K mg base k) (F : Fn P w K mg base j x st ps (spF K g)) (ha : DAM X K m (e :: es) Ga) (hjk : j ≤ k := by omega)
    (hgl : ∀ i, Gl (X i) x := by intro _; rfl) (hdb : (x == ("__debug__" : Str)) = false := by decide) (he : ∀ i, starEach (e :: es) (X i).env = (false, eval e (X i).env) :: starEach es (X i).env := by intro _; rfl) (hpl : ∀ i, (backTo pos (starEach es (X i).env)).any (·.1) = false := by intro _; rfl) :
    DF X K m (.Call (.Name x p) (e :: es) [] pos) (gCall g Ga) := let ⟨_, pp, s⟩ := ha; ⟨_, pCall C F pp hjk hgl hdb he hpl, semF_callF s⟩
/-- a fresh list, shared at once -/
theorem eCallF {g : List D → Option D} (C : Cw X P w K mg base k) (F : Fn P w K mg base j x st ps (spF K g)) (ha : DA X K m (e :: es) Fl) (hl : ∀ ds r, g ds = some r → ∃ es, r = .list es) (hjk : j ≤ k := by omega)
    (hgl : ∀ i, Gl (X i) x := by intro _; rfl) (hdb : (x == ("__debug__" : Str)) = false := by decide) (he : ∀ i, starEach (e :: es) (X i).env = (false, eval e (X i).env) :: starEach es (X i).env := by intro _; rfl) (hpl : ∀ i, (backTo pos (starEach es (X i).env)).any (·.1) = false := by intro _; rfl) :
    DE X K m (.Call (.Name x p) (e :: es) [] pos) (fCall g Fl) := let ⟨_, pp, s⟩ := ha; ⟨_, pCall C F pp hjk hgl hdb he hpl, semP_callF s hl⟩
/-- the first argument an owned list that the def changes -/
theorem mCallM (n : Nat) {y : Str} {py : Pos} {g : List D → List D → Option (D × List D)} (C : Cw X P w K mg base k) (F : Fn P w K mg base j x st ps (spM K g)) (ha : DAM X K m es Ga) (hn : n ∈ m := by decide) (hjk : j ≤ k := by omega)
    (hN : ∀ i, (X i).N[n]? = some y := by intro _; rfl) (hv : ∀ i, Vis (X i).env.scope y := by intro _; first | exact Or.inl rfl | exact Or.inr (Or.inl rfl) | exact Or.inr (Or.inr rfl))
    (hd : (y == ("__debug__" : Str)) = false := by decide) (hcd : (y == ("__classdict__" : Str)) = false := by decide)
    (hgl : ∀ i, Gl (X i) x := by intro _; rfl) (hdb : (x == ("__debug__" : Str)) = false := by decide) (he : ∀ i, starEach (.Name y py :: es) (X i).env = (false, eval (.Name y py) (X i).env) :: starEach es (X i).env := by intro _; rfl) (hpl : ∀ i, (backTo pos (starEach es (X i).env)).any (·.1) = false := by intro _; rfl) :
    DM X K m (.Call (.Name x p) (.Name y py :: es) [] pos) (gCallM n g Ga) := by
  obtain ⟨t, pp, s⟩ := ha
  exact ⟨_, pCall C F (fun i => pa_cons (pe_var (hN i) (hv i) hd hcd) (pp i) (he i)) hjk hgl hdb he hpl, sem_callM s hn⟩
/-- keywords alone -/
theorem pCallK0 {sp : Sp} {tk : TA} {kws : List Keyword} {ks : List Str} {pm : List Nat} (C : Cw X P w K mg base k) (F : Fn P w K mg base j x st ps sp) (hkb : KwB x st ps 0 ks pm) (ha : ∀ i, PK (X i) kws tk) (hjk : j ≤ k)
    (hgl : ∀ i, Gl (X i) x) (hdb : (x == ("__debug__" : Str)) = false) (hall : ∀ i, (backToKw pos (keywordEach kws (X i).env)).all (·.1.isSome) = true) (hks : ∀ i, (backToKw pos (keywordEach kws (X i).env)).filterMap (·.1) = ks)
    (hpl : ∀ i, ((backTo pos (starEach [] (X i).env)).any (·.1) || (backToKw pos (keywordEach kws (X i).env)).any (·.1.isNone)) = false) (i : ι) :
    PE (X i) (.Call (.Name x p) [] kws pos) (tCallKG 0 ks.length sp pm (fun _ _ _ => False) tNil tk) := by
  obtain ⟨f, fd, hF, hG, hmg, hB⟩ := F.ex
  have a1 := C.hP i; have a2 := C.hw i; have a3 := C.hK i; have a4 := C.hm i; have a5 := C.hb i
  subst a1 a2 a3 a4 a5
  exact pe_callKG0 hG ((C.room i).mono hjk) (C.gd i) (hgl i) hmg hF.kp (fun_kb hF hkb) (fun _ _ _ _ _ _ _ h => h.elim) (ha i) (hall i) (hks i) hdb (hpl i)
theorem RpAll.pick {H : Hp} {vs : List V} {ds : List D} (r : RpAll K H vs ds) : ∀ pm : List Nat, RpAll K H (CS.pick pm vs) (CS.pick pm ds)
  | [] => .nil
  | i :: pm => by
    unfold CS.pick
    cases h : vs[i]? with
    | none =>
      have h2 : ds[i]? = none := by
        rw [List.getElem?_eq_none_iff] at h ⊢
        rw [← r.length]; exact h
      rw [List.filterMap_cons, List.filterMap_cons, h, h2]
      exact RpAll.pick r pm
    | some v =>
      obtain ⟨d, hd, rd⟩ := r.get h
      rw [List.filterMap_cons, List.filterMap_cons, h, hd]
      exact .cons rd (RpAll.pick r pm)
def kwG (n : Nat) (pm : List Nat) (g : List D → Option D) : List D → Option D := fun ds => if ds.length = n then g (CS.pick pm ds) else none
theorem semP_callK0 {g : List D → Option D} {pm : List Nat} {n : Nat} {tk : TA} {E : XK} (hk : SemPA K m tk Fk) : SemP K m (tCallKG 0 n (spP K g) pm E tNil tk) (fCall (kwG n pm g) Fk) := fun env σ S H R d e Q q => by
  obtain ⟨a, ea, e⟩ := bind_some e
  unfold kwG at e
  split at e
  · rename_i hn
    refine hk env σ S H R a ea _ fun vs S1 H1 k1 r => ⟨rfl, r.length.trans hn, S1, _, d, k1.x, k1.z, RpAll.pick r pm, e, fun v S2 H2 k2 rv => q v S2 H2 (k1.trans k2) rv⟩
  · cases e
theorem eCallK {g : List D → Option D} {kws : List Keyword} {ks : List Str} {pm : List Nat} (C : Cw X P w K mg base k) (F : Fn P w K mg base j x st ps (spP K g)) (hkb : KwB x st ps 0 ks pm) (ha : DK X K m kws Fk) (hjk : j ≤ k := by omega)
    (hgl : ∀ i, Gl (X i) x := by intro _; rfl) (hdb : (x == ("__debug__" : Str)) = false := by decide) (hall : ∀ i, (backToKw pos (keywordEach kws (X i).env)).all (·.1.isSome) = true := by intro _; rfl) (hks : ∀ i, (backToKw pos (keywordEach kws (X i).env)).filterMap (·.1) = ks := by intro _; rfl)
    (hpl : ∀ i, ((backTo pos (starEach [] (X i).env)).any (·.1) || (backToKw pos (keywordEach kws (X i).env)).any (·.1.isNone)) = false := by intro _; rfl) :
    DE X K m (.Call (.Name x p) [] kws pos) (fCall (kwG ks.length pm g) Fk) := let ⟨_, pp, s⟩ := ha; ⟨_, pCallK0 C F hkb pp hjk hgl hdb hall hks hpl, semP_callK0 s⟩
/-- .. of a def that hands back a fresh list -/
theorem semP_callKF0 {g : List D → Option D} {pm : List Nat} {n : Nat} {tk : TA} {E : XK} (hk : SemPA K m tk Fk) (hl : ∀ ds r, g ds = some r → ∃ es, r = .list es) : SemP K m (tCallKG 0 n (spF K g) pm E tNil tk) (fCall (kwG n pm g) Fk) := fun env σ S H R d e Q q => by
  obtain ⟨a, ea, e⟩ := bind_some e
  unfold kwG at e
  split at e
  · rename_i hn
    refine hk env σ S H R a ea _ fun vs S1 H1 k1 r => ⟨rfl, r.length.trans hn, S1, _, d, k1.x, k1.z, RpAll.pick r pm, e, ?_⟩
    intro p xs es S2 H2 hd k2 h1 h2 h3 h4
    subst hd
    refine q _ (upd S2 p (.lst xs)) H2 (k1.trans ⟨k2.s.trans (Ex.new h2), k2.h, fun a ha => ?_, fun a o e => ?_, k2.z⟩) (.lst upd_same (h4.mono (Ex.new h2)))
    · have : a ≠ p := fun e => ha (e ▸ h1)
      rw [upd_ne this]; exact k2.n a ha
    · by_cases c : a = p
      · subst c; rw [upd_same] at e; cases e; exact h3
      · rw [upd_ne c] at e; exact k2.x a o e
  · cases e
theorem eCallKF {g : List D → Option D} {kws : List Keyword} {ks : List Str} {pm : List Nat} (C : Cw X P w K mg base k) (F : Fn P w K mg base j x st ps (spF K g)) (hkb : KwB x st ps 0 ks pm) (ha : DK X K m kws Fk) (hl : ∀ ds r, g ds = some r → ∃ es, r = .list es) (hjk : j ≤ k := by omega)
    (hgl : ∀ i, Gl (X i) x := by intro _; rfl) (hdb : (x == ("__debug__" : Str)) = false := by decide) (hall : ∀ i, (backToKw pos (keywordEach kws (X i).env)).all (·.1.isSome) = true := by intro _; rfl) (hks : ∀ i, (backToKw pos (keywordEach kws (X i).env)).filterMap (·.1) = ks := by intro _; rfl)
    (hpl : ∀ i, ((backTo pos (starEach [] (X i).env)).any (·.1) || (backToKw pos (keywordEach kws (X i).env)).any (·.1.isNone)) = false := by intro _; rfl) :
    DE X K m (.Call (.Name x p) [] kws pos) (fCall (kwG ks.length pm g) Fk) := let ⟨_, pp, s⟩ := ha; ⟨_, pCallK0 C F hkb pp hjk hgl hdb hall hks hpl, semP_callKF0 s hl⟩
end
/-! ### isinstance -/
def isiB (T : String) : D → Option Bool
  | .none => kitB "NoneType" T
  | .bool _ => kitB "bool" T
  | .int _ => kitB "int" T
  | .str _ => kitB "str" T
  | .list _ => kitB "list" T
  | .tuple _ => kitB "tuple" T
  | .dict _ => none
def dIsi (T : String) : List D → Option D
  | [d] => (isiB T d).map .bool
  | _ => none
section
variable {ι : Type} {X : ι → Cx} {K : PySem.W.Frag} {k : Nat} {m : List Nat} {e : Expr} {pos p p2 : Pos} {F : En → Option D} {G : En → Option (D × En)}
theorem isi_go {S H : Hp} {v : V} {d : D} {T : String} {b : Bool} {Q : VK} (x : Ex S H) (r : Rp K S v d) (e : isiB T d = some b) (q : Q (.bl b) H) : rIsi K [v, .ty T] H Q := by
  cases r with
  | non => exact ⟨_, _, _, _, b, rfl, .ty T, .base .non, kit_ty e, q⟩
  | bl y => exact ⟨_, _, _, _, b, rfl, .ty T, .base (.bl y), kit_ty e, q⟩
  | int i => exact ⟨_, _, _, _, b, rfl, .ty T, .base (.int i), kit_ty e, q⟩
  | str y => exact ⟨_, _, _, _, b, rfl, .ty T, .base (.str y), kit_ty e, q⟩
  | lst hs ha => exact ⟨_, _, _, _, b, rfl, .ty T, .base (.lst (x _ _ hs)), kit_ty e, q⟩
  | tup hs ha => exact ⟨_, _, _, _, b, rfl, .ty T, .base (.tup (x _ _ hs)), kit_ty e, q⟩
  | scr _ => cases e
theorem eIsi {T : String} {y : Str} {mg : Str → Option Value} (C : Cok X K k) (hmg : mg "isinstance" = none) (hmy : mg y = none) (h : DE X K m e F) (hv : bootBuiltins y = some (.type T) := by decide +kernel)
    (hm : ∀ i, (X i).mg = mg := by intro _; rfl) (hgl : ∀ i, Gl (X i) "isinstance" := by intro _; rfl) (hgy : ∀ i, Gl (X i) y := by intro _; rfl) (hy : y ≠ "__name__" := by decide) (hdy : (y == ("__debug__" : Str)) = false := by decide)
    (he : ∀ i, starEach [e, .Name y p2] (X i).env = (false, eval e (X i).env) :: starEach [.Name y p2] (X i).env := by intro _; rfl)
    (he2 : ∀ i, starEach [.Name y p2] (X i).env = (false, eval (.Name y p2) (X i).env) :: starEach [] (X i).env := by intro _; rfl) (hpl : ∀ i, (backTo pos (starEach [.Name y p2] (X i).env)).any (·.1) = false := by intro _; rfl) :
    DE X K m (.Call (.Name "isinstance" p) [e, .Name y p2] [] pos) (fCall (dIsi T) (fCons F fNil)) := by
  obtain ⟨t, pp, s⟩ := h
  refine ⟨_, fun i => pe_callB (by have h := @call_isi (X i); rw [C.hK i] at h; exact h) (hgl i) (by rw [hm i]; exact hmg) PyProof.Rows.boot_isinstance (pa_cons (pp i) (pa_cons (pe_bltn (v := .ty T) (hgy i) (by rw [hm i]; exact hmy) hv rfl hy hdy) pa_nil (he2 i)) (he i)) (by decide) (by decide) (he i) (hpl i), fun env σ S H R d e Q q => ?_⟩
  obtain ⟨as, ea, e⟩ := bind_some e
  obtain ⟨a, ea1, e2⟩ := bind_some ea
  cases e2
  obtain ⟨b, hb, rfl⟩ := map_some e
  exact s env σ S H R a ea1 _ fun v S1 H1 k1 r => isi_go k1.x r hb (q _ S1 H1 k1 (.bl b))
end
/-! ### what is walked -/
section
variable {ι : Type} {X : ι → Cx} {K : PySem.W.Frag} {k : Nat} {m : List Nat} {tg e : Expr} {pos p : Pos} {F : En → Option D} {Fl : En → Option (List D)}
theorem diL (C : Cok X K k) (h : DE X K m e F) : DI X K m tg e (fun env => (F env).bind asL) := let ⟨t, pp, s⟩ := h; ⟨iList K t, fun i => by have q := pi_list (tg := tg) (pp i); rw [C.hK i] at q; exact q, semPI_list s⟩
theorem diT (C : Cok X K k) (h : DE X K m e F) : DI X K m tg e (fun env => (F env).bind asT) := let ⟨t, pp, s⟩ := h; ⟨iTup K t, fun i => by have q := pi_tup (tg := tg) (pp i); rw [C.hK i] at q; exact q, semPI_tup s⟩
/-- a list or a tuple -/
def asS : D → Option (List D)
  | .list ds => some ds
  | .tuple ds => some ds
  | _ => none
theorem semPI_seq {te : TE} (h : SemP K m te F) : SemPI K m (fun σ H R => iList K te σ H R ∨ iTup K te σ H R) (fun env => (F env).bind asS) := fun env σ S H R ds e Q q => by
  obtain ⟨a, ea, e⟩ := bind_some e
  unfold asS at e
  split at e
  · cases e
    exact .inl (semPI_list h env σ S H R _ (by show (F env).bind asL = _; rw [ea]; rfl) Q q)
  · cases e
    exact .inr (semPI_tup h env σ S H R _ (by show (F env).bind asT = _; rw [ea]; rfl) Q q)
  · cases e
theorem pi_or {X : Cx} {w1 w2 : TI} (h1 : PI X tg e w1) (h2 : PI X tg e w2) : PI X tg e (fun σ H R => w1 σ H R ∨ w2 σ H R) := ⟨fun pins s σ H R I h => h.elim (h1.run pins s σ H R I) (h2.run pins s σ H R I)⟩
theorem diS (C : Cok X K k) (h : DE X K m e F) : DI X K m tg e (fun env => (F env).bind asS) := let ⟨t, pp, s⟩ := h; ⟨_, fun i => pi_or (by have q := pi_list (tg := tg) (pp i); rw [C.hK i] at q; exact q) (by have q := pi_tup (tg := tg) (pp i); rw [C.hK i] at q; exact q), semPI_seq s⟩
theorem semI_list {te : TE} {G : En → Option (D × En)} (h : Sem K m te G) : SemI K m (iList K te) (fun env => (G env).bind fun r => (asL r.1).map fun ds => (ds, r.2)) := fun env σ S H R ds env' e Q q => by
  obtain ⟨⟨a, e1⟩, ea, e⟩ := bind_some e
  obtain ⟨ds', ed, e⟩ := map_some e
  cases e
  cases asL_some ed
  refine h env σ S H R _ _ ea _ fun v S1 H1 k R1 r => ?_
  obtain ⟨p, xs, rfl, hs0, ha⟩ := r.list_inv
  have hs : SqL K S1 p xs := SqL.of hs0
  exact ⟨p, rfl, ⟨xs, ex_l R1.ex hs⟩, q _ S1 H1 k R1 (by rw [← ha.length]; exact R1.sz.list (ex_l R1.ex hs)) (walkD_list hs ha)⟩
theorem diLM {G : En → Option (D × En)} (C : Cok X K k) (h : DM X K m e G) : DIM X K m tg e (fun env => (G env).bind fun r => (asL r.1).map fun ds => (ds, r.2)) := let ⟨t, pp, s⟩ := h; ⟨iList K t, fun i => by have q := pi_list (tg := tg) (pp i); rw [C.hK i] at q; exact q, semI_list s⟩
variable {mg : Str → Option Value} {a b : Expr}
theorem diR1 (C : Cok X K k) (hmg : mg "range" = none) (h : DA X K m [a] Fl) (hm : ∀ i, (X i).mg = mg := by intro _; rfl) (hgl : ∀ i, Gl (X i) "range" := by intro _; rfl) (hs : ∀ i, starEach [a] (X i).env = [(false, eval a (X i).env)] := by intro _; rfl) :
    DI X K m tg (.Call (.Name "range" p) [a] [] pos) (fun env => (Fl env).bind rng1) := let ⟨t, pp, s⟩ := h; ⟨iRng1 t, fun i => pi_range1 (hgl i) (by rw [hm i]; exact hmg) (pp i) (hs i), semPI_rng1 s⟩
theorem diR2 (C : Cok X K k) (hmg : mg "range" = none) (h : DA X K m [a, b] Fl) (hm : ∀ i, (X i).mg = mg := by intro _; rfl) (hgl : ∀ i, Gl (X i) "range" := by intro _; rfl)
    (hs : ∀ i, starEach [a, b] (X i).env = [(false, eval a (X i).env), (false, eval b (X i).env)] := by intro _; rfl) (hs2 : ∀ i, starEach [b] (X i).env = [(false, eval b (X i).env)] := by intro _; rfl) :
    DI X K m tg (.Call (.Name "range" p) [a, b] [] pos) (fun env => (Fl env).bind rng2) := let ⟨t, pp, s⟩ := h; ⟨iRng2 t, fun i => pi_range2 (hgl i) (by rw [hm i]; exact hmg) (pp i) (hs i) (hs2 i), semPI_rng2 s⟩
def enumA : List D → Option (List D) := fun as => match as with | [.list ds] => some (enumD ds) | _ => none
theorem semPI_enum {t : TA} {Fa : En → Option (List D)} (h : SemPA K m t Fa) : SemPI K m (iEnum K t) (fun env => (Fa env).bind enumA) := fun env σ S H R ds e Q q => by
  obtain ⟨a, ea, e⟩ := bind_some e
  unfold enumA at e
  split at e
  · rename_i ds'
    cases e
    refine h env σ S H R _ ea _ fun v S1 H1 k r => ?_
    obtain ⟨w, rfl, r1⟩ := r.one_inv
    obtain ⟨p, xs, rfl, hs0, ha⟩ := r1.list_inv
    have hs : SqL K S1 p xs := SqL.of hs0
    exact ⟨p, xs, rfl, ex_l k.x hs, q _ S1 H1 k (by rw [enumD_length, ← ha.length]; exact k.z.list (ex_l k.x hs)) (walkD_enum hs ha)⟩
  · cases e
def zipA : List D → Option (List D) := fun as => match as with | [.list ds, .list es] => some (zipD ds es) | _ => none
theorem semPI_zip {t : TA} {Fa : En → Option (List D)} (h : SemPA K m t Fa) : SemPI K m (iZip K t) (fun env => (Fa env).bind zipA) := fun env σ S H R ds e Q q => by
  obtain ⟨a, ea, e⟩ := bind_some e
  unfold zipA at e
  split at e
  · rename_i ds' es'
    cases e
    refine h env σ S H R _ ea _ fun v S1 H1 k r => ?_
    obtain ⟨w, w', rfl, r1, r2⟩ := r.two_inv
    obtain ⟨p, xs, rfl, hs0, ha⟩ := r1.list_inv
    obtain ⟨p', xs', rfl, hs0', ha'⟩ := r2.list_inv
    have hs : SqL K S1 p xs := SqL.of hs0
    have hs' : SqL K S1 p' xs' := SqL.of hs0'
    exact ⟨p, p', xs, xs', rfl, ex_l k.x hs, ex_l k.x hs', q _ S1 H1 k (by rw [zipD_length, ← ha.length]; have := k.z.list (ex_l k.x hs); omega) (walkD_zip hs ha hs' ha')⟩
  · cases e
theorem diE {elts : List Expr} {kk : Nat} {tpos : Pos} (C : Cok X K k) (hmg : mg "enumerate" = none) (h : DA X K m [a] Fl) (hm : ∀ i, (X i).mg = mg := by intro _; rfl) (hgl : ∀ i, Gl (X i) "enumerate" := by intro _; rfl) (hs : ∀ i, starEach [a] (X i).env = [(false, eval a (X i).env)] := by intro _; rfl) :
    DI X K m (.Tuple elts kk tpos) (.Call (.Name "enumerate" p) [a] [] pos) (fun env => (Fl env).bind enumA) := let ⟨t, pp, s⟩ := h; ⟨iEnum K t, fun i => by have q := pi_enum (elts := elts) (kk := kk) (tpos := tpos) (pos := pos) (p := p) (hgl i) (by rw [hm i]; exact hmg) (pp i) (hs i); rw [C.hK i] at q; exact q, semPI_enum s⟩
theorem diZ {elts : List Expr} {kk : Nat} {tpos : Pos} (C : Cok X K k) (hmg : mg "zip" = none) (h : DA X K m [a, b] Fl) (hm : ∀ i, (X i).mg = mg := by intro _; rfl) (hgl : ∀ i, Gl (X i) "zip" := by intro _; rfl)
    (hs : ∀ i, starEach [a, b] (X i).env = (false, eval a (X i).env) :: starEach [b] (X i).env := by intro _; rfl) (hpl : ∀ i, (backTo pos (starEach [b] (X i).env)).any (·.1) = false := by intro _; rfl) :
    DI X K m (.Tuple elts kk tpos) (.Call (.Name "zip" p) [a, b] [] pos) (fun env => (Fl env).bind zipA) := let ⟨t, pp, s⟩ := h; ⟨iZip K t, fun i => by have q := pi_zip (elts := elts) (kk := kk) (tpos := tpos) (pos := pos) (p := p) (hgl i) (by rw [hm i]; exact hmg) (pp i) (hs i) (hpl i); rw [C.hK i] at q; exact q, semPI_zip s⟩
/-! ### targets -/
theorem gN (j : Nat) {x : Str} (C : Cok X K k) (hj : j ∉ m := by decide) (hN : ∀ i, (X i).N[j]? = some x := by intro _; rfl) (hx : ∀ i, Loc (X i).env.scope x := by intro _; first | exact Or.inl rfl | exact Or.inr rfl)
    (hf : ∀ i, (X i).fn x = true ∨ (X i).env.scope.names.lookup x = some .local := by intro _; first | exact .inl rfl | exact .inr rfl) : DG X K m [j] (.Name x pos) (fun d env => some (setE j d env)) := ⟨_, fun i => pg_name (C.nd i) (hN i) (hx i) (hf i), semG_name hj⟩
theorem gsN : DGs X K m 0 [] [] tgNil := ⟨_, fun _ => pgs_nil, semGs_nil, tg_len0⟩
theorem gsC {ts us : List Nat} {es : List Expr} {n : Nat} {G1 : D → En → Option En} {G2 : List D → En → Option En} (h1 : DG X K m ts e G1) (h2 : DGs X K m n us es G2) (hs : ∀ i, (assignEach (e :: es) (X i).env).map (·.2) = assign e (X i).env :: (assignEach es (X i).env).map (·.2) := by intro _; rfl) :
    DGs X K m (n + 1) (ts ++ us) (e :: es) (tgCons G1 G2) := let ⟨_, p1, s1⟩ := h1; let ⟨_, p2, s2, l2⟩ := h2; ⟨_, fun i => pgs_cons (p1 i) (p2 i) (hs i), semGs_cons s1 s2, tg_lenS l2⟩
theorem gT {ts : List Nat} {es : List Expr} {n kk : Nat} {G : List D → En → Option En} (C : Cok X K k) (h : DGs X K m n ts es G) (hn : ∀ i, (assignEach es (X i).env).length = n := by intro _; rfl) (hst : ∀ i, (assignEach es (X i).env).findIdx? (·.1) = none := by intro _; rfl) : DG X K m ts (.Tuple es kk pos) (tgTup G) :=
  let ⟨t, pp, s, l⟩ := h; ⟨gTup K n t, fun i => by have q := pg_tup (pos := pos) (k := kk) (C.calm i) (pp i) (hn i) (hst i); rw [C.hK i] at q; exact q, semG_tup s l⟩
/-! ### comprehensions -/
theorem tsN : DTs X K m [] (fun _ => some true) := ⟨_, fun _ => pts_nil, semPT_yes⟩
theorem tsO {c : Expr} {Ft : En → Option Bool} (h : DT X K m c Ft) : DTs X K m [c] Ft := let ⟨_, pp, s⟩ := h; ⟨_, fun i => pts_one (pp i), s⟩
theorem tsmO {c : Expr} {Ft : En → Option (Bool × En)} (h : DTM X K m c Ft) : DTsM X K m [c] Ft := let ⟨_, pp, s⟩ := h; ⟨_, fun i => pts_one (pp i), s⟩
theorem tsmN : DTsM X K m [] (fun env => some (true, env)) := ⟨_, fun _ => pts_nil, semPT_yes.up⟩
end
section
variable {ι : Type} {X : ι → Cx} {K : PySem.W.Frag} {k : Nat} {m : List Nat} {elt tg iter : Expr} {ifs : List Expr} {scope : Scope} {own : List (Str × Nat)} {pos : Pos} {ts : List Nat} {Gt : D → En → Option En}
theorem eLc (own : List (Str × Nat)) {Fi : En → Option (List D)} {Ft : En → Option Bool} {Fe : En → Option D} (C : Cok X K k) (hi : DI X K m tg iter Fi) (hg : DG (blkX X scope) K m ts tg Gt) (ht : DTs (blkX X scope) K m ifs Ft) (he : DE (blkX X scope) K m elt Fe)
    (ok : ∀ i, BlkOk (X i).N (X i).env.scope scope own := by intro _; exact blkOk_by (by kernel_rfl)) (hv : ∀ i, i ∈ m → i ∉ own.map (·.2) := by decide) (hts : ∀ i, i ∈ ts → i ∈ own.map (·.2) := by decide) (hs : ∀ i x, foldedSetIterable iter (X i).env x = pure x := by intro _ _; rfl) :
    DE X K m (.ListComp elt [⟨tg, iter, ifs, 0⟩] scope pos) (lcF (own.map (·.2)) Fi Gt Ft Fe) := by
  obtain ⟨t1, p1, s1⟩ := hi; obtain ⟨t2, p2, s2⟩ := hg; obtain ⟨t3, p3, s3⟩ := ht; obtain ⟨t4, p4, s4⟩ := he
  exact ⟨_, fun i => pe_lc (C.calm i) (C.nd i) (p1 i) (ok i) (fun s H Ca cl fp => p2 ⟨i, s, H, Ca, cl, fp⟩) (fun s H Ca cl fp => p3 ⟨i, s, H, Ca, cl, fp⟩) (fun s H Ca cl fp => p4 ⟨i, s, H, Ca, cl, fp⟩) (hs i), semP_lc s1 s2 s3 s4 hv hts⟩
theorem fLc (own : List (Str × Nat)) {Fi : En → Option (List D × En)} {Ft : En → Option (Bool × En)} {Fe : En → Option (D × En)} (C : Cok X K k) (hi : DIM X K m tg iter Fi) (hg : DG (blkX X scope) K m ts tg Gt) (ht : DTsM (blkX X scope) K m ifs Ft) (he : DM (blkX X scope) K m elt Fe)
    (ok : ∀ i, BlkOk (X i).N (X i).env.scope scope own := by intro _; exact blkOk_by (by kernel_rfl)) (hv : ∀ i, i ∈ m → i ∉ own.map (·.2) := by decide) (hts : ∀ i, i ∈ ts → i ∈ own.map (·.2) := by decide) (hs : ∀ i x, foldedSetIterable iter (X i).env x = pure x := by intro _ _; rfl) :
    DF X K m (.ListComp elt [⟨tg, iter, ifs, 0⟩] scope pos) (lcG m (own.map (·.2)) Fi Gt Ft Fe) := by
  obtain ⟨t1, p1, s1⟩ := hi; obtain ⟨t2, p2, s2⟩ := hg; obtain ⟨t3, p3, s3⟩ := ht; obtain ⟨t4, p4, s4⟩ := he
  exact ⟨_, fun i => pe_lc (C.calm i) (C.nd i) (p1 i) (ok i) (fun s H Ca cl fp => p2 ⟨i, s, H, Ca, cl, fp⟩) (fun s H Ca cl fp => p3 ⟨i, s, H, Ca, cl, fp⟩) (fun s H Ca cl fp => p4 ⟨i, s, H, Ca, cl, fp⟩) (hs i), semF_lc s1 s2 s3 s4 hv hts⟩
/-! ### statements -/
variable {fr : Bool} {pn ml m1 m' : List Nat} {e : Expr} {st : Stmt} {rest : List Stmt} {F1 F2 : En → Option Out}
theorem ssN : DSs X K fr pn m ml m [] fNext := ⟨_, fun _ => pss_nil, semS_next⟩
theorem ssO (h : DS X K fr pn m ml m' st F1) : DSs X K fr pn m ml m' [st] F1 := let ⟨_, p, s⟩ := h; ⟨_, fun i => pss_one (p i), s⟩
theorem ssC (h : DS X K fr pn m ml m1 st F1) (h2 : DSs X K fr pn m1 ml m' rest F2) : DSs X K fr pn m ml m' (st :: rest) (fSeq F1 F2) := let ⟨_, p, s⟩ := h; let ⟨_, p2, s2⟩ := h2; ⟨_, fun i => pss_cons (p i) (p2 i), semS_seq s s2⟩
theorem ssX {sts : List Stmt} : DSs X K fr pn m ml m' sts (fun _ => none) := ⟨_, fun _ => pss_never, semS_never⟩
theorem sX : DS X K fr pn m ml m' st (fun _ => none) := ⟨_, fun _ => ps_never, semS_never⟩
theorem sPass : DS X K fr pn m ml m (.Pass pos) fNext := ⟨_, fun _ => ps_pass, semS_next⟩
theorem sBrk : DS X K fr pn m m m (.Break pos) (fun env => some (.bk env)) := ⟨_, fun _ => ps_break, semS_break⟩
theorem sCont : DS X K fr pn m m m (.Continue pos) (fun env => some (.ct env)) := ⟨_, fun _ => ps_continue, semS_cont⟩
theorem sI {c : Expr} {a b : List Stmt} {Ft : En → Option (Bool × En)} (h : DTM X K m c Ft) (h1 : DSs X K fr pn m ml m' a F1) (h2 : DSs X K fr pn m ml m' b F2) : DS X K fr pn m ml m' (.If c a b pos) (sIf Ft F1 F2) := let ⟨_, p, s⟩ := h; let ⟨_, p1, s1⟩ := h1; let ⟨_, p2, s2⟩ := h2; ⟨_, fun i => ps_if (p i) (p1 i) (p2 i), semS_if s s1 s2⟩
theorem sIP {c : Expr} {a b : List Stmt} {Ft : En → Option Bool} (h : DT X K m c Ft) (h1 : DSs X K fr pn m ml m' a F1) (h2 : DSs X K fr pn m ml m' b F2) : DS X K fr pn m ml m' (.If c a b pos) (sIfP Ft F1 F2) := let ⟨_, p, s⟩ := h; let ⟨_, p1, s1⟩ := h1; let ⟨_, p2, s2⟩ := h2; ⟨_, fun i => ps_if (p i) (p1 i) (p2 i), semS_ifP s s1 s2⟩
variable {Fe : En → Option D} {Ge : En → Option (D × En)}
theorem sSet (j : Nat) {x : Str} {px : Pos} (C : Cok X K k) (h : DE X K m e Fe) (hj : j ∉ m := by decide) (hp : j ∉ pn := by decide) (hN : ∀ i, (X i).N[j]? = some x := by intro _; rfl) (hx : ∀ i, Loc (X i).env.scope x := by intro _; first | exact Or.inl rfl | exact Or.inr rfl)
    (hs : ∀ i, swapsWith e (some (.Name x px)) pos.line (X i).env = pure false := by intro _; rfl) (hf : ∀ i, (X i).fn x = true ∨ (X i).env.scope.names.lookup x = some .local := by intro _; first | exact .inl rfl | exact .inr rfl) :
    DS X K fr pn m ml m (.Assign [.Name x px] e pos) (sAsgP Fe (fun d env => some (setE j d env))) := let ⟨_, p, s⟩ := h; ⟨_, fun i => ps_set (C.nd i) (hN i) (hx i) (p i) (hs i) (hf i), semS_asgP s (semG_name hj) (by intro i hi; simp; exact fun e => hp (e ▸ hi))⟩
theorem sSetM (j : Nat) {x : Str} {px : Pos} (C : Cok X K k) (h : DM X K m e Ge) (hj : j ∉ m := by decide) (hp : j ∉ pn := by decide) (hN : ∀ i, (X i).N[j]? = some x := by intro _; rfl) (hx : ∀ i, Loc (X i).env.scope x := by intro _; first | exact Or.inl rfl | exact Or.inr rfl)
    (hs : ∀ i, swapsWith e (some (.Name x px)) pos.line (X i).env = pure false := by intro _; rfl) (hf : ∀ i, (X i).fn x = true ∨ (X i).env.scope.names.lookup x = some .local := by intro _; first | exact .inl rfl | exact .inr rfl) :
    DS X K fr pn m ml m (.Assign [.Name x px] e pos) (sAsg Ge (fun d env => some (setE j d env))) := let ⟨_, p, s⟩ := h; ⟨_, fun i => ps_set (C.nd i) (hN i) (hx i) (p i) (hs i) (hf i), semS_asg s (semG_name hj) (by intro i hi; simp; exact fun e => hp (e ▸ hi))⟩
/-- x = a fresh list, x owns it -/
theorem sSetF (j : Nat) {x : Str} {px : Pos} (C : Cok X K k) (h : DF X K m e Ge) (hj : j ∉ m := by decide) (hp : j ∉ pn := by decide) (hN : ∀ i, (X i).N[j]? = some x := by intro _; rfl) (hx : ∀ i, Loc (X i).env.scope x := by intro _; first | exact Or.inl rfl | exact Or.inr rfl)
    (hs : ∀ i, swapsWith e (some (.Name x px)) pos.line (X i).env = pure false := by intro _; rfl) (hf : ∀ i, (X i).fn x = true ∨ (X i).env.scope.names.lookup x = some .local := by intro _; first | exact .inl rfl | exact .inr rfl) :
    DS X K fr pn m ml (j :: m) (.Assign [.Name x px] e pos) (sAsgF j Ge) := let ⟨_, p, s⟩ := h; ⟨_, fun i => ps_set (C.nd i) (hN i) (hx i) (p i) (hs i) (hf i), semS_asgF s hj hp⟩
theorem sAs {ts : List Nat} {tg : Expr} {Gt : D → En → Option En} (h : DE X K m e Fe) (hg : DG X K m ts tg Gt) (hp : ∀ i, i ∈ pn → i ∉ ts := by decide) (hs : ∀ i, swapsWithSole [tg] e pos.line (X i).env = pure false := by intro _; rfl) (hw : ∀ i, swappedStores [tg] e (X i).env = pure none := by intro _; rfl)
    (h1 : ∀ i, (assignEach [tg] (X i).env).map (·.2) = [assign tg (X i).env] := by intro _; rfl) : DS X K fr pn m ml m (.Assign [tg] e pos) (sAsgP Fe Gt) := let ⟨_, p, s⟩ := h; let ⟨_, p2, s2⟩ := hg; ⟨_, fun i => ps_asg (p i) (p2 i) (hs i) (hw i) (h1 i), semS_asgP s s2 hp⟩
theorem sAsM {ts : List Nat} {tg : Expr} {Gt : D → En → Option En} (h : DM X K m e Ge) (hg : DG X K m ts tg Gt) (hp : ∀ i, i ∈ pn → i ∉ ts := by decide) (hs : ∀ i, swapsWithSole [tg] e pos.line (X i).env = pure false := by intro _; rfl) (hw : ∀ i, swappedStores [tg] e (X i).env = pure none := by intro _; rfl)
    (h1 : ∀ i, (assignEach [tg] (X i).env).map (·.2) = [assign tg (X i).env] := by intro _; rfl) : DS X K fr pn m ml m (.Assign [tg] e pos) (sAsg Ge Gt) := let ⟨_, p, s⟩ := h; let ⟨_, p2, s2⟩ := hg; ⟨_, fun i => ps_asg (p i) (p2 i) (hs i) (hw i) (h1 i), semS_asg s s2 hp⟩
/-- a, b = x, y -/
theorem sPr (i j : Nat) {x y : Str} {a b : Expr} {px py pt : Pos} {kt k2 : Nat} {pt2} {Ga : En → Option (List D × En)} (C : Cok X K k) (h : DAM X K m [a, b] Ga) (hi : i ∉ m := by decide) (hj : j ∉ m := by decide) (hij : i ≠ j := by decide) (hp : ∀ k, k ∈ pn → k ≠ i ∧ k ≠ j := by decide)
    (hNi : ∀ q, (X q).N[i]? = some x := by intro _; rfl) (hNj : ∀ q, (X q).N[j]? = some y := by intro _; rfl) (hx : ∀ q, (X q).env.scope.names.lookup x = some .local := by intro _; rfl) (hy : ∀ q, (X q).env.scope.names.lookup y = some .local := by intro _; rfl)
    (hw : ∀ q, swappedStores [.Tuple [.Name x px, .Name y py] kt pt] (.Tuple [a, b] k2 pt2) (X q).env = pure (some [x, y]) := by intro _; rfl)
    (hs : ∀ q, swapsWithSole [.Tuple [.Name x px, .Name y py] kt pt] (.Tuple [a, b] k2 pt2) pos.line (X q).env = pure false := by intro _; rfl) :
    DS X K fr pn m ml m (.Assign [.Tuple [.Name x px, .Name y py] kt pt] (.Tuple [a, b] k2 pt2) pos) (sPar i j Ga) := let ⟨_, p, s⟩ := h; ⟨_, fun q => ps_par (C.calm q) (C.nd q) (hNi q) (hNj q) hij (hx q) (hy q) (p q) (hw q) (hs q), semS_par s hi hj hp⟩
/-- x op= e -/
theorem aug_op {op : Operator} {f : Int → Int → Int} {X : Cx} (h : PIp X op (ipI f)) : PIp X op (rI0 fun i j => .int (f i j)) := fun pins s σ H x y v u Q I r1 r2 q => h pins s σ H x y v u Q I r1 r2 (by
  obtain ⟨i, j, a, b, c⟩ := q
  exact ⟨i, j, a, b, c⟩)
theorem sAugA (j : Nat) {x : Str} {px : Pos} (C : Cok X K k) (h : DM X K m e Ge) (hj : j ∉ m := by decide) (hp : j ∉ pn := by decide) (hN : ∀ i, (X i).N[j]? = some x := by intro _; rfl) (hx : ∀ i, Loc (X i).env.scope x := by intro _; first | exact Or.inl rfl | exact Or.inr rfl)
    (hf : ∀ i, (X i).fn x = true ∨ (X i).env.scope.names.lookup x = some .local := by intro _; first | exact .inl rfl | exact .inr rfl) :
    DS X K fr pn m ml m (.AugAssign (.Name x px) .Add e pos) (sAug j (dI0 fun i j => i + j) Ge) := let ⟨_, p, s⟩ := h; ⟨_, fun i => ps_aug (C.nd i) (hN i) (hx i) (p i) (aug_op ip_add) (hf i), semS_aug opd_I0 s hj hp⟩
theorem sAugS (j : Nat) {x : Str} {px : Pos} (C : Cok X K k) (h : DM X K m e Ge) (hj : j ∉ m := by decide) (hp : j ∉ pn := by decide) (hN : ∀ i, (X i).N[j]? = some x := by intro _; rfl) (hx : ∀ i, Loc (X i).env.scope x := by intro _; first | exact Or.inl rfl | exact Or.inr rfl)
    (hf : ∀ i, (X i).fn x = true ∨ (X i).env.scope.names.lookup x = some .local := by intro _; first | exact .inl rfl | exact .inr rfl) :
    DS X K fr pn m ml m (.AugAssign (.Name x px) .Sub e pos) (sAug j dSub Ge) := let ⟨_, p, s⟩ := h; ⟨_, fun i => ps_aug (C.nd i) (hN i) (hx i) (p i) (aug_op ip_sub) (hf i), semS_aug opd_I0 s hj hp⟩
/-- return -/
theorem sR (h : DE X K m e Fe) (hp : ∀ i, i ∈ pn → i ∈ m := by decide) : DS X K false pn m ml m' (.Return (some e) pos) (sRetP pn Fe) := let ⟨_, p, s⟩ := h; ⟨_, fun i => ps_ret (p i), semS_retP s hp⟩
theorem sRM (h : DM X K m e Ge) (hp : ∀ i, i ∈ pn → i ∈ m := by decide) : DS X K false pn m ml m' (.Return (some e) pos) (sRet pn Ge) := let ⟨_, p, s⟩ := h; ⟨_, fun i => ps_ret (p i), semS_ret s hp⟩
theorem sRF (h : DF X K m e Ge) (hp : ∀ i, i ∈ pn → i ∈ m := by decide) : DS X K true pn m ml m' (.Return (some e) pos) (sRet pn Ge) := let ⟨_, p, s⟩ := h; ⟨_, fun i => ps_ret (p i), semS_retF s hp⟩
theorem sRN (hp : ∀ i, i ∈ pn → i ∈ m := by decide) : DS X K false pn m ml m' (.Return none pos) (fun env => (owns pn env).map fun own => .rt .none own) := ⟨_, fun i => ps_retN, semS_retN hp⟩
theorem sRO (j : Nat) {x : Str} {px : Pos} (hj : j ∈ m := by decide) (hjp : j ∉ pn := by decide) (hp : ∀ i, i ∈ pn → i ∈ m := by decide) (hN : ∀ i, (X i).N[j]? = some x := by intro _; rfl) (hv : ∀ i, Vis (X i).env.scope x := by intro _; first | exact Or.inl rfl | exact Or.inr (Or.inl rfl) | exact Or.inr (Or.inr rfl))
    (hd : (x == ("__debug__" : Str)) = false := by decide) (hcd : (x == ("__classdict__" : Str)) = false := by decide) : DS X K true pn m ml m' (.Return (some (.Name x px)) pos) (sRetO pn j) := ⟨_, fun i => ps_ret (pe_var (hN i) (hv i) hd hcd), semS_retO hj hjp hp⟩
/-- loops -/
theorem sF {tg iter : Expr} {body : List Stmt} {ts : List Nat} {Fi : En → Option (List D × En)} {Gt : D → En → Option En} {Fb : En → Option Out} (C : Cok X K k) (hi : DIM X K m tg iter Fi) (hg : DG X K m ts tg Gt) (hb : DSs X K fr pn m m m body Fb) (hp : ∀ i, i ∈ pn → i ∉ ts := by decide) (hs : ∀ i x, foldedSetIterable iter (X i).env x = pure x := by intro _ _; rfl) :
    DS X K fr pn m ml m (.For tg iter body [] pos) (sFor Fi Gt Fb) := let ⟨_, p1, s1⟩ := hi; let ⟨_, p2, s2⟩ := hg; let ⟨_, p3, s3⟩ := hb; ⟨_, fun i => ps_for (C.po i) (C.calm i) (p1 i) (p2 i) (p3 i) (hs i), semS_for s1 s2 s3 hp⟩
theorem sW {c : Expr} {body : List Stmt} {Ft : En → Option (Bool × En)} {Fb : En → Option Out} (C : Cok X K k) (h : DTM X K m c Ft) (hb : DSs X K fr pn m m m body Fb) : DS X K fr pn m ml m (.While c body [] pos) (sWhile Ft Fb) := let ⟨_, p1, s1⟩ := h; let ⟨_, p3, s3⟩ := hb; ⟨_, fun i => ps_while (C.po i) (p1 i) (p3 i), semS_while s1 s3⟩
/-- an expression alone -/
theorem sD (h : DM X K m e Ge) (hs : ∀ i, swapsWith e none pos.line (X i).env = pure false := by intro _; rfl) : DS X K fr pn m ml m (.Expr e pos) (sDrop Ge) := let ⟨_, p, s⟩ := h; ⟨_, fun i => ps_expr (p i) (hs i), semS_drop s⟩
/-- xs.append(e), xs owned -/
theorem sApp (j : Nat) {x : Str} {px ap cp : Pos} (C : Cok X K k) (h : DM X K m e Ge) (hj : j ∈ m := by decide) (hN : ∀ i, (X i).N[j]? = some x := by intro _; rfl) (hv : ∀ i, Vis (X i).env.scope x := by intro _; first | exact Or.inl rfl | exact Or.inr (Or.inl rfl) | exact Or.inr (Or.inr rfl))
    (hd : (x == ("__debug__" : Str)) = false := by decide) (hcd : (x == ("__classdict__" : Str)) = false := by decide)
    (hbase : ∀ i, attributeBase (.Name x px) "append" (X i).env (eval (.Name x px) (X i).env) = eval (.Name x px) (X i).env := by intro _; rfl)
    (hfew : ∀ i, ((backTo cp (starEach [e] (X i).env)).all (fun x => !x.1) && (backToKw cp (keywordEach [] (X i).env)).all (fun x => x.1.isSome) && decide (([e] : List Expr).length + ([] : List Keyword).length + (if ([] : List Keyword).isEmpty then 0 else 1) < 30)) = true := by intro _; rfl)
    (hline : (ap.endLine == cp.line) = true := by rfl) (he : ∀ i, starEach [e] (X i).env = (false, eval e (X i).env) :: starEach [] (X i).env := by intro _; rfl) (hplain : ∀ i, (backTo cp (starEach [] (X i).env)).any (·.1) = false := by intro _; rfl)
    (hs : ∀ i, swapsWith (.Call (.Attribute (.Name x px) "append" ap) [e] [] cp) none pos.line (X i).env = pure false := by intro _; rfl) :
    DS X K fr pn m ml m (.Expr (.Call (.Attribute (.Name x px) "append" ap) [e] [] cp) pos) (sMut j gAppend Ge) := by
  obtain ⟨t, p, s⟩ := h
  refine ⟨_, fun i => ps_expr ?_ (hs i), semS_mut mut_append s hj⟩
  have q := pe_bm (X := X i) PySem.F.plainAttrs_list PySem.F.slot_list_append PySem.F.type_list_append mt_append (pe_var (pos := px) (hN i) (hv i) hd hcd) (pa_cons (p i) pa_nil (he i)) (hbase i) (hfew i) hline (he i) (hplain i)
  rw [C.hK i] at q
  exact q
/-- xs[i] = e, xs owned -/
theorem sStI (j : Nat) {x : Str} {px tp : Pos} {ie : Expr} {Gi : En → Option (D × En)} (C : Cok X K k) (h : DM X K m e Ge) (h2 : DM X K m ie Gi) (hj : j ∈ m := by decide) (hN : ∀ i, (X i).N[j]? = some x := by intro _; rfl) (hv : ∀ i, Vis (X i).env.scope x := by intro _; first | exact Or.inl rfl | exact Or.inr (Or.inl rfl) | exact Or.inr (Or.inr rfl))
    (hd : (x == ("__debug__" : Str)) = false := by decide) (hcd : (x == ("__classdict__" : Str)) = false := by decide)
    (ha : ∀ i v, assign (.Subscript (.Name x px) ie tp) (X i).env v = (do
      let ov ← holding [v] (eval (.Name x px) (X i).env)
      let iv ← holding [v, ov] (eval ie (X i).env)
      standAt tp
      holding [v, ov, iv] (setItem ov iv v)
      release [v, ov, iv] []) := by intro _ _; rfl)
    (hs : ∀ i, swapsWithSole [.Subscript (.Name x px) ie tp] e pos.line (X i).env = pure false := by intro _; rfl) (hw : ∀ i, swappedStores [.Subscript (.Name x px) ie tp] e (X i).env = pure none := by intro _; rfl)
    (h1 : ∀ i, (assignEach [.Subscript (.Name x px) ie tp] (X i).env).map (·.2) = [assign (.Subscript (.Name x px) ie tp) (X i).env] := by intro _; rfl) :
    DS X K fr pn m ml m (.Assign [.Subscript (.Name x px) ie tp] e pos) (sSetI j Ge Gi) := let ⟨_, p, s⟩ := h; let ⟨_, p2, s2⟩ := h2; ⟨_, fun i => ps_asg (p i) (pg_sub (pe_var (hN i) (hv i) hd hcd) (p2 i) set_list (ha i)) (hs i) (hw i) (h1 i), semS_setI s s2 hj⟩
theorem sShare (j : Nat) {m2 : List Nat} (h : DS X K fr pn m ml m' st F1) (hj : j ∈ m' := by decide) (hm : m2 = m'.filter (· ≠ j) := by decide) : DS X K fr pn m ml m2 st F1 := let ⟨_, p, s⟩ := h; ⟨_, p, semS_share s hj hm⟩
theorem sShareA (j : Nat) {m2 : List Nat} (h : DS X K fr pn m2 ml m' st F1) (hj : j ∈ m := by decide) (hm : m2 = m.filter (· ≠ j) := by decide) : DS X K fr pn m ml m' st F1 := let ⟨_, p, s⟩ := h; ⟨_, p, semS_shareA s hj hm⟩
theorem ssShareA (j : Nat) {m2 : List Nat} {sts : List Stmt} (h : DSs X K fr pn m2 ml m' sts F1) (hj : j ∈ m := by decide) (hm : m2 = m.filter (· ≠ j) := by decide) : DSs X K fr pn m ml m' sts F1 := let ⟨_, p, s⟩ := h; ⟨_, p, semS_shareA s hj hm⟩
theorem sFgt (vs : List Nat) (h : DS X K fr pn m ml m' st F1) (h1 : ∀ i, i ∈ m' → i ∉ vs := by decide) (h2 : ∀ i, i ∈ ml → i ∉ vs := by decide) : DS X K fr pn m ml m' st (sForget vs F1) := let ⟨_, p, s⟩ := h; ⟨_, p, semS_forget s h1 h2⟩
theorem ssFgt (vs : List Nat) {sts : List Stmt} (h : DSs X K fr pn m ml m' sts F1) (h1 : ∀ i, i ∈ m' → i ∉ vs := by decide) (h2 : ∀ i, i ∈ ml → i ∉ vs := by decide) : DSs X K fr pn m ml m' sts (sForget vs F1) := let ⟨_, p, s⟩ := h; ⟨_, p, semS_forget s h1 h2⟩
/-- y = [..] on one line, y a local -/
theorem sLc (j : Nat) (own : List (Str × Nat)) {y : Str} {py spos : Pos} {Fi : En → Option (List D)} {Ft : En → Option Bool} {Fe' : En → Option D} (C : Cok X K k) (hi : DI X K m tg iter Fi) (hg : DG (blkX X scope) K m ts tg Gt) (ht : DTs (blkX X scope) K m ifs Ft) (he : DE (blkX X scope) K m elt Fe')
    (hj : j ∉ m := by decide) (hp : j ∉ pn := by decide) (hN : ∀ i, (X i).N[j]? = some y := by intro _; rfl) (hx : ∀ i, (X i).env.scope.names.lookup y = some .local := by intro _; rfl)
    (hsw : ∀ i, swapsWith (.ListComp elt [⟨tg, iter, ifs, 0⟩] scope pos) (some (.Name y py)) spos.line (X i).env = pure true := by intro _; exact sw_true rfl rfl rfl (by decide +kernel))
    (ok : ∀ i, BlkOk (X i).N (X i).env.scope scope own := by intro _; exact blkOk_by (by kernel_rfl)) (hv : ∀ i, i ∈ m → i ∉ own.map (·.2) := by decide) (hts : ∀ i, i ∈ ts → i ∈ own.map (·.2) := by decide) (hs : ∀ i x, foldedSetIterable iter (X i).env x = pure x := by intro _ _; rfl) :
    DS X K fr pn m ml m (.Assign [.Name y py] (.ListComp elt [⟨tg, iter, ifs, 0⟩] scope pos) spos) (sAsgP (lcF (own.map (·.2)) Fi Gt Ft Fe') (fun d env => some (setE j d env))) := by
  obtain ⟨t1, p1, s1⟩ := hi; obtain ⟨t2, p2, s2⟩ := hg; obtain ⟨t3, p3, s3⟩ := ht; obtain ⟨t4, p4, s4⟩ := he
  exact ⟨_, fun i => ps_setLc (C.calm i) (C.nd i) (hN i) (hx i) (hsw i) (p1 i) (ok i) (fun s H Ca cl fp => p2 ⟨i, s, H, Ca, cl, fp⟩) (fun s H Ca cl fp => p3 ⟨i, s, H, Ca, cl, fp⟩) (fun s H Ca cl fp => p4 ⟨i, s, H, Ca, cl, fp⟩) (hs i), semS_asgP (semP_lc s1 s2 s3 s4 hv hts) (semG_name hj) (by intro i hi; simp; exact fun e => hp (e ▸ hi))⟩
theorem sLcM (j : Nat) (own : List (Str × Nat)) {y : Str} {py spos : Pos} {Fi : En → Option (List D × En)} {Ft : En → Option (Bool × En)} {Fe' : En → Option (D × En)} (C : Cok X K k) (hi : DIM X K m tg iter Fi) (hg : DG (blkX X scope) K m ts tg Gt) (ht : DTsM (blkX X scope) K m ifs Ft) (he : DM (blkX X scope) K m elt Fe')
    (hj : j ∉ m := by decide) (hp : j ∉ pn := by decide) (hN : ∀ i, (X i).N[j]? = some y := by intro _; rfl) (hx : ∀ i, (X i).env.scope.names.lookup y = some .local := by intro _; rfl)
    (hsw : ∀ i, swapsWith (.ListComp elt [⟨tg, iter, ifs, 0⟩] scope pos) (some (.Name y py)) spos.line (X i).env = pure true := by intro _; exact sw_true rfl rfl rfl (by decide +kernel))
    (ok : ∀ i, BlkOk (X i).N (X i).env.scope scope own := by intro _; exact blkOk_by (by kernel_rfl)) (hv : ∀ i, i ∈ m → i ∉ own.map (·.2) := by decide) (hts : ∀ i, i ∈ ts → i ∈ own.map (·.2) := by decide) (hs : ∀ i x, foldedSetIterable iter (X i).env x = pure x := by intro _ _; rfl) :
    DS X K fr pn m ml m (.Assign [.Name y py] (.ListComp elt [⟨tg, iter, ifs, 0⟩] scope pos) spos) (sAsg (lcG m (own.map (·.2)) Fi Gt Ft Fe') (fun d env => some (setE j d env))) := by
  obtain ⟨t1, p1, s1⟩ := hi; obtain ⟨t2, p2, s2⟩ := hg; obtain ⟨t3, p3, s3⟩ := ht; obtain ⟨t4, p4, s4⟩ := he
  exact ⟨_, fun i => ps_setLc (C.calm i) (C.nd i) (hN i) (hx i) (hsw i) (p1 i) (ok i) (fun s H Ca cl fp => p2 ⟨i, s, H, Ca, cl, fp⟩) (fun s H Ca cl fp => p3 ⟨i, s, H, Ca, cl, fp⟩) (fun s H Ca cl fp => p4 ⟨i, s, H, Ca, cl, fp⟩) (hs i), semS_asg (sem_lc s1 s2 s3 s4 hv hts) (semG_name hj) (by intro i hi; simp; exact fun e => hp (e ▸ hi))⟩
theorem sLcF (j : Nat) (own : List (Str × Nat)) {y : Str} {py spos : Pos} {Fi : En → Option (List D × En)} {Ft : En → Option (Bool × En)} {Fe' : En → Option (D × En)} (C : Cok X K k) (hi : DIM X K m tg iter Fi) (hg : DG (blkX X scope) K m ts tg Gt) (ht : DTsM (blkX X scope) K m ifs Ft) (he : DM (blkX X scope) K m elt Fe')
    (hj : j ∉ m := by decide) (hp : j ∉ pn := by decide) (hN : ∀ i, (X i).N[j]? = some y := by intro _; rfl) (hx : ∀ i, (X i).env.scope.names.lookup y = some .local := by intro _; rfl)
    (hsw : ∀ i, swapsWith (.ListComp elt [⟨tg, iter, ifs, 0⟩] scope pos) (some (.Name y py)) spos.line (X i).env = pure true := by intro _; exact sw_true rfl rfl rfl (by decide +kernel))
    (ok : ∀ i, BlkOk (X i).N (X i).env.scope scope own := by intro _; exact blkOk_by (by kernel_rfl)) (hv : ∀ i, i ∈ m → i ∉ own.map (·.2) := by decide) (hts : ∀ i, i ∈ ts → i ∈ own.map (·.2) := by decide) (hs : ∀ i x, foldedSetIterable iter (X i).env x = pure x := by intro _ _; rfl) :
    DS X K fr pn m ml (j :: m) (.Assign [.Name y py] (.ListComp elt [⟨tg, iter, ifs, 0⟩] scope pos) spos) (sAsgF j (lcG m (own.map (·.2)) Fi Gt Ft Fe')) := by
  obtain ⟨t1, p1, s1⟩ := hi; obtain ⟨t2, p2, s2⟩ := hg; obtain ⟨t3, p3, s3⟩ := ht; obtain ⟨t4, p4, s4⟩ := he
  exact ⟨_, fun i => ps_setLc (C.calm i) (C.nd i) (hN i) (hx i) (hsw i) (p1 i) (ok i) (fun s H Ca cl fp => p2 ⟨i, s, H, Ca, cl, fp⟩) (fun s H Ca cl fp => p3 ⟨i, s, H, Ca, cl, fp⟩) (fun s H Ca cl fp => p4 ⟨i, s, H, Ca, cl, fp⟩) (hs i), semS_asgF (semF_lc s1 s2 s3 s4 hv hts) hj hp⟩
/-- a, b, c = x, y, z -/
def sPar3 (i j l : Nat) (Fa : En → Option (List D × En)) : En → Option Out := fun env => (Fa env).bind fun r => match r.1 with
  | [a, b, c] => some (.nx (setE l c (setE j b (setE i a r.2))))
  | _ => none
theorem RpAll.three_inv {H : Hp} {vs : List V} {d e f : D} (h : RpAll K H vs [d, e, f]) : ∃ u v w, vs = [u, v, w] ∧ Rp K H u d ∧ Rp K H v e ∧ Rp K H w f := by
  cases h with
  | cons a t =>
    obtain ⟨v, w, rfl, b, c⟩ := t.two_inv
    exact ⟨_, v, w, rfl, a, b, c⟩
theorem semS_par3 {i j l : Nat} {ta : TA} {Fa : En → Option (List D × En)} (h : SemA K m ta Fa) (hi : i ∉ m) (hj : j ∉ m) (hl : l ∉ m) (hp : ∀ k, k ∈ pn → k ≠ i ∧ k ≠ j ∧ k ≠ l) : SemS K fr pn m ml m (tPar3 i j l ta) (sPar3 i j l Fa) := fun env σ S H R o e E q => by
  obtain ⟨⟨ds, e1⟩, ed, e⟩ := bind_some e
  refine h env σ S H R ds e1 ed _ fun vs S1 H1 g1 R1 r => ?_
  dsimp only at e
  split at e
  · rename_i a b c
    cases e
    obtain ⟨u, v, w, rfl, ra, rb, rc⟩ := RpAll.three_inv r
    refine ⟨u, v, w, rfl, q _ S1 H1 ⟨g1, fun c o => .inl (own_same (fun k hk => ?_) o), fun k hk => ?_⟩ (((R1.set hi ra).set hj rb).set hl rc)⟩
    · rw [List.getElem?_set_ne (ne_mem hk hl), List.getElem?_set_ne (ne_mem hk hj), List.getElem?_set_ne (ne_mem hk hi)]
    · rw [List.getElem?_set_ne (Ne.symm (hp k hk).2.2), List.getElem?_set_ne (Ne.symm (hp k hk).2.1), List.getElem?_set_ne (Ne.symm (hp k hk).1)]
  · cases e
theorem sPr3 (i j l : Nat) {x y z : Str} {a b c : Expr} {px py pz pt : Pos} {kt k2 : Nat} {pt2} {Ga : En → Option (List D × En)} (C : Cok X K k) (h : DAM X K m [a, b, c] Ga) (hi : i ∉ m := by decide) (hj : j ∉ m := by decide) (hl : l ∉ m := by decide) (hij : i ≠ j := by decide) (hil : i ≠ l := by decide) (hjl : j ≠ l := by decide) (hp : ∀ k, k ∈ pn → k ≠ i ∧ k ≠ j ∧ k ≠ l := by decide)
    (hNi : ∀ q, (X q).N[i]? = some x := by intro _; rfl) (hNj : ∀ q, (X q).N[j]? = some y := by intro _; rfl) (hNl : ∀ q, (X q).N[l]? = some z := by intro _; rfl) (hx : ∀ q, (X q).env.scope.names.lookup x = some .local := by intro _; rfl) (hy : ∀ q, (X q).env.scope.names.lookup y = some .local := by intro _; rfl) (hz : ∀ q, (X q).env.scope.names.lookup z = some .local := by intro _; rfl)
    (hw : ∀ q, swappedStores [.Tuple [.Name x px, .Name y py, .Name z pz] kt pt] (.Tuple [a, b, c] k2 pt2) (X q).env = pure (some [x, y, z]) := by intro _; rfl)
    (hs : ∀ q, swapsWithSole [.Tuple [.Name x px, .Name y py, .Name z pz] kt pt] (.Tuple [a, b, c] k2 pt2) pos.line (X q).env = pure false := by intro _; rfl) :
    DS X K fr pn m ml m (.Assign [.Tuple [.Name x px, .Name y py, .Name z pz] kt pt] (.Tuple [a, b, c] k2 pt2) pos) (sPar3 i j l Ga) := let ⟨_, p, s⟩ := h; ⟨_, fun q => ps_par3 (C.calm q) (C.nd q) (hNi q) (hNj q) (hNl q) hij hil hjl (hx q) (hy q) (hz q) (p q) (hw q) (hs q), semS_par3 s hi hj hl hp⟩
end
/-! ### reversed by a slice -/
section
variable {ι : Type} {X : ι → Cx} {K : PySem.W.Frag} {k : Nat} {m : List Nat} {e : Expr} {F : En → Option D}
def fRev (F : En → Option D) : En → Option D := fun env => ((F env).bind asL).map fun ds => .list ds.reverse
theorem eRev {kk : Nat} {p1 p2 p3 pos : Pos} (C : Cok X K k) (h : DE X K m e F) : DE X K m (.Subscript e (.Slice none none (some (.UnaryOp .USub (.Constant (.int 1) kk p1) p2)) p3) pos) (fRev F) := by
  obtain ⟨t, p, s⟩ := h
  refine ⟨tRevL K t, fun i => by have q := pe_revL (k := kk) (p1 := p1) (p2 := p2) (p3 := p3) (pos := pos) (p i); rw [C.hK i] at q; exact q, fun env σ S H R d e Q q => ?_⟩
  obtain ⟨ds, e1, rfl⟩ := map_some e
  obtain ⟨a, ea, e1⟩ := bind_some e1
  cases asL_some e1
  refine s env σ S H R _ ea _ fun v S1 H1 k1 r => ?_
  obtain ⟨a, xs, rfl, hs0, ha⟩ := r.list_inv
  have hs : SqL K S1 a xs := SqL.of hs0
  refine ⟨a, xs, rfl, ex_l k1.x hs, fun p hp => ?_⟩
  exact q _ _ _ (k1.trans (Gz.new (o := .lst xs.reverse) k1.x k1.z hp (by show xs.reverse.length ≤ sizeLine; rw [List.length_reverse]; exact k1.z.list (ex_l k1.x hs)))) (rp_newL k1.x hp ha.reverse)
end
/-! ### promises by the mirrors -/
def resF : Out → Option D
  | .rt d _ => some d
  | _ => none
theorem gP_of {F : En → Option Out} {N ps : List Str} {n : Nat} (hn : n = ps.length) : ∀ ds r, (fun ds : List D => if ds.length = n then (F (env0 N ds)).bind resP else none) ds = some r → ds.length = ps.length ∧ ∃ o, F (env0 N ds) = some o ∧ resP o = some r := fun ds r h => by
  dsimp only at h
  split at h
  · rename_i hl
    obtain ⟨o, h1, h2⟩ := bind_some h
    exact ⟨hl.trans hn, o, h1, h2⟩
  · cases h
theorem gF_of {F : En → Option Out} {N ps : List Str} {n : Nat} (hn : n = ps.length) : ∀ ds r, (fun ds : List D => if ds.length = n then (F (env0 N ds)).bind resF else none) ds = some r → ds.length = ps.length ∧ ∃ own, F (env0 N ds) = some (.rt r own) := fun ds r h => by
  dsimp only at h
  split at h
  · rename_i hl
    obtain ⟨o, h1, h2⟩ := bind_some h
    refine ⟨hl.trans hn, ?_⟩
    cases o with
    | rt d own => cases h2; exact ⟨own, h1⟩
    | nx e => cases h2
    | bk e => cases h2
    | ct e => cases h2
  · cases h
theorem gM_of {F : En → Option Out} {N ps : List Str} {n : Nat} (hn : n = ps.length) : ∀ ds as r, (fun (ds as : List D) => if as.length + 1 = n then (F (env0 N (.list ds :: as))).bind resM else none) ds as = some r → as.length + 1 = ps.length ∧ ∃ o, F (env0 N (.list ds :: as)) = some o ∧ resM o = some r := fun ds as r h => by
  dsimp only at h
  split at h
  · rename_i hl
    obtain ⟨o, h1, h2⟩ := bind_some h
    exact ⟨hl.trans hn, o, h1, h2⟩
  · cases h
theorem law_end {K : PySem.W.Frag} {g : List D → Option D} {H : Hp} {a : Addr} {ns : List Int} {E : XK} (h : g [.dict [(.none, .list (ns.map PyData.int))]] = some (.bool true)) (hz : SzH H) (hS : SqL K H a (ns.map V.int)) : spP K g [.ref a] H (fun v _ => v = .bl true) E :=
  ⟨H, _, _, Ex.refl _, hz, .cons (.scr hS) .nil, h, fun v S' H' _ r => by cases r; rfl⟩
/-- a test that reads an owned list -/
theorem semPT_own {K : PySem.W.Frag} {m m2 : List Nat} {j : Nat} {tt : TT} {F : En → Option Bool} (h : SemPT K m2 tt F) (hj : j ∈ m) (hm : m2 = m.filter (· ≠ j)) : SemPT K m tt F := fun env σ S H R d ed Q q => by
  subst hm
  obtain ⟨S2, g2, hs2, R2⟩ := R.share hj
  obtain ⟨p, vs, as, h1, h2, h3, h4, h5⟩ := R.ow j hj
  refine h env σ S2 H R2 d ed Q fun S3 H3 k3 => ?_
  refine q (fun a => if a = p then none else S3 a) H3 ⟨fun a o e => ?_, k3.h, fun a ha => ?_, fun a o e => ?_, k3.z⟩
  · have : a ≠ p := fun c => by subst c; rw [h3] at e; cases e
    show (if a = p then none else S3 a) = some o
    rw [if_neg this]
    exact k3.s a o (g2.s a o e)
  · show (if a = p then none else S3 a) = S a
    by_cases c : a = p
    · subst c; rw [if_pos rfl, h3]
    · rw [if_neg c, k3.n a ha]
      by_cases cc : S2 a = S a
      · exact cc
      · have := hs2 a cc
        rw [h2] at this
        injection this with this
        injection this with this
        exact absurd (by injection this with this; exact this.symm) c
  · by_cases c : a = p
    · subst c
      have e' : (if a = a then none else S3 a) = some o := e
      rw [if_pos rfl] at e'; cases e'
    · have e' : (if a = p then none else S3 a) = some o := e
      rw [if_neg c] at e'
      exact k3.x a o e'
theorem tO {ι : Type} {X : ι → Cx} {K : PySem.W.Frag} {m : List Nat} {e : Expr} {Ft : En → Option Bool} (j : Nat) {m2 : List Nat} (h : DT X K m2 e Ft) (hj : j ∈ m := by decide) (hm : m2 = m.filter (· ≠ j) := by decide) : DT X K m e Ft := let ⟨t, p, s⟩ := h; ⟨t, p, semPT_own s hj hm⟩
/-- xs[i] of an owned list, i pure -/
def fIxP (j : Nat) (Fi : En → Option D) : En → Option D := fun env => (Fi env).bind fun r => ((gv j env).bind asL).bind fun ds => (asI r).bind fun i => dAt ds i
theorem semP_ixO {K : PySem.W.Frag} {m : List Nat} {j : Nat} {ti : TE} {Fi : En → Option D} (hi : SemP K m ti Fi) (hj : j ∈ m) : SemP K m (tOp (rIxL K) (tVar j) ti) (fIxP j Fi) := fun env σ S H R d e Q q => by
  obtain ⟨r, er, e⟩ := bind_some e
  obtain ⟨ds, eds, e⟩ := bind_some e
  obtain ⟨i, ei, e⟩ := bind_some e
  obtain ⟨d0, ed0, eds⟩ := bind_some eds
  cases asL_some eds
  cases asI_some ei
  obtain ⟨p, xs, ds', k1, k2, k3, k4, k5⟩ := R.ow j hj
  have := gv_some ed0
  rw [k1] at this
  cases this
  refine ⟨.ref p, k2, hi env σ S H R _ er _ fun v S1 H1 g r1 => ?_⟩
  obtain ⟨w, h1, h2⟩ := RpAll.atI k5 e
  have := r1.int_inv
  subst this
  exact ⟨p, xs, i, w, rfl, rfl, SqL.of (g.h _ _ k4), h1, q w S1 H1 g (h2.mono g.s)⟩
theorem eIxO {ι : Type} {X : ι → Cx} {K : PySem.W.Frag} {k : Nat} {m : List Nat} {b : Expr} {pos : Pos} {Fb : En → Option D} (j : Nat) {x : Str} {pos' : Pos} (C : Cok X K k) (hb : DE X K m b Fb) (hj : j ∈ m := by decide) (hs : PlainIx b := by exact fun _ _ => rfl) (hN : ∀ i, (X i).N[j]? = some x := by intro _; rfl) (hv : ∀ i, Vis (X i).env.scope x := by intro _; first | exact Or.inl rfl | exact Or.inr (Or.inl rfl) | exact Or.inr (Or.inr rfl))
    (hd : (x == ("__debug__" : Str)) = false := by decide) (hcd : (x == ("__classdict__" : Str)) = false := by decide) : DE X K m (.Subscript (.Name x pos') b pos) (fIxP j Fb) := by
  obtain ⟨tb, pb, sb⟩ := hb
  exact ⟨_, fun i => pe_ix (by have h := @ix_list (X i); rw [C.hK i] at h; exact h) (pe_var (hN i) (hv i) hd hcd) (pb i) hs, semP_ixO sb hj⟩
theorem ssShare {ι : Type} {X : ι → Cx} {K : PySem.W.Frag} {m ml m' pn : List Nat} {fr : Bool} {sts : List Stmt} {F1 : En → Option Out} (j : Nat) {m2 : List Nat} (h : DSs X K fr pn m ml m' sts F1) (hj : j ∈ m' := by decide) (hm : m2 = m'.filter (· ≠ j) := by decide) : DSs X K fr pn m ml m2 sts F1 := let ⟨_, p, s⟩ := h; ⟨_, p, semS_share s hj hm⟩
end CS

/-! law_k60_depths_and_pairs_of_ranges: the defs, printed by gen.py -/
namespace CSk60
open PySem PySem.Spec PyProof.Rows L2 CS
def topS (i : Nat) : Stmt := PySem.Challenge.pw_clashsize_k60_depths_and_pairs_of_ranges.main.body.getD i (.Pass ⟨0, 0, 0, 0⟩)
abbrev s_is_integer : Stmt := topS 4
abbrev s_are_integers : Stmt := topS 5
abbrev s_need_ranges : Stmt := topS 8
abbrev s_crowd_in : Stmt := topS 9
abbrev s_depth_of : Stmt := topS 10
abbrev s_crowd_place : Stmt := topS 11
abbrev s_meeting_pairs : Stmt := topS 12
abbrev s_fewest_left : Stmt := topS 13
abbrev s_law_source : Stmt := topS 15
abbrev s_law_draw : Stmt := topS 16
abbrev s_law_spans : Stmt := topS 17
abbrev s_law_deepest : Stmt := topS 18
abbrev s_law_pairs : Stmt := topS 19
abbrev s_law_right : Stmt := topS 20
abbrev s_law : Stmt := topS 21
abbrev N_is_integer : List Str := ["value"]
theorem sc_is_integer : FnScope N_is_integer ["value"] (defScope s_is_integer) := ⟨rfl, rfl, rfl, by decide +kernel, rfl, by decide +kernel, by decide +kernel⟩
abbrev N_are_integers : List Str := ["value", "many", "one"]
theorem sc_are_integers : FnScope N_are_integers ["value", "many"] (defScope s_are_integers) := ⟨rfl, rfl, rfl, by decide +kernel, rfl, by decide +kernel, by decide +kernel⟩
abbrev N_need_ranges : List Str := ["ranges", "index", "item"]
theorem sc_need_ranges : FnScope N_need_ranges ["ranges"] (defScope s_need_ranges) := ⟨rfl, rfl, rfl, by decide +kernel, rfl, by decide +kernel, by decide +kernel⟩
abbrev N_crowd_in : List Str := ["ranges", "ends", "low", "high", "here", "most", "place", "at", "sort"]
theorem sc_crowd_in : FnScope N_crowd_in ["ranges"] (defScope s_crowd_in) := ⟨rfl, rfl, rfl, by decide +kernel, rfl, by decide +kernel, by decide +kernel⟩
abbrev N_depth_of : List Str := ["ranges"]
theorem sc_depth_of : FnScope N_depth_of ["ranges"] (defScope s_depth_of) := ⟨rfl, rfl, rfl, by decide +kernel, rfl, by decide +kernel, by decide +kernel⟩
abbrev N_crowd_place : List Str := ["ranges"]
theorem sc_crowd_place : FnScope N_crowd_place ["ranges"] (defScope s_crowd_place) := ⟨rfl, rfl, rfl, by decide +kernel, rfl, by decide +kernel, by decide +kernel⟩
abbrev N_meeting_pairs : List Str := ["ranges", "found", "index", "low", "high", "other"]
theorem sc_meeting_pairs : FnScope N_meeting_pairs ["ranges"] (defScope s_meeting_pairs) := ⟨rfl, rfl, rfl, by decide +kernel, rfl, by decide +kernel, by decide +kernel⟩
abbrev N_fewest_left : List Str := ["ranges"]
theorem sc_fewest_left : FnScope N_fewest_left ["ranges"] (defScope s_fewest_left) := ⟨rfl, rfl, rfl, by decide +kernel, rfl, by decide +kernel, by decide +kernel⟩
abbrev N_law_source : List Str := ["entry", "k", "great"]
theorem sc_law_source : FnScope N_law_source ["entry", "k"] (defScope s_law_source) := ⟨rfl, rfl, rfl, by decide +kernel, rfl, by decide +kernel, by decide +kernel⟩
abbrev N_law_draw : List Str := ["source", "count", "digit", "mixed_here"]
theorem sc_law_draw : FnScope N_law_draw ["source", "count"] (defScope s_law_draw) := ⟨rfl, rfl, rfl, by decide +kernel, rfl, by decide +kernel, by decide +kernel⟩
abbrev N_law_spans : List Str := ["source", "many", "wide", "found", "turning", "low", "long", "span", "sort", "one"]
theorem sc_law_spans : FnScope N_law_spans ["source", "many", "wide"] (defScope s_law_spans) := ⟨rfl, rfl, rfl, by decide +kernel, rfl, by decide +kernel, by decide +kernel⟩
abbrev N_law_deepest : List Str := ["spans", "found", "low", "high", "many", "one"]
theorem sc_law_deepest : FnScope N_law_deepest ["spans"] (defScope s_law_deepest) := ⟨rfl, rfl, rfl, by decide +kernel, rfl, by decide +kernel, by decide +kernel⟩
abbrev N_law_pairs : List Str := ["spans", "found", "k", "low", "high", "one"]
theorem sc_law_pairs : FnScope N_law_pairs ["spans"] (defScope s_law_pairs) := ⟨rfl, rfl, rfl, by decide +kernel, rfl, by decide +kernel, by decide +kernel⟩
abbrev N_law_right : List Str := ["spans", "kept", "many", "spot", "due", "told", "spun"]
theorem sc_law_right : FnScope N_law_right ["spans"] (defScope s_law_right) := ⟨rfl, rfl, rfl, by decide +kernel, rfl, by decide +kernel, by decide +kernel⟩
abbrev N_law : List Str := ["script", "k", "entry", "source", "lap", "spans", "some", "told"]
theorem sc_law : FnScope N_law ["script"] (defScope s_law) := ⟨rfl, rfl, rfl, by decide +kernel, rfl, by decide +kernel, by decide +kernel⟩
def F_is_integer : En → Option Out := (sRetP [] (fAndV (fCall (dIsi "int") (fCons (gv 0) fNil)) (fNotV (fCall (dIsi "bool") (fCons (gv 0) fNil)))))
def g_is_integer : List D → Option D := fun ds => if ds.length = 1 then (F_is_integer (env0 N_is_integer ds)).bind resP else none
def C1_are_integers : En → Option D := (lcF [2] (fun env => ((gv 0) env).bind asS) (fun d env => some (setE 2 d env)) (fun _ => some true) (fCall g_is_integer (fCons (gv 2) fNil)))
def F_are_integers : En → Option Out := (sRetP [] (fAndV (fCall (dIsi "tuple") (fCons (gv 0) fNil)) (fAndV (f2 (dEq false) (fCall dLen (fCons (gv 0) fNil)) (gv 1)) (fCall dAll (fCons C1_are_integers fNil)))))
def g_are_integers : List D → Option D := fun ds => if ds.length = 2 then (F_are_integers (env0 N_are_integers ds)).bind resP else none
def B1_need_ranges : En → Option Out := (sForget [1, 2] (sIfP (fOr (fNot (fTest (fCall g_are_integers (fCons (gv 2) (fCons (fun _ => some (.int 2)) fNil))))) (fTest (f2 dGt (f2 dIx (gv 2) (fun _ => some (.int 0))) (f2 dIx (gv 2) (fun _ => some (.int 1))))))
    (fun _ => none)
    fNext))
def F_need_ranges : En → Option Out := (fSeq (sIfP (fOr (fNot (fTest (fCall (dIsi "list") (fCons (gv 0) fNil)))) (fNot (fTest (fChain dLe dLe (fun _ => some (.int 1)) (fCall dLen (fCons (gv 0) fNil)) (fun _ => some (.int 400))))))
    (fun _ => none)
    fNext)
    (sFor (up (fun env => ((fCons (gv 0) fNil) env).bind enumA)) (tgTup (tgCons (fun d env => some (setE 1 d env)) (tgCons (fun d env => some (setE 2 d env)) tgNil)))
    B1_need_ranges))
def g_need_ranges : List D → Option D := fun ds => if ds.length = 1 then (F_need_ranges (env0 N_need_ranges ds)).bind resP else none
def C1_crowd_in : En → Option D := (lcF [2, 3] (fun env => ((gv 0) env).bind asS) (tgTup (tgCons (fun d env => some (setE 2 d env)) (tgCons (fun d env => some (setE 3 d env)) tgNil))) (fun _ => some true) (fTup (fCons (gv 2) (fCons (fun _ => some (.int 0)) fNil))))
def C2_crowd_in : En → Option D := (lcF [2, 3] (fun env => ((gv 0) env).bind asS) (tgTup (tgCons (fun d env => some (setE 2 d env)) (tgCons (fun d env => some (setE 3 d env)) tgNil))) (fun _ => some true) (fTup (fCons (gv 3) (fCons (fun _ => some (.int 1)) fNil))))
def B1_crowd_in : En → Option Out := (sForget [7, 8] (fSeq (sAsgP (f2 dSub (f2 dAdd (gv 4) (fun _ => some (.int 1))) (f2 dMul (fun _ => some (.int 2)) (gv 8))) (fun d env => some (setE 4 d env)))
    (sIfP (fTest (f2 dGt (gv 4) (gv 5)))
    (sPar 5 6 (gConsE (up (gv 4)) (gConsE (up (gv 7)) gNilE)))
    fNext)))
def F_crowd_in : En → Option Out := (fSeq (sAsgP (fCall dSorted (fCons (f2 dAdd C1_crowd_in C2_crowd_in) fNil)) (fun d env => some (setE 1 d env)))
    (fSeq (sAsgP (fTup (fCons (fun _ => some (.int 0)) (fCons (fun _ => some (.int 0)) (fCons (fun _ => some .none) fNil)))) (tgTup (tgCons (fun d env => some (setE 4 d env)) (tgCons (fun d env => some (setE 5 d env)) (tgCons (fun d env => some (setE 6 d env)) tgNil)))))
    (fSeq (sFor (up (fun env => ((gv 1) env).bind asS)) (tgTup (tgCons (fun d env => some (setE 7 d env)) (tgCons (fun d env => some (setE 8 d env)) tgNil)))
    B1_crowd_in)
    (sRetP [] (fTup (fCons (gv 5) (fCons (gv 6) fNil)))))))
def g_crowd_in : List D → Option D := fun ds => if ds.length = 1 then (F_crowd_in (env0 N_crowd_in ds)).bind resP else none
def F_depth_of : En → Option Out := (fSeq (sDrop (up (fCall g_need_ranges (fCons (gv 0) fNil))))
    (sRetP [] (f2 dIx (fCall g_crowd_in (fCons (gv 0) fNil)) (fun _ => some (.int 0)))))
def g_depth_of : List D → Option D := fun ds => if ds.length = 1 then (F_depth_of (env0 N_depth_of ds)).bind resP else none
def F_crowd_place : En → Option Out := (fSeq (sDrop (up (fCall g_need_ranges (fCons (gv 0) fNil))))
    (sRetP [] (f2 dIx (fCall g_crowd_in (fCons (gv 0) fNil)) (fun _ => some (.int 1)))))
def g_crowd_place : List D → Option D := fun ds => if ds.length = 1 then (F_crowd_place (env0 N_crowd_place ds)).bind resP else none
def C1_meeting_pairs : En → Option D := (lcF [5] (fun env => ((fSl (gv 0) (fun _ => some none) (fun env => ((gv 2) env |>.bind asI).map some)) env).bind asS) (fun d env => some (setE 5 d env)) (fAnd (fTest (f2 dLe (f2 dIx (gv 5) (fun _ => some (.int 0))) (gv 4))) (fTest (f2 dLe (gv 3) (f2 dIx (gv 5) (fun _ => some (.int 1)))))) (gv 5))
def B1_meeting_pairs : En → Option Out := (sForget [2, 3, 4] (sAug 1 (dI0 fun i j => i + j) (up (fCall dLen (fCons C1_meeting_pairs fNil)))))
def F_meeting_pairs : En → Option Out := (fSeq (sDrop (up (fCall g_need_ranges (fCons (gv 0) fNil))))
    (fSeq (sAsgP (fun _ => some (.int 0)) (fun d env => some (setE 1 d env)))
    (fSeq (sFor (up (fun env => ((fCons (gv 0) fNil) env).bind enumA)) (tgTup (tgCons (fun d env => some (setE 2 d env)) (tgCons (tgTup (tgCons (fun d env => some (setE 3 d env)) (tgCons (fun d env => some (setE 4 d env)) tgNil))) tgNil)))
    B1_meeting_pairs)
    (sRetP [] (gv 1)))))
def g_meeting_pairs : List D → Option D := fun ds => if ds.length = 1 then (F_meeting_pairs (env0 N_meeting_pairs ds)).bind resP else none
def F_fewest_left : En → Option Out := (fSeq (sDrop (up (fCall g_need_ranges (fCons (gv 0) fNil))))
    (sRetP [] (f2 dSub (fCall dLen (fCons (gv 0) fNil)) (f2 dIx (fCall g_crowd_in (fCons (gv 0) fNil)) (fun _ => some (.int 0))))))
def g_fewest_left : List D → Option D := fun ds => if ds.length = 1 then (F_fewest_left (env0 N_fewest_left ds)).bind resP else none
def F_law_source : En → Option Out := (fSeq (sAsgP (fCall dAbs (fCons (gv 0) fNil)) (fun d env => some (setE 2 d env)))
    (sRet [] (gLstE (gConsE (up (fCall dMax (fCons (fun _ => some (.int 0)) (fCons (f2 dSub (gv 2) (f2 dPow (fun _ => some (.int 10)) (fun _ => some (.int 18)))) fNil)))) (gConsE (up (f2 dAdd (f2 dAdd (f2 dMul (f2 dMod (fCall dInt (fCons (gv 2) fNil)) (f2 dAdd (f2 dPow (fun _ => some (.int 10)) (fun _ => some (.int 44))) (fun _ => some (.int 31)))) (fun _ => some (.int 97))) (f2 dMul (fun _ => some (.int 2)) (gv 1))) (fCall dInt (fCons (f2 dLt (gv 0) (fun _ => some (.int 0))) fNil)))) (gConsE (up (fun _ => some (.int 0))) gNilE))))))
def g_law_source : List D → Option D := fun ds => if ds.length = 2 then (F_law_source (env0 N_law_source ds)).bind resF else none
def F_law_draw : En → Option Out := (fSeq (sIfP (fTest (f2 dGt (fIxP 0 (fun _ => some (.int 0))) (fun _ => some (.int 0))))
    (fSeq (sAsgP (f2 dMod (fCall dInt (fCons (fIxP 0 (fun _ => some (.int 0))) fNil)) (gv 1)) (fun d env => some (setE 2 d env)))
    (fSeq (sSetI 0 (up (f2 dFdiv (fIxP 0 (fun _ => some (.int 0))) (gv 1))) (up (fun _ => some (.int 0))))
    (sRetP [0] (gv 2))))
    fNext)
    (fSeq (sSetI 0 (up (f2 dAdd (fIxP 0 (fun _ => some (.int 2))) (fun _ => some (.int 1)))) (up (fun _ => some (.int 2))))
    (fSeq (sAsgP (f2 dMod (fCall dInt (fCons (f2 dPow (f2 dAdd (fIxP 0 (fun _ => some (.int 1))) (f2 dMul (fun _ => some (.int 900007)) (fIxP 0 (fun _ => some (.int 2))))) (fun _ => some (.int 3))) fNil)) (f2 dAdd (f2 dPow (fun _ => some (.int 10)) (fun _ => some (.int 39))) (fun _ => some (.int 3)))) (fun d env => some (setE 3 d env)))
    (fSeq (sAsgP (f2 dMod (fCall dInt (fCons (f2 dPow (f2 dAdd (f2 dMul (gv 3) (fIxP 0 (fun _ => some (.int 2)))) (fun _ => some (.int 60013))) (fun _ => some (.int 3))) fNil)) (f2 dAdd (f2 dPow (fun _ => some (.int 10)) (fun _ => some (.int 40))) (fun _ => some (.int 121)))) (fun d env => some (setE 3 d env)))
    (sRetP [0] (f2 dMod (fCall dInt (fCons (f2 dFdiv (gv 3) (fun _ => some (.int 104729))) fNil)) (gv 1)))))))
def g_law_draw : List D → List D → Option (D × List D) := fun ds as => if as.length + 1 = 2 then (F_law_draw (env0 N_law_draw (.list ds :: as))).bind resM else none
def B1_law_spans : En → Option Out := (sForget [4, 5, 6, 7, 8, 9] (fSeq (sAsg (g2 dSub (gCallM 0 g_law_draw (gConsE (up (f2 dAdd (f2 dMul (fun _ => some (.int 2)) (gv 2)) (fun _ => some (.int 1)))) gNilE)) (up (gv 2))) (fun d env => some (setE 5 d env)))
    (fSeq (sAsg (g2 dIx (gLstE (gConsE (gCallM 0 g_law_draw (gConsE (up (f2 dAdd (f2 dMul (fun _ => some (.int 2)) (gv 2)) (fun _ => some (.int 1)))) gNilE)) (gConsE (gCallM 0 g_law_draw (gConsE (up (fun _ => some (.int 3))) gNilE)) (gConsE (up (fun _ => some (.int 0))) (gConsE (up (gv 2)) gNilE))))) (gCallM 0 g_law_draw (gConsE (up (fun _ => some (.int 4))) gNilE))) (fun d env => some (setE 6 d env)))
    (fSeq (sPar 7 8 (gConsE (up (fTup (fCons (gv 5) (fCons (f2 dAdd (gv 5) (gv 6)) fNil)))) (gConsE (gCallM 0 g_law_draw (gConsE (up (fun _ => some (.int 6))) gNilE)) gNilE)))
    (fSeq (sIfP (fAnd (fTest (f2 (dEq true) (gv 3) (fLst fNil))) (fTest (f2 dGt (gv 8) (fun _ => some (.int 2)))))
    (fSeq (sAsg (fIxO 3 (gCallM 0 g_law_draw (gConsE (up (fFlat (fCall dLen (fCons (gv 3) fNil)))) gNilE))) (fun d env => some (setE 9 d env)))
    (sAsgP (f2 dIx (fLst (fCons (gv 9) (fCons (fTup (fCons (f2 dIx (gv 9) (fun _ => some (.int 0))) (fCons (f2 dAdd (f2 dIx (gv 9) (fun _ => some (.int 0))) (gv 6)) fNil))) (fCons (fTup (fCons (f2 dSub (f2 dIx (gv 9) (fun _ => some (.int 1))) (gv 6)) (fCons (f2 dIx (gv 9) (fun _ => some (.int 1))) fNil))) fNil)))) (f2 dSub (gv 8) (fun _ => some (.int 3)))) (fun d env => some (setE 7 d env))))
    fNext)
    (sMut 3 gAppend (up (gv 7))))))))
def F_law_spans : En → Option Out := (fSeq (sAsgF 3 (gLstE gNilE))
    (fSeq (sFor (up (fun env => ((fCons (gv 1) fNil) env).bind rng1)) (fun d env => some (setE 4 d env))
    B1_law_spans)
    (sRetP [0] (gv 3))))
def g_law_spans : List D → List D → Option (D × List D) := fun ds as => if as.length + 1 = 3 then (F_law_spans (env0 N_law_spans (.list ds :: as))).bind resM else none
def C1_law_deepest : En → Option D := (lcF [5] (fun env => ((gv 0) env).bind asS) (fun d env => some (setE 5 d env)) (fTest (fChain dLe dLe (f2 dIx (gv 5) (fun _ => some (.int 0))) (gv 2) (f2 dIx (gv 5) (fun _ => some (.int 1))))) (fun _ => some (.int 1)))
def B1_law_deepest : En → Option Out := (sForget [2, 3, 4] (fSeq (sAsgP (fCall dLen (fCons C1_law_deepest fNil)) (fun d env => some (setE 4 d env)))
    (sIfP (fOr (fTest (f2 dGt (gv 4) (f2 dIx (gv 1) (fun _ => some (.int 0))))) (fAnd (fTest (f2 (dEq false) (gv 4) (f2 dIx (gv 1) (fun _ => some (.int 0))))) (fTest (f2 dLt (gv 2) (f2 dIx (gv 1) (fun _ => some (.int 1)))))))
    (sAsgP (fTup (fCons (gv 4) (fCons (gv 2) fNil))) (fun d env => some (setE 1 d env)))
    fNext)))
def F_law_deepest : En → Option Out := (fSeq (sAsgP (fTup (fCons (fun _ => some (.int 0)) (fCons (fun _ => some (.int 0)) fNil))) (fun d env => some (setE 1 d env)))
    (fSeq (sFor (up (fun env => ((gv 0) env).bind asS)) (tgTup (tgCons (fun d env => some (setE 2 d env)) (tgCons (fun d env => some (setE 3 d env)) tgNil)))
    B1_law_deepest)
    (sRetP [] (gv 1))))
def g_law_deepest : List D → Option D := fun ds => if ds.length = 1 then (F_law_deepest (env0 N_law_deepest ds)).bind resP else none
def C1_law_pairs : En → Option D := (lcF [5] (fun env => ((fSl (gv 0) (fun _ => some none) (fun env => ((gv 2) env |>.bind asI).map some)) env).bind asS) (fun d env => some (setE 5 d env)) (fAnd (fTest (f2 dLe (f2 dIx (gv 5) (fun _ => some (.int 0))) (gv 4))) (fTest (f2 dLe (gv 3) (f2 dIx (gv 5) (fun _ => some (.int 1)))))) (gv 5))
def B1_law_pairs : En → Option Out := (sForget [2, 3, 4] (sAsgP (f2 dAdd (gv 1) (fCall dLen (fCons C1_law_pairs fNil))) (fun d env => some (setE 1 d env))))
def F_law_pairs : En → Option Out := (fSeq (sAsgP (fun _ => some (.int 0)) (fun d env => some (setE 1 d env)))
    (fSeq (sFor (up (fun env => ((fCons (gv 0) fNil) env).bind enumA)) (tgTup (tgCons (fun d env => some (setE 2 d env)) (tgCons (tgTup (tgCons (fun d env => some (setE 3 d env)) (tgCons (fun d env => some (setE 4 d env)) tgNil))) tgNil)))
    B1_law_pairs)
    (sRetP [] (gv 1))))
def g_law_pairs : List D → Option D := fun ds => if ds.length = 1 then (F_law_pairs (env0 N_law_pairs ds)).bind resP else none
def F_law_right : En → Option Out := (fSeq (sAsgP (fTup (fCons (fCall dRepr (fCons (gv 0) fNil)) (fCons (fCall g_law_deepest (fCons (gv 0) fNil)) fNil))) (tgTup (tgCons (fun d env => some (setE 1 d env)) (tgCons (tgTup (tgCons (fun d env => some (setE 2 d env)) (tgCons (fun d env => some (setE 3 d env)) tgNil))) tgNil))))
    (fSeq (sAsgP (fLst (fCons (gv 2) (fCons (gv 3) (fCons (fCall g_law_pairs (fCons (gv 0) fNil)) (fCons (f2 dSub (fCall dLen (fCons (gv 0) fNil)) (gv 2)) fNil))))) (fun d env => some (setE 4 d env)))
    (fSeq (sAsgP (fLst (fCons (fCall g_depth_of (fCons (gv 0) fNil)) (fCons (fCall g_crowd_place (fCons (gv 0) fNil)) (fCons (fCall g_meeting_pairs (fCons (gv 0) fNil)) (fCons (fCall g_fewest_left (fCons (gv 0) fNil)) fNil))))) (fun d env => some (setE 5 d env)))
    (fSeq (sIfP (fOr (fTest (f2 (dEq true) (fCall dRepr (fCons (gv 5) fNil)) (fCall dRepr (fCons (gv 4) fNil)))) (fTest (f2 (dEq true) (fCall dRepr (fCons (gv 0) fNil)) (gv 1))))
    (sRetP [] (fun _ => some (.bool false)))
    fNext)
    (fSeq (sAsgP (fLst (fCons (fCall (kwG 1 [0] g_depth_of) (fCons (gv 0) fNil)) (fCons (fCall (kwG 1 [0] g_crowd_place) (fCons (gv 0) fNil)) (fCons (fCall (kwG 1 [0] g_meeting_pairs) (fCons (gv 0) fNil)) (fCons (fCall (kwG 1 [0] g_fewest_left) (fCons (gv 0) fNil)) fNil))))) (fun d env => some (setE 5 d env)))
    (fSeq (sIfP (fTest (f2 (dEq true) (gv 5) (gv 4)))
    (sRetP [] (fun _ => some (.bool false)))
    fNext)
    (fSeq (sAsgP (fRev (gv 0)) (fun d env => some (setE 6 d env)))
    (sRetP [] (f2 (dEq false) (fLst (fCons (fCall g_depth_of (fCons (gv 6) fNil)) (fCons (fCall g_crowd_place (fCons (gv 6) fNil)) (fCons (fCall g_meeting_pairs (fCons (gv 6) fNil)) (fCons (fCall g_fewest_left (fCons (gv 6) fNil)) fNil))))) (gv 4))))))))))
def g_law_right : List D → Option D := fun ds => if ds.length = 1 then (F_law_right (env0 N_law_right ds)).bind resP else none
def B1_law : En → Option Out := (sForget [4, 5] (fSeq (sAsg (gCallM 3 g_law_spans (gConsE (g2 dAdd (up (fun _ => some (.int 1))) (gCallM 3 g_law_draw (gConsE (up (f2 dIx (fLst (fCons (fun _ => some (.int 4)) (fCons (fun _ => some (.int 12)) (fCons (fun _ => some (.int 40)) (fCons (fun _ => some (.int 40)) fNil))))) (gv 4))) gNilE))) (gConsE (up (f2 dIx (fLst (fCons (fun _ => some (.int 3)) (fCons (fun _ => some (.int 6)) (fCons (fun _ => some (.int 30)) (fCons (f2 dPow (fun _ => some (.int 10)) (fun _ => some (.int 28))) fNil))))) (gv 4))) gNilE))) (fun d env => some (setE 5 d env)))
    (sIfP (fNot (fTest (fCall g_law_right (fCons (gv 5) fNil))))
    (sRetP [] (fun _ => some (.bool false)))
    fNext)))
def B2_law : En → Option Out := (sForget [1, 2, 3, 4, 5] (fSeq (sAsgF 3 (gCall g_law_source (gConsE (up (gv 2)) (gConsE (up (gv 1)) gNilE))))
    (fSeq (sFor (up (fun env => ((fCons (fun _ => some (.int 4)) fNil) env).bind rng1)) (fun d env => some (setE 4 d env))
    B1_law)
    (sIf (gAnd (up (fTest (f2 (dEq false) (gv 1) (fun _ => some (.int 0))))) (gAnd (up (fTest (f2 (dEq true) (gv 0) (fLst fNil)))) (gNot (gTest (gCall g_law_right (gConsE (gCallM 3 g_law_spans (gConsE (up (fun _ => some (.int 400))) (gConsE (g2 dIx (up (fLst (fCons (fun _ => some (.int 30)) (fCons (f2 dPow (fun _ => some (.int 10)) (fun _ => some (.int 6))) fNil)))) (gCallM 3 g_law_draw (gConsE (up (fun _ => some (.int 2))) gNilE))) gNilE))) gNilE))))))
    (sRetP [] (fun _ => some (.bool false)))
    fNext))))
def F_law : En → Option Out := (fSeq (sFor (up (fun env => ((fCons (fSl (f2 dAdd (gv 0) (fLst (fCons (fun _ => some (.int 0)) fNil))) (fun _ => some none) (fun env => ((fCall dMax (fCons (fun _ => some (.int 1)) (fCons (fCall dMin (fCons (fCall dLen (fCons (gv 0) fNil)) (fCons (fun _ => some (.int 4)) fNil))) fNil))) env |>.bind asI).map some)) fNil) env).bind enumA)) (tgTup (tgCons (fun d env => some (setE 1 d env)) (tgCons (fun d env => some (setE 2 d env)) tgNil)))
    B2_law)
    (fSeq (sAsgP (fLst (fCons (fTup (fCons (fun _ => some (.int 0)) (fCons (fun _ => some (.int 4)) fNil))) (fCons (fTup (fCons (fun _ => some (.int 3)) (fCons (fun _ => some (.int 6)) fNil))) (fCons (fTup (fCons (fun _ => some (.int 5)) (fCons (fun _ => some (.int 9)) fNil))) (fCons (fTup (fCons (fun _ => some (.int 8)) (fCons (fun _ => some (.int 9)) fNil))) (fCons (fTup (fCons (fun _ => some (.int 20)) (fCons (fun _ => some (.int 20)) fNil))) fNil)))))) (fun d env => some (setE 6 d env)))
    (fSeq (sAsgP (fLst (fCons (fCall g_depth_of (fCons (gv 6) fNil)) (fCons (fCall g_crowd_place (fCons (gv 6) fNil)) (fCons (fCall g_meeting_pairs (fCons (gv 6) fNil)) (fCons (fCall g_fewest_left (fCons (f2 dMul (fLst (fCons (fTup (fCons (fun _ => some (.int 5)) (fCons (fun _ => some (.int 5)) fNil))) fNil)) (fun _ => some (.int 400))) fNil)) fNil))))) (fun d env => some (setE 7 d env)))
    (sRetP [] (fAndV (f2 (dEq false) (gv 7) (fLst (fCons (fun _ => some (.int 2)) (fCons (fun _ => some (.int 3)) (fCons (fun _ => some (.int 3)) (fCons (fun _ => some (.int 0)) fNil)))))) (f2 (dEq false) (fCall g_crowd_place (fCons (fLst (fCons (fTup (fCons (fun _ => some (.int 1)) (fCons (fun _ => some (.int 2)) fNil))) (fCons (fTup (fCons (fun _ => some (.int 2)) (fCons (fun _ => some (.int 3)) fNil))) (fCons (fTup (fCons (f1 dNeg (fun _ => some (.int 7))) (fCons (f1 dNeg (fun _ => some (.int 7))) fNil))) fNil)))) fNil)) (fun _ => some (.int 2))))))))
def g_law : List D → Option D := fun ds => if ds.length = 1 then (F_law (env0 N_law ds)).bind resP else none
structure Top (K : PySem.W.Frag) (mg : Str → Option Value) : Prop where
  d_is_integer : ∃ (f : Addr) (fd : FuncData), Fun K "is_integer" "is_integer" s_is_integer f fd ∧ mg "is_integer" = some (.ref f) ∧ Binds K fd ["value"] []
  d_are_integers : ∃ (f : Addr) (fd : FuncData), Fun K "are_integers" "are_integers" s_are_integers f fd ∧ mg "are_integers" = some (.ref f) ∧ Binds K fd ["value", "many"] []
  d_need_ranges : ∃ (f : Addr) (fd : FuncData), Fun K "need_ranges" "need_ranges" s_need_ranges f fd ∧ mg "need_ranges" = some (.ref f) ∧ Binds K fd ["ranges"] []
  d_crowd_in : ∃ (f : Addr) (fd : FuncData), Fun K "crowd_in" "crowd_in" s_crowd_in f fd ∧ mg "crowd_in" = some (.ref f) ∧ Binds K fd ["ranges"] []
  d_depth_of : ∃ (f : Addr) (fd : FuncData), Fun K "depth_of" "depth_of" s_depth_of f fd ∧ mg "depth_of" = some (.ref f) ∧ Binds K fd ["ranges"] []
  d_crowd_place : ∃ (f : Addr) (fd : FuncData), Fun K "crowd_place" "crowd_place" s_crowd_place f fd ∧ mg "crowd_place" = some (.ref f) ∧ Binds K fd ["ranges"] []
  d_meeting_pairs : ∃ (f : Addr) (fd : FuncData), Fun K "meeting_pairs" "meeting_pairs" s_meeting_pairs f fd ∧ mg "meeting_pairs" = some (.ref f) ∧ Binds K fd ["ranges"] []
  d_fewest_left : ∃ (f : Addr) (fd : FuncData), Fun K "fewest_left" "fewest_left" s_fewest_left f fd ∧ mg "fewest_left" = some (.ref f) ∧ Binds K fd ["ranges"] []
  d_law_source : ∃ (f : Addr) (fd : FuncData), Fun K "_law_source" "_law_source" s_law_source f fd ∧ mg "_law_source" = some (.ref f) ∧ Binds K fd ["entry", "k"] []
  d_law_draw : ∃ (f : Addr) (fd : FuncData), Fun K "_law_draw" "_law_draw" s_law_draw f fd ∧ mg "_law_draw" = some (.ref f) ∧ Binds K fd ["source", "count"] []
  d_law_spans : ∃ (f : Addr) (fd : FuncData), Fun K "_law_spans" "_law_spans" s_law_spans f fd ∧ mg "_law_spans" = some (.ref f) ∧ Binds K fd ["source", "many", "wide"] []
  d_law_deepest : ∃ (f : Addr) (fd : FuncData), Fun K "_law_deepest" "_law_deepest" s_law_deepest f fd ∧ mg "_law_deepest" = some (.ref f) ∧ Binds K fd ["spans"] []
  d_law_pairs : ∃ (f : Addr) (fd : FuncData), Fun K "_law_pairs" "_law_pairs" s_law_pairs f fd ∧ mg "_law_pairs" = some (.ref f) ∧ Binds K fd ["spans"] []
  d_law_right : ∃ (f : Addr) (fd : FuncData), Fun K "_law_right" "_law_right" s_law_right f fd ∧ mg "_law_right" = some (.ref f) ∧ Binds K fd ["spans"] []
  d_law : ∃ (f : Addr) (fd : FuncData), Fun K "law" "law" s_law f fd ∧ mg "law" = some (.ref f) ∧ Binds K fd ["script"] []
  z_abs : mg "abs" = none
  z_all : mg "all" = none
  z_bool : mg "bool" = none
  z_enumerate : mg "enumerate" = none
  z_int : mg "int" = none
  z_isinstance : mg "isinstance" = none
  z_len : mg "len" = none
  z_list : mg "list" = none
  z_max : mg "max" = none
  z_min : mg "min" = none
  z_range : mg "range" = none
  z_repr : mg "repr" = none
  z_sorted : mg "sorted" = none
  z_tuple : mg "tuple" = none
  c_MOST_RANGES : ∃ t, mg "MOST_RANGES" = some (.int 400 t)
theorem kb_crowd_place_ranges : KwB "crowd_place" s_crowd_place ["ranges"] 0 ["ranges"] [0] := fun _ _ _ _ _ _ us ws hl hl2 => match us, ws, hl, hl2 with | [], [_], _, _ => rfl
theorem kb_depth_of_ranges : KwB "depth_of" s_depth_of ["ranges"] 0 ["ranges"] [0] := fun _ _ _ _ _ _ us ws hl hl2 => match us, ws, hl, hl2 with | [], [_], _, _ => rfl
theorem kb_fewest_left_ranges : KwB "fewest_left" s_fewest_left ["ranges"] 0 ["ranges"] [0] := fun _ _ _ _ _ _ us ws hl hl2 => match us, ws, hl, hl2 with | [], [_], _, _ => rfl
theorem kb_meeting_pairs_ranges : KwB "meeting_pairs" s_meeting_pairs ["ranges"] 0 ["ranges"] [0] := fun _ _ _ _ _ _ us ws hl hl2 => match us, ws, hl, hl2 with | [], [_], _, _ => rfl
section
variable {P : Program} {w : World} {K : PySem.W.Frag} {mg : Str → Option Value} {base : Heap}
theorem b_is_integer (T : Top K mg) (f : Addr) : DSs (bodyX P w K mg base N_is_integer "is_integer" (defScope s_is_integer) f 0) K false [] [] [] [] (defBody s_is_integer) F_is_integer := by
  have C := bodyX_at (P := P) (w := w) (K := K) (mg := mg) (base := base) (k := 0) (qual := "is_integer") (f := f) sc_is_integer
  exact ssO (sR (eAndV (eIsi (T := "int") C.1 T.z_isinstance T.z_int (eN 0)) (eOne (eNotV (eIsi (T := "bool") C.1 T.z_isinstance T.z_bool (eN 0))))))
theorem fn_is_integer (T : Top K mg) : Fn P w K mg base 1 "is_integer" s_is_integer ["value"] (spP K g_is_integer) := by
  obtain ⟨f, fd, hF, hm, hB⟩ := T.d_is_integer
  exact ⟨f, fd, hF, fnP hF sc_is_integer (b_is_integer T f) (gP_of rfl), hm, hB⟩
theorem b_are_integers (T : Top K mg) (f : Addr) : DSs (bodyX P w K mg base N_are_integers "are_integers" (defScope s_are_integers) f 1) K false [] [] [] [] (defBody s_are_integers) F_are_integers := by
  have C := bodyX_at (P := P) (w := w) (K := K) (mg := mg) (base := base) (k := 1) (qual := "are_integers") (f := f) sc_are_integers
  exact ssO (sR (eAndV (eIsi (T := "tuple") C.1 T.z_isinstance T.z_tuple (eN 0)) (eAndV (eC C.1 (cEq C.1) (eF bLen C.1 T.z_len (aC (eN 0) (aN))) (eN 1)) (eOne (eF (bAll C.1) C.1 T.z_all (aC (eLc [("one", 2)] C.1 (diS C.1 (eN 0)) (gN 2 (C.blk _).1) (tsN) (eCall (C.blk _) (fn_is_integer T) (aC (eN 2) (aN)))) (aN)))))))
theorem fn_are_integers (T : Top K mg) : Fn P w K mg base 2 "are_integers" s_are_integers ["value", "many"] (spP K g_are_integers) := by
  obtain ⟨f, fd, hF, hm, hB⟩ := T.d_are_integers
  exact ⟨f, fd, hF, fnP hF sc_are_integers (b_are_integers T f) (gP_of rfl), hm, hB⟩
theorem b_need_ranges (T : Top K mg) (f : Addr) : DSs (bodyX P w K mg base N_need_ranges "need_ranges" (defScope s_need_ranges) f 2) K false [] [] [] [] (defBody s_need_ranges) F_need_ranges := by
  have C := bodyX_at (P := P) (w := w) (K := K) (mg := mg) (base := base) (k := 2) (qual := "need_ranges") (f := f) sc_need_ranges
  exact ssC (sIP ((wOr (tNot' (tV (eIsi (T := "list") C.1 T.z_isinstance T.z_list (eN 0)))) (wOr1 (tNot' (tCh C.1 cLe cLe (eI) (eF bLen C.1 T.z_len (aC (eN 0) (aN))) (eGI T.c_MOST_RANGES))))).t)
      (ssX)
      (ssN))
      (ssO (sF C.1 ((diE C.1 T.z_enumerate (aC (eN 0) (aN))).up) (gT C.1 (gsC (gN 1 C.1) (gsC (gN 2 C.1) (gsN))))
      (ssFgt [1, 2] (ssO (sIP ((wOr (tNot' (tV (eCall C (fn_are_integers T) (aC (eN 2) (aC (eI) (aN)))))) (wOr1 (tC' C.1 cGt (eIx C.1 (eN 2) (eI)) (eIx C.1 (eN 2) (eI))))).t)
      (ssX)
      (ssN))))))
theorem fn_need_ranges (T : Top K mg) : Fn P w K mg base 3 "need_ranges" s_need_ranges ["ranges"] (spP K g_need_ranges) := by
  obtain ⟨f, fd, hF, hm, hB⟩ := T.d_need_ranges
  exact ⟨f, fd, hF, fnP hF sc_need_ranges (b_need_ranges T f) (gP_of rfl), hm, hB⟩
theorem b_crowd_in (T : Top K mg) (f : Addr) : DSs (bodyX P w K mg base N_crowd_in "crowd_in" (defScope s_crowd_in) f 0) K false [] [] [] [] (defBody s_crowd_in) F_crowd_in := by
  have C := bodyX_at (P := P) (w := w) (K := K) (mg := mg) (base := base) (k := 0) (qual := "crowd_in") (f := f) sc_crowd_in
  exact ssC (sSet 1 C.1 (eF bSorted C.1 T.z_sorted (aC (eAdd C.1 (eLc [("low", 2), ("high", 3)] C.1 (diS C.1 (eN 0)) (gT (C.blk _).1 (gsC (gN 2 (C.blk _).1) (gsC (gN 3 (C.blk _).1) (gsN)))) (tsN) (eT (aC (eN 2) (aC (eI) (aN))))) (eLc [("low", 2), ("high", 3)] C.1 (diS C.1 (eN 0)) (gT (C.blk _).1 (gsC (gN 2 (C.blk _).1) (gsC (gN 3 (C.blk _).1) (gsN)))) (tsN) (eT (aC (eN 3) (aC (eI) (aN)))))) (aN))))
      (ssC (sAs (eT (aC (eI) (aC (eI) (aC (eZ) (aN))))) (gT C.1 (gsC (gN 4 C.1) (gsC (gN 5 C.1) (gsC (gN 6 C.1) (gsN))))))
      (ssC (sF C.1 ((diS C.1 (eN 1)).up) (gT C.1 (gsC (gN 7 C.1) (gsC (gN 8 C.1) (gsN))))
      (ssFgt [7, 8] (ssC (sSet 4 C.1 (eSub C.1 (eAdd C.1 (eN 4) (eI)) (eMul C.1 (eI) (eN 8))))
      (ssO (sIP (tC' C.1 cGt (eN 4) (eN 5))
      (ssO (sPr 5 6 C.1 (amC ((eN 4).up) (amC ((eN 7).up) (amN)))))
      (ssN))))))
      (ssO (sR (eT (aC (eN 5) (aC (eN 6) (aN))))))))
theorem fn_crowd_in (T : Top K mg) : Fn P w K mg base 1 "crowd_in" s_crowd_in ["ranges"] (spP K g_crowd_in) := by
  obtain ⟨f, fd, hF, hm, hB⟩ := T.d_crowd_in
  exact ⟨f, fd, hF, fnP hF sc_crowd_in (b_crowd_in T f) (gP_of rfl), hm, hB⟩
theorem b_depth_of (T : Top K mg) (f : Addr) : DSs (bodyX P w K mg base N_depth_of "depth_of" (defScope s_depth_of) f 3) K false [] [] [] [] (defBody s_depth_of) F_depth_of := by
  have C := bodyX_at (P := P) (w := w) (K := K) (mg := mg) (base := base) (k := 3) (qual := "depth_of") (f := f) sc_depth_of
  exact ssC (sD ((eCall C (fn_need_ranges T) (aC (eN 0) (aN))).up))
      (ssO (sR (eIx C.1 (eCall C (fn_crowd_in T) (aC (eN 0) (aN))) (eI))))
theorem fn_depth_of (T : Top K mg) : Fn P w K mg base 4 "depth_of" s_depth_of ["ranges"] (spP K g_depth_of) := by
  obtain ⟨f, fd, hF, hm, hB⟩ := T.d_depth_of
  exact ⟨f, fd, hF, fnP hF sc_depth_of (b_depth_of T f) (gP_of rfl), hm, hB⟩
theorem b_crowd_place (T : Top K mg) (f : Addr) : DSs (bodyX P w K mg base N_crowd_place "crowd_place" (defScope s_crowd_place) f 3) K false [] [] [] [] (defBody s_crowd_place) F_crowd_place := by
  have C := bodyX_at (P := P) (w := w) (K := K) (mg := mg) (base := base) (k := 3) (qual := "crowd_place") (f := f) sc_crowd_place
  exact ssC (sD ((eCall C (fn_need_ranges T) (aC (eN 0) (aN))).up))
      (ssO (sR (eIx C.1 (eCall C (fn_crowd_in T) (aC (eN 0) (aN))) (eI))))
theorem fn_crowd_place (T : Top K mg) : Fn P w K mg base 4 "crowd_place" s_crowd_place ["ranges"] (spP K g_crowd_place) := by
  obtain ⟨f, fd, hF, hm, hB⟩ := T.d_crowd_place
  exact ⟨f, fd, hF, fnP hF sc_crowd_place (b_crowd_place T f) (gP_of rfl), hm, hB⟩
theorem b_meeting_pairs (T : Top K mg) (f : Addr) : DSs (bodyX P w K mg base N_meeting_pairs "meeting_pairs" (defScope s_meeting_pairs) f 3) K false [] [] [] [] (defBody s_meeting_pairs) F_meeting_pairs := by
  have C := bodyX_at (P := P) (w := w) (K := K) (mg := mg) (base := base) (k := 3) (qual := "meeting_pairs") (f := f) sc_meeting_pairs
  exact ssC (sD ((eCall C (fn_need_ranges T) (aC (eN 0) (aN))).up))
      (ssC (sSet 1 C.1 (eI))
      (ssC (sF C.1 ((diE C.1 T.z_enumerate (aC (eN 0) (aN))).up) (gT C.1 (gsC (gN 2 C.1) (gsC (gT C.1 (gsC (gN 3 C.1) (gsC (gN 4 C.1) (gsN)))) (gsN))))
      (ssFgt [2, 3, 4] (ssO (sAugA 1 C.1 ((eF bLen C.1 T.z_len (aC (eLc [("other", 5)] C.1 (diS C.1 (eSl C.1 (eN 0) (oN) (oS (eN 2)))) (gN 5 (C.blk _).1) (tsO ((wAnd (tC' (C.blk _).1 cLe (eIx (C.blk _).1 (eN 5) (eI)) (eN 4)) (wAnd1 (tC' (C.blk _).1 cLe (eN 3) (eIx (C.blk _).1 (eN 5) (eI))))).t)) (eN 5)) (aN))).up)))))
      (ssO (sR (eN 1)))))
theorem fn_meeting_pairs (T : Top K mg) : Fn P w K mg base 4 "meeting_pairs" s_meeting_pairs ["ranges"] (spP K g_meeting_pairs) := by
  obtain ⟨f, fd, hF, hm, hB⟩ := T.d_meeting_pairs
  exact ⟨f, fd, hF, fnP hF sc_meeting_pairs (b_meeting_pairs T f) (gP_of rfl), hm, hB⟩
theorem b_fewest_left (T : Top K mg) (f : Addr) : DSs (bodyX P w K mg base N_fewest_left "fewest_left" (defScope s_fewest_left) f 3) K false [] [] [] [] (defBody s_fewest_left) F_fewest_left := by
  have C := bodyX_at (P := P) (w := w) (K := K) (mg := mg) (base := base) (k := 3) (qual := "fewest_left") (f := f) sc_fewest_left
  exact ssC (sD ((eCall C (fn_need_ranges T) (aC (eN 0) (aN))).up))
      (ssO (sR (eSub C.1 (eF bLen C.1 T.z_len (aC (eN 0) (aN))) (eIx C.1 (eCall C (fn_crowd_in T) (aC (eN 0) (aN))) (eI)))))
theorem fn_fewest_left (T : Top K mg) : Fn P w K mg base 4 "fewest_left" s_fewest_left ["ranges"] (spP K g_fewest_left) := by
  obtain ⟨f, fd, hF, hm, hB⟩ := T.d_fewest_left
  exact ⟨f, fd, hF, fnP hF sc_fewest_left (b_fewest_left T f) (gP_of rfl), hm, hB⟩
-- law_source hands back a fresh list
theorem b_law_source (T : Top K mg) (f : Addr) : DSs (bodyX P w K mg base N_law_source "_law_source" (defScope s_law_source) f 0) K true [] [] [] [] (defBody s_law_source) F_law_source := by
  have C := bodyX_at (P := P) (w := w) (K := K) (mg := mg) (base := base) (k := 0) (qual := "_law_source") (f := f) sc_law_source
  exact ssC (sSet 2 C.1 (eF bAbs C.1 T.z_abs (aC (eN 0) (aN))))
      (ssO (sRF (fL (amC ((eF (bMax C.1) C.1 T.z_max (aC (eI) (aC (eSub C.1 (eN 2) (ePow C.1 (eI) (eI))) (aN)))).up) (amC ((eAdd C.1 (eAdd C.1 (eMul C.1 (eMod C.1 (eTy tyInt C.1 T.z_int (aC (eN 2) (aN))) (eAdd C.1 (ePow C.1 (eI) (eI)) (eI))) (eI)) (eMul C.1 (eI) (eN 1))) (eTy tyInt C.1 T.z_int (aC (eC C.1 cLt (eN 0) (eI)) (aN)))).up) (amC ((eI).up) (amN)))))))
theorem fn_law_source (T : Top K mg) : Fn P w K mg base 1 "_law_source" s_law_source ["entry", "k"] (spF K g_law_source) := by
  obtain ⟨f, fd, hF, hm, hB⟩ := T.d_law_source
  exact ⟨f, fd, hF, fnF hF sc_law_source (b_law_source T f) (gF_of rfl), hm, hB⟩
theorem b_law_draw (T : Top K mg) (f : Addr) : DSs (bodyX P w K mg base N_law_draw "_law_draw" (defScope s_law_draw) f 0) K false [0] [0] [] [0] (defBody s_law_draw) F_law_draw := by
  have C := bodyX_at (P := P) (w := w) (K := K) (mg := mg) (base := base) (k := 0) (qual := "_law_draw") (f := f) sc_law_draw
  exact ssC (sIP (tC' C.1 cGt (eIxO 0 C.1 (eI)) (eI))
      (ssC (sSet 2 C.1 (eMod C.1 (eTy tyInt C.1 T.z_int (aC (eIxO 0 C.1 (eI)) (aN))) (eN 1)))
      (ssC (sStI 0 C.1 ((eFdiv C.1 (eIxO 0 C.1 (eI)) (eN 1)).up) ((eI).up))
      (ssO (sR (eN 2)))))
      (ssN))
      (ssC (sStI 0 C.1 ((eAdd C.1 (eIxO 0 C.1 (eI)) (eI)).up) ((eI).up))
      (ssC (sSet 3 C.1 (eMod C.1 (eTy tyInt C.1 T.z_int (aC (ePow C.1 (eAdd C.1 (eIxO 0 C.1 (eI)) (eMul C.1 (eI) (eIxO 0 C.1 (eI)))) (eI)) (aN))) (eAdd C.1 (ePow C.1 (eI) (eI)) (eI))))
      (ssC (sSet 3 C.1 (eMod C.1 (eTy tyInt C.1 T.z_int (aC (ePow C.1 (eAdd C.1 (eMul C.1 (eN 3) (eIxO 0 C.1 (eI))) (eI)) (eI)) (aN))) (eAdd C.1 (ePow C.1 (eI) (eI)) (eI))))
      (ssO (sR (eMod C.1 (eTy tyInt C.1 T.z_int (aC (eFdiv C.1 (eN 3) (eI)) (aN))) (eN 1)))))))
theorem fn_law_draw (T : Top K mg) : Fn P w K mg base 1 "_law_draw" s_law_draw ["source", "count"] (spM K g_law_draw) := by
  obtain ⟨f, fd, hF, hm, hB⟩ := T.d_law_draw
  exact ⟨f, fd, hF, fnM hF sc_law_draw (b_law_draw T f) (by decide) (gM_of rfl), hm, hB⟩
theorem b_law_spans (T : Top K mg) (f : Addr) : DSs (bodyX P w K mg base N_law_spans "_law_spans" (defScope s_law_spans) f 1) K false [0] [0] [] [0] (defBody s_law_spans) F_law_spans := by
  have C := bodyX_at (P := P) (w := w) (K := K) (mg := mg) (base := base) (k := 1) (qual := "_law_spans") (f := f) sc_law_spans
  exact ssC (sSetF 3 C.1 (fL (amN)))
      (ssC (sF C.1 ((diR1 C.1 T.z_range (aC (eN 1) (aN))).up) (gN 4 C.1)
      (ssFgt [4, 5, 6, 7, 8, 9] (ssC (sSetM 5 C.1 (mSub C.1 (mCallM 0 C (fn_law_draw T) (amC ((eAdd C.1 (eMul C.1 (eI) (eN 2)) (eI)).up) (amN))) ((eN 2).up)))
      (ssC (sSetM 6 C.1 (mIx C.1 (mL (amC (mCallM 0 C (fn_law_draw T) (amC ((eAdd C.1 (eMul C.1 (eI) (eN 2)) (eI)).up) (amN))) (amC (mCallM 0 C (fn_law_draw T) (amC ((eI).up) (amN))) (amC ((eI).up) (amC ((eN 2).up) (amN)))))) (mCallM 0 C (fn_law_draw T) (amC ((eI).up) (amN)))))
      (ssC (sPr 7 8 C.1 (amC ((eT (aC (eN 5) (aC (eAdd C.1 (eN 5) (eN 6)) (aN)))).up) (amC (mCallM 0 C (fn_law_draw T) (amC ((eI).up) (amN))) (amN))))
      (ssC (sIP ((wAnd (tO 3 (m2 := [0]) (tC' C.1 (cNe C.1) (eN 3) (eL (aN)))) (wAnd1 (tC' C.1 cGt (eN 8) (eI)))).t)
      (ssC (sSetM 9 C.1 (mIxO 3 C.1 (mCallM 0 C (fn_law_draw T) (amC ((eO 3 (m2 := [0]) (eF bLen C.1 T.z_len (aC (eN 3) (aN)))).up) (amN)))))
      (ssO (sSet 7 C.1 (eIx C.1 (eL (aC (eN 9) (aC (eT (aC (eIx C.1 (eN 9) (eI)) (aC (eAdd C.1 (eIx C.1 (eN 9) (eI)) (eN 6)) (aN)))) (aC (eT (aC (eSub C.1 (eIx C.1 (eN 9) (eI)) (eN 6)) (aC (eIx C.1 (eN 9) (eI)) (aN)))) (aN))))) (eSub C.1 (eN 8) (eI))))))
      (ssN))
      (ssO (sApp 3 C.1 ((eN 7).up)))))))))
      (ssShareA 3 (m2 := [0]) (ssO (sR (eN 3)))))
theorem fn_law_spans (T : Top K mg) : Fn P w K mg base 2 "_law_spans" s_law_spans ["source", "many", "wide"] (spM K g_law_spans) := by
  obtain ⟨f, fd, hF, hm, hB⟩ := T.d_law_spans
  exact ⟨f, fd, hF, fnM hF sc_law_spans (b_law_spans T f) (by decide) (gM_of rfl), hm, hB⟩
theorem b_law_deepest (T : Top K mg) (f : Addr) : DSs (bodyX P w K mg base N_law_deepest "_law_deepest" (defScope s_law_deepest) f 0) K false [] [] [] [] (defBody s_law_deepest) F_law_deepest := by
  have C := bodyX_at (P := P) (w := w) (K := K) (mg := mg) (base := base) (k := 0) (qual := "_law_deepest") (f := f) sc_law_deepest
  exact ssC (sSet 1 C.1 (eT (aC (eI) (aC (eI) (aN)))))
      (ssC (sF C.1 ((diS C.1 (eN 0)).up) (gT C.1 (gsC (gN 2 C.1) (gsC (gN 3 C.1) (gsN))))
      (ssFgt [2, 3, 4] (ssC (sSet 4 C.1 (eF bLen C.1 T.z_len (aC (eLc [("one", 5)] C.1 (diS C.1 (eN 0)) (gN 5 (C.blk _).1) (tsO (tCh (C.blk _).1 cLe cLe (eIx (C.blk _).1 (eN 5) (eI)) (eN 2) (eIx (C.blk _).1 (eN 5) (eI)))) (eI)) (aN))))
      (ssO (sIP ((wOr (tC' C.1 cGt (eN 4) (eIx C.1 (eN 1) (eI))) (wOr1 ((wAnd (tC' C.1 (cEq C.1) (eN 4) (eIx C.1 (eN 1) (eI))) (wAnd1 (tC' C.1 cLt (eN 2) (eIx C.1 (eN 1) (eI))))).t))).t)
      (ssO (sSet 1 C.1 (eT (aC (eN 4) (aC (eN 2) (aN))))))
      (ssN))))))
      (ssO (sR (eN 1))))
theorem fn_law_deepest (T : Top K mg) : Fn P w K mg base 1 "_law_deepest" s_law_deepest ["spans"] (spP K g_law_deepest) := by
  obtain ⟨f, fd, hF, hm, hB⟩ := T.d_law_deepest
  exact ⟨f, fd, hF, fnP hF sc_law_deepest (b_law_deepest T f) (gP_of rfl), hm, hB⟩
theorem b_law_pairs (T : Top K mg) (f : Addr) : DSs (bodyX P w K mg base N_law_pairs "_law_pairs" (defScope s_law_pairs) f 0) K false [] [] [] [] (defBody s_law_pairs) F_law_pairs := by
  have C := bodyX_at (P := P) (w := w) (K := K) (mg := mg) (base := base) (k := 0) (qual := "_law_pairs") (f := f) sc_law_pairs
  exact ssC (sSet 1 C.1 (eI))
      (ssC (sF C.1 ((diE C.1 T.z_enumerate (aC (eN 0) (aN))).up) (gT C.1 (gsC (gN 2 C.1) (gsC (gT C.1 (gsC (gN 3 C.1) (gsC (gN 4 C.1) (gsN)))) (gsN))))
      (ssFgt [2, 3, 4] (ssO (sSet 1 C.1 (eAdd C.1 (eN 1) (eF bLen C.1 T.z_len (aC (eLc [("one", 5)] C.1 (diS C.1 (eSl C.1 (eN 0) (oN) (oS (eN 2)))) (gN 5 (C.blk _).1) (tsO ((wAnd (tC' (C.blk _).1 cLe (eIx (C.blk _).1 (eN 5) (eI)) (eN 4)) (wAnd1 (tC' (C.blk _).1 cLe (eN 3) (eIx (C.blk _).1 (eN 5) (eI))))).t)) (eN 5)) (aN))))))))
      (ssO (sR (eN 1))))
theorem fn_law_pairs (T : Top K mg) : Fn P w K mg base 1 "_law_pairs" s_law_pairs ["spans"] (spP K g_law_pairs) := by
  obtain ⟨f, fd, hF, hm, hB⟩ := T.d_law_pairs
  exact ⟨f, fd, hF, fnP hF sc_law_pairs (b_law_pairs T f) (gP_of rfl), hm, hB⟩
theorem b_law_right (T : Top K mg) (f : Addr) : DSs (bodyX P w K mg base N_law_right "_law_right" (defScope s_law_right) f 4) K false [] [] [] [] (defBody s_law_right) F_law_right := by
  have C := bodyX_at (P := P) (w := w) (K := K) (mg := mg) (base := base) (k := 4) (qual := "_law_right") (f := f) sc_law_right
  exact ssC (sAs (eT (aC (eF (bRepr C.1) C.1 T.z_repr (aC (eN 0) (aN))) (aC (eCall C (fn_law_deepest T) (aC (eN 0) (aN))) (aN)))) (gT C.1 (gsC (gN 1 C.1) (gsC (gT C.1 (gsC (gN 2 C.1) (gsC (gN 3 C.1) (gsN)))) (gsN)))))
      (ssC (sSet 4 C.1 (eL (aC (eN 2) (aC (eN 3) (aC (eCall C (fn_law_pairs T) (aC (eN 0) (aN))) (aC (eSub C.1 (eF bLen C.1 T.z_len (aC (eN 0) (aN))) (eN 2)) (aN)))))))
      (ssC (sSet 5 C.1 (eL (aC (eCall C (fn_depth_of T) (aC (eN 0) (aN))) (aC (eCall C (fn_crowd_place T) (aC (eN 0) (aN))) (aC (eCall C (fn_meeting_pairs T) (aC (eN 0) (aN))) (aC (eCall C (fn_fewest_left T) (aC (eN 0) (aN))) (aN)))))))
      (ssC (sIP ((wOr (tC' C.1 (cNe C.1) (eF (bRepr C.1) C.1 T.z_repr (aC (eN 5) (aN))) (eF (bRepr C.1) C.1 T.z_repr (aC (eN 4) (aN)))) (wOr1 (tC' C.1 (cNe C.1) (eF (bRepr C.1) C.1 T.z_repr (aC (eN 0) (aN))) (eN 1)))).t)
      (ssO (sR (eB)))
      (ssN))
      (ssC (sSet 5 C.1 (eL (aC (eCallK C (fn_depth_of T) kb_depth_of_ranges (kC (eN 0) (kN))) (aC (eCallK C (fn_crowd_place T) kb_crowd_place_ranges (kC (eN 0) (kN))) (aC (eCallK C (fn_meeting_pairs T) kb_meeting_pairs_ranges (kC (eN 0) (kN))) (aC (eCallK C (fn_fewest_left T) kb_fewest_left_ranges (kC (eN 0) (kN))) (aN)))))))
      (ssC (sIP (tC' C.1 (cNe C.1) (eN 5) (eN 4))
      (ssO (sR (eB)))
      (ssN))
      (ssC (sSet 6 C.1 (eRev C.1 (eN 0)))
      (ssO (sR (eC C.1 (cEq C.1) (eL (aC (eCall C (fn_depth_of T) (aC (eN 6) (aN))) (aC (eCall C (fn_crowd_place T) (aC (eN 6) (aN))) (aC (eCall C (fn_meeting_pairs T) (aC (eN 6) (aN))) (aC (eCall C (fn_fewest_left T) (aC (eN 6) (aN))) (aN)))))) (eN 4))))))))))
theorem fn_law_right (T : Top K mg) : Fn P w K mg base 5 "_law_right" s_law_right ["spans"] (spP K g_law_right) := by
  obtain ⟨f, fd, hF, hm, hB⟩ := T.d_law_right
  exact ⟨f, fd, hF, fnP hF sc_law_right (b_law_right T f) (gP_of rfl), hm, hB⟩
theorem b_law (T : Top K mg) (f : Addr) : DSs (bodyX P w K mg base N_law "law" (defScope s_law) f 5) K false [] [] [] [] (defBody s_law) F_law := by
  have C := bodyX_at (P := P) (w := w) (K := K) (mg := mg) (base := base) (k := 5) (qual := "law") (f := f) sc_law
  exact ssC (sF C.1 ((diE C.1 T.z_enumerate (aC (eSl C.1 (eAdd C.1 (eN 0) (eL (aC (eI) (aN)))) (oN) (oS (eF (bMax C.1) C.1 T.z_max (aC (eI) (aC (eF (bMin C.1) C.1 T.z_min (aC (eF bLen C.1 T.z_len (aC (eN 0) (aN))) (aC (eI) (aN)))) (aN)))))) (aN))).up) (gT C.1 (gsC (gN 1 C.1) (gsC (gN 2 C.1) (gsN))))
      (ssFgt [1, 2, 3, 4, 5] (ssShare 3 (m2 := []) (ssC (sSetF 3 C.1 (fCallF C (fn_law_source T) (amC ((eN 2).up) (amC ((eN 1).up) (amN)))))
      (ssC (sF C.1 ((diR1 C.1 T.z_range (aC (eI) (aN))).up) (gN 4 C.1)
      (ssFgt [4, 5] (ssC (sSetM 5 C.1 (mCallM 3 C (fn_law_spans T) (amC (mAdd C.1 ((eI).up) (mCallM 3 C (fn_law_draw T) (amC ((eIx C.1 (eL (aC (eI) (aC (eI) (aC (eI) (aC (eI) (aN)))))) (eN 4)).up) (amN)))) (amC ((eIx C.1 (eL (aC (eI) (aC (eI) (aC (eI) (aC (ePow C.1 (eI) (eI)) (aN)))))) (eN 4)).up) (amN)))))
      (ssO (sIP (tNot' (tV (eCall C (fn_law_right T) (aC (eN 5) (aN)))))
      (ssO (sR (eB)))
      (ssN))))))
      (ssO (sI ((wmAnd ((tC' C.1 (cEq C.1) (eN 1) (eI)).up) (wmAnd ((tC' C.1 (cNe C.1) (eN 0) (eL (aN))).up) (wmAnd1 (tmNot (tmV (mCall C (fn_law_right T) (amC (mCallM 3 C (fn_law_spans T) (amC ((eI).up) (amC (mIx C.1 ((eL (aC (eI) (aC (ePow C.1 (eI) (eI)) (aN)))).up) (mCallM 3 C (fn_law_draw T) (amC ((eI).up) (amN)))) (amN)))) (amN)))))))).t)
      (ssO (sR (eB)))
      (ssN))))))))
      (ssC (sSet 6 C.1 (eL (aC (eT (aC (eI) (aC (eI) (aN)))) (aC (eT (aC (eI) (aC (eI) (aN)))) (aC (eT (aC (eI) (aC (eI) (aN)))) (aC (eT (aC (eI) (aC (eI) (aN)))) (aC (eT (aC (eI) (aC (eI) (aN)))) (aN))))))))
      (ssC (sSet 7 C.1 (eL (aC (eCall C (fn_depth_of T) (aC (eN 6) (aN))) (aC (eCall C (fn_crowd_place T) (aC (eN 6) (aN))) (aC (eCall C (fn_meeting_pairs T) (aC (eN 6) (aN))) (aC (eCall C (fn_fewest_left T) (aC (eMul C.1 (eL (aC (eT (aC (eI) (aC (eI) (aN)))) (aN))) (eI)) (aN))) (aN)))))))
      (ssO (sR (eAndV (eC C.1 (cEq C.1) (eN 7) (eL (aC (eI) (aC (eI) (aC (eI) (aC (eI) (aN))))))) (eOne (eC C.1 (cEq C.1) (eCall C (fn_crowd_place T) (aC (eL (aC (eT (aC (eI) (aC (eI) (aN)))) (aC (eT (aC (eI) (aC (eI) (aN)))) (aC (eT (aC (eNeg (eI)) (aC (eNeg (eI)) (aN)))) (aN))))) (aN))) (eI))))))))
theorem fn_law (T : Top K mg) : Fn P w K mg base 6 "law" s_law ["script"] (spP K g_law) := by
  obtain ⟨f, fd, hF, hm, hB⟩ := T.d_law
  exact ⟨f, fd, hF, fnP hF sc_law (b_law T f) (gP_of rfl), hm, hB⟩
end
theorem all_mk {l : PySem.W.OpenLaw} {w : World} {K : PySem.W.Frag} {h : Heap} {mg : Str → Option Value} {fa f0 f1 f2 f3 f4 f5 f6 f7 f8 f9 f10 f11 f12 f13 f14 : Addr} (X : K.In h) (G : h.Ns mainGlobals mg) (hfa : mg "law" = some (.ref fa))
    {od0 an0 od1 an1 od2 an2 od3 an3 od4 an4 od5 an5 od6 an6 od7 an7 od8 an8 od9 an9 od10 an10 od11 an11 od12 an12 od13 an13 od14 an14 : Option Addr} {sl0 sl1 sl2 sl3 sl4 sl5 sl6 sl7 sl8 sl9 sl10 sl11 sl12 sl13 sl14 : Array (Option Value)} {oc0 kV0 dc0 pm0 cd0 ct0 oc1 kV1 dc1 pm1 cd1 ct1 oc2 kV2 dc2 pm2 cd2 ct2 oc3 kV3 dc3 pm3 cd3 ct3 oc4 kV4 dc4 pm4 cd4 ct4 oc5 kV5 dc5 pm5 cd5 ct5 oc6 kV6 dc6 pm6 cd6 ct6 oc7 kV7 dc7 pm7 cd7 ct7 oc8 kV8 dc8 pm8 cd8 ct8 oc9 kV9 dc9 pm9 cd9 ct9 oc10 kV10 dc10 pm10 cd10 ct10 oc11 kV11 dc11 pm11 cd11 ct11 oc12 kV12 dc12 pm12 cd12 ct12 oc13 kV13 dc13 pm13 cd13 ct13 oc14 kV14 dc14 pm14 cd14 ct14 : Value}
    {t0 : Tok}
    (a0 : PySem.W.nsIn K mainGlobals "is_integer" = some (some (.ref f0))) (l0 : K.lookup f0 = some ⟨oc0, od0, .func (PySem.W.fnOf "is_integer" "is_integer" (defArgs s_is_integer) (defBody s_is_integer) (defScope s_is_integer) .none kV0 dc0 pm0 an0 cd0 ct0), sl0⟩) (c0 : PySem.W.codeIn K cd0 "is_integer" = true) (k0 : PySem.W.keepIn K (.ref f0) = true)
    (a1 : PySem.W.nsIn K mainGlobals "are_integers" = some (some (.ref f1))) (l1 : K.lookup f1 = some ⟨oc1, od1, .func (PySem.W.fnOf "are_integers" "are_integers" (defArgs s_are_integers) (defBody s_are_integers) (defScope s_are_integers) .none kV1 dc1 pm1 an1 cd1 ct1), sl1⟩) (c1 : PySem.W.codeIn K cd1 "are_integers" = true) (k1 : PySem.W.keepIn K (.ref f1) = true)
    (a2 : PySem.W.nsIn K mainGlobals "need_ranges" = some (some (.ref f2))) (l2 : K.lookup f2 = some ⟨oc2, od2, .func (PySem.W.fnOf "need_ranges" "need_ranges" (defArgs s_need_ranges) (defBody s_need_ranges) (defScope s_need_ranges) .none kV2 dc2 pm2 an2 cd2 ct2), sl2⟩) (c2 : PySem.W.codeIn K cd2 "need_ranges" = true) (k2 : PySem.W.keepIn K (.ref f2) = true)
    (a3 : PySem.W.nsIn K mainGlobals "crowd_in" = some (some (.ref f3))) (l3 : K.lookup f3 = some ⟨oc3, od3, .func (PySem.W.fnOf "crowd_in" "crowd_in" (defArgs s_crowd_in) (defBody s_crowd_in) (defScope s_crowd_in) .none kV3 dc3 pm3 an3 cd3 ct3), sl3⟩) (c3 : PySem.W.codeIn K cd3 "crowd_in" = true) (k3 : PySem.W.keepIn K (.ref f3) = true)
    (a4 : PySem.W.nsIn K mainGlobals "depth_of" = some (some (.ref f4))) (l4 : K.lookup f4 = some ⟨oc4, od4, .func (PySem.W.fnOf "depth_of" "depth_of" (defArgs s_depth_of) (defBody s_depth_of) (defScope s_depth_of) .none kV4 dc4 pm4 an4 cd4 ct4), sl4⟩) (c4 : PySem.W.codeIn K cd4 "depth_of" = true) (k4 : PySem.W.keepIn K (.ref f4) = true)
    (a5 : PySem.W.nsIn K mainGlobals "crowd_place" = some (some (.ref f5))) (l5 : K.lookup f5 = some ⟨oc5, od5, .func (PySem.W.fnOf "crowd_place" "crowd_place" (defArgs s_crowd_place) (defBody s_crowd_place) (defScope s_crowd_place) .none kV5 dc5 pm5 an5 cd5 ct5), sl5⟩) (c5 : PySem.W.codeIn K cd5 "crowd_place" = true) (k5 : PySem.W.keepIn K (.ref f5) = true)
    (a6 : PySem.W.nsIn K mainGlobals "meeting_pairs" = some (some (.ref f6))) (l6 : K.lookup f6 = some ⟨oc6, od6, .func (PySem.W.fnOf "meeting_pairs" "meeting_pairs" (defArgs s_meeting_pairs) (defBody s_meeting_pairs) (defScope s_meeting_pairs) .none kV6 dc6 pm6 an6 cd6 ct6), sl6⟩) (c6 : PySem.W.codeIn K cd6 "meeting_pairs" = true) (k6 : PySem.W.keepIn K (.ref f6) = true)
    (a7 : PySem.W.nsIn K mainGlobals "fewest_left" = some (some (.ref f7))) (l7 : K.lookup f7 = some ⟨oc7, od7, .func (PySem.W.fnOf "fewest_left" "fewest_left" (defArgs s_fewest_left) (defBody s_fewest_left) (defScope s_fewest_left) .none kV7 dc7 pm7 an7 cd7 ct7), sl7⟩) (c7 : PySem.W.codeIn K cd7 "fewest_left" = true) (k7 : PySem.W.keepIn K (.ref f7) = true)
    (a8 : PySem.W.nsIn K mainGlobals "_law_source" = some (some (.ref f8))) (l8 : K.lookup f8 = some ⟨oc8, od8, .func (PySem.W.fnOf "_law_source" "_law_source" (defArgs s_law_source) (defBody s_law_source) (defScope s_law_source) .none kV8 dc8 pm8 an8 cd8 ct8), sl8⟩) (c8 : PySem.W.codeIn K cd8 "_law_source" = true) (k8 : PySem.W.keepIn K (.ref f8) = true)
    (a9 : PySem.W.nsIn K mainGlobals "_law_draw" = some (some (.ref f9))) (l9 : K.lookup f9 = some ⟨oc9, od9, .func (PySem.W.fnOf "_law_draw" "_law_draw" (defArgs s_law_draw) (defBody s_law_draw) (defScope s_law_draw) .none kV9 dc9 pm9 an9 cd9 ct9), sl9⟩) (c9 : PySem.W.codeIn K cd9 "_law_draw" = true) (k9 : PySem.W.keepIn K (.ref f9) = true)
    (a10 : PySem.W.nsIn K mainGlobals "_law_spans" = some (some (.ref f10))) (l10 : K.lookup f10 = some ⟨oc10, od10, .func (PySem.W.fnOf "_law_spans" "_law_spans" (defArgs s_law_spans) (defBody s_law_spans) (defScope s_law_spans) .none kV10 dc10 pm10 an10 cd10 ct10), sl10⟩) (c10 : PySem.W.codeIn K cd10 "_law_spans" = true) (k10 : PySem.W.keepIn K (.ref f10) = true)
    (a11 : PySem.W.nsIn K mainGlobals "_law_deepest" = some (some (.ref f11))) (l11 : K.lookup f11 = some ⟨oc11, od11, .func (PySem.W.fnOf "_law_deepest" "_law_deepest" (defArgs s_law_deepest) (defBody s_law_deepest) (defScope s_law_deepest) .none kV11 dc11 pm11 an11 cd11 ct11), sl11⟩) (c11 : PySem.W.codeIn K cd11 "_law_deepest" = true) (k11 : PySem.W.keepIn K (.ref f11) = true)
    (a12 : PySem.W.nsIn K mainGlobals "_law_pairs" = some (some (.ref f12))) (l12 : K.lookup f12 = some ⟨oc12, od12, .func (PySem.W.fnOf "_law_pairs" "_law_pairs" (defArgs s_law_pairs) (defBody s_law_pairs) (defScope s_law_pairs) .none kV12 dc12 pm12 an12 cd12 ct12), sl12⟩) (c12 : PySem.W.codeIn K cd12 "_law_pairs" = true) (k12 : PySem.W.keepIn K (.ref f12) = true)
    (a13 : PySem.W.nsIn K mainGlobals "_law_right" = some (some (.ref f13))) (l13 : K.lookup f13 = some ⟨oc13, od13, .func (PySem.W.fnOf "_law_right" "_law_right" (defArgs s_law_right) (defBody s_law_right) (defScope s_law_right) .none kV13 dc13 pm13 an13 cd13 ct13), sl13⟩) (c13 : PySem.W.codeIn K cd13 "_law_right" = true) (k13 : PySem.W.keepIn K (.ref f13) = true)
    (a14 : PySem.W.nsIn K mainGlobals "law" = some (some (.ref f14))) (l14 : K.lookup f14 = some ⟨oc14, od14, .func (PySem.W.fnOf "law" "law" (defArgs s_law) (defBody s_law) (defScope s_law) .none kV14 dc14 pm14 an14 cd14 ct14), sl14⟩) (c14 : PySem.W.codeIn K cd14 "law" = true) (k14 : PySem.W.keepIn K (.ref f14) = true)
    (z0 : PySem.W.nsIn K mainGlobals "abs" = some none)
    (z1 : PySem.W.nsIn K mainGlobals "all" = some none)
    (z2 : PySem.W.nsIn K mainGlobals "bool" = some none)
    (z3 : PySem.W.nsIn K mainGlobals "enumerate" = some none)
    (z4 : PySem.W.nsIn K mainGlobals "int" = some none)
    (z5 : PySem.W.nsIn K mainGlobals "isinstance" = some none)
    (z6 : PySem.W.nsIn K mainGlobals "len" = some none)
    (z7 : PySem.W.nsIn K mainGlobals "list" = some none)
    (z8 : PySem.W.nsIn K mainGlobals "max" = some none)
    (z9 : PySem.W.nsIn K mainGlobals "min" = some none)
    (z10 : PySem.W.nsIn K mainGlobals "range" = some none)
    (z11 : PySem.W.nsIn K mainGlobals "repr" = some none)
    (z12 : PySem.W.nsIn K mainGlobals "sorted" = some none)
    (z13 : PySem.W.nsIn K mainGlobals "tuple" = some none)
    (cst0 : PySem.W.nsIn K mainGlobals "MOST_RANGES" = some (some (.int 400 t0)))
    : ∃ fd : FuncData, (∀ (s : Shared) (v : Value), BindsTo s fd ⟨[v], []⟩ [("script", v)]) ∧ ∀ base : Heap, K.In base → base.Ns mainGlobals mg → FnG l.prog w K mg base CX0 6 fa fd ["script"] (spP K g_law) := by
  have T : Top K mg := {
    d_is_integer := ⟨f0, _, fun_mk (st := s_is_integer) l0 c0 k0, PySem.W.mg_of X G a0, (fun_mk (st := s_is_integer) l0 c0 k0).binds (ps := ["value"]) fun _ _ _ _ _ _ us hl => match us, hl with | [_], _ => rfl⟩
    d_are_integers := ⟨f1, _, fun_mk (st := s_are_integers) l1 c1 k1, PySem.W.mg_of X G a1, (fun_mk (st := s_are_integers) l1 c1 k1).binds (ps := ["value", "many"]) fun _ _ _ _ _ _ us hl => match us, hl with | [_, _], _ => rfl⟩
    d_need_ranges := ⟨f2, _, fun_mk (st := s_need_ranges) l2 c2 k2, PySem.W.mg_of X G a2, (fun_mk (st := s_need_ranges) l2 c2 k2).binds (ps := ["ranges"]) fun _ _ _ _ _ _ us hl => match us, hl with | [_], _ => rfl⟩
    d_crowd_in := ⟨f3, _, fun_mk (st := s_crowd_in) l3 c3 k3, PySem.W.mg_of X G a3, (fun_mk (st := s_crowd_in) l3 c3 k3).binds (ps := ["ranges"]) fun _ _ _ _ _ _ us hl => match us, hl with | [_], _ => rfl⟩
    d_depth_of := ⟨f4, _, fun_mk (st := s_depth_of) l4 c4 k4, PySem.W.mg_of X G a4, (fun_mk (st := s_depth_of) l4 c4 k4).binds (ps := ["ranges"]) fun _ _ _ _ _ _ us hl => match us, hl with | [_], _ => rfl⟩
    d_crowd_place := ⟨f5, _, fun_mk (st := s_crowd_place) l5 c5 k5, PySem.W.mg_of X G a5, (fun_mk (st := s_crowd_place) l5 c5 k5).binds (ps := ["ranges"]) fun _ _ _ _ _ _ us hl => match us, hl with | [_], _ => rfl⟩
    d_meeting_pairs := ⟨f6, _, fun_mk (st := s_meeting_pairs) l6 c6 k6, PySem.W.mg_of X G a6, (fun_mk (st := s_meeting_pairs) l6 c6 k6).binds (ps := ["ranges"]) fun _ _ _ _ _ _ us hl => match us, hl with | [_], _ => rfl⟩
    d_fewest_left := ⟨f7, _, fun_mk (st := s_fewest_left) l7 c7 k7, PySem.W.mg_of X G a7, (fun_mk (st := s_fewest_left) l7 c7 k7).binds (ps := ["ranges"]) fun _ _ _ _ _ _ us hl => match us, hl with | [_], _ => rfl⟩
    d_law_source := ⟨f8, _, fun_mk (st := s_law_source) l8 c8 k8, PySem.W.mg_of X G a8, (fun_mk (st := s_law_source) l8 c8 k8).binds (ps := ["entry", "k"]) fun _ _ _ _ _ _ us hl => match us, hl with | [_, _], _ => rfl⟩
    d_law_draw := ⟨f9, _, fun_mk (st := s_law_draw) l9 c9 k9, PySem.W.mg_of X G a9, (fun_mk (st := s_law_draw) l9 c9 k9).binds (ps := ["source", "count"]) fun _ _ _ _ _ _ us hl => match us, hl with | [_, _], _ => rfl⟩
    d_law_spans := ⟨f10, _, fun_mk (st := s_law_spans) l10 c10 k10, PySem.W.mg_of X G a10, (fun_mk (st := s_law_spans) l10 c10 k10).binds (ps := ["source", "many", "wide"]) fun _ _ _ _ _ _ us hl => match us, hl with | [_, _, _], _ => rfl⟩
    d_law_deepest := ⟨f11, _, fun_mk (st := s_law_deepest) l11 c11 k11, PySem.W.mg_of X G a11, (fun_mk (st := s_law_deepest) l11 c11 k11).binds (ps := ["spans"]) fun _ _ _ _ _ _ us hl => match us, hl with | [_], _ => rfl⟩
    d_law_pairs := ⟨f12, _, fun_mk (st := s_law_pairs) l12 c12 k12, PySem.W.mg_of X G a12, (fun_mk (st := s_law_pairs) l12 c12 k12).binds (ps := ["spans"]) fun _ _ _ _ _ _ us hl => match us, hl with | [_], _ => rfl⟩
    d_law_right := ⟨f13, _, fun_mk (st := s_law_right) l13 c13 k13, PySem.W.mg_of X G a13, (fun_mk (st := s_law_right) l13 c13 k13).binds (ps := ["spans"]) fun _ _ _ _ _ _ us hl => match us, hl with | [_], _ => rfl⟩
    d_law := ⟨f14, _, fun_mk (st := s_law) l14 c14 k14, PySem.W.mg_of X G a14, (fun_mk (st := s_law) l14 c14 k14).binds (ps := ["script"]) fun _ _ _ _ _ _ us hl => match us, hl with | [_], _ => rfl⟩
    z_abs := PySem.W.mg_none_of X G z0
    z_all := PySem.W.mg_none_of X G z1
    z_bool := PySem.W.mg_none_of X G z2
    z_enumerate := PySem.W.mg_none_of X G z3
    z_int := PySem.W.mg_none_of X G z4
    z_isinstance := PySem.W.mg_none_of X G z5
    z_len := PySem.W.mg_none_of X G z6
    z_list := PySem.W.mg_none_of X G z7
    z_max := PySem.W.mg_none_of X G z8
    z_min := PySem.W.mg_none_of X G z9
    z_range := PySem.W.mg_none_of X G z10
    z_repr := PySem.W.mg_none_of X G z11
    z_sorted := PySem.W.mg_none_of X G z12
    z_tuple := PySem.W.mg_none_of X G z13
    c_MOST_RANGES := ⟨_, PySem.W.mg_of X G cst0⟩
  }
  have e := hfa.symm.trans (PySem.W.mg_of X G a14)
  cases e
  have F := fun_mk (st := s_law) l14 c14 k14
  exact ⟨_, fun s v => .of_eq rfl, fun base _ _ => fnP F sc_law (b_law T _) (gP_of rfl)⟩
end CSk60

/-! CsP: the mirrors evaluated; plain laws that many laws share. -/
namespace CS
open PySem
section
variable {a0 a1 a2 a3 a4 a5 a6 a7 a8 a9 a10 a11 a12 : Option D} {x : D} {r : En}
theorem gv_0 : gv 0 (some x :: r) = some x := rfl
theorem gv_1 : gv 1 (a0 :: some x :: r) = some x := rfl
theorem gv_2 : gv 2 (a0 :: a1 :: some x :: r) = some x := rfl
theorem gv_3 : gv 3 (a0 :: a1 :: a2 :: some x :: r) = some x := rfl
theorem gv_4 : gv 4 (a0 :: a1 :: a2 :: a3 :: some x :: r) = some x := rfl
theorem gv_5 : gv 5 (a0 :: a1 :: a2 :: a3 :: a4 :: some x :: r) = some x := rfl
theorem gv_6 : gv 6 (a0 :: a1 :: a2 :: a3 :: a4 :: a5 :: some x :: r) = some x := rfl
theorem gv_7 : gv 7 (a0 :: a1 :: a2 :: a3 :: a4 :: a5 :: a6 :: some x :: r) = some x := rfl
theorem gv_8 : gv 8 (a0 :: a1 :: a2 :: a3 :: a4 :: a5 :: a6 :: a7 :: some x :: r) = some x := rfl
theorem gv_9 : gv 9 (a0 :: a1 :: a2 :: a3 :: a4 :: a5 :: a6 :: a7 :: a8 :: some x :: r) = some x := rfl
theorem gv_10 : gv 10 (a0 :: a1 :: a2 :: a3 :: a4 :: a5 :: a6 :: a7 :: a8 :: a9 :: some x :: r) = some x := rfl
theorem gv_11 : gv 11 (a0 :: a1 :: a2 :: a3 :: a4 :: a5 :: a6 :: a7 :: a8 :: a9 :: a10 :: some x :: r) = some x := rfl
theorem gv_12 : gv 12 (a0 :: a1 :: a2 :: a3 :: a4 :: a5 :: a6 :: a7 :: a8 :: a9 :: a10 :: a11 :: some x :: r) = some x := rfl
theorem gv_13 : gv 13 (a0 :: a1 :: a2 :: a3 :: a4 :: a5 :: a6 :: a7 :: a8 :: a9 :: a10 :: a11 :: a12 :: some x :: r) = some x := rfl
end
theorem ev_pure {α : Type} (x : α) : (pure x : Option α) = some x := rfl
theorem ev_bind {α β : Type} (x : Option α) (f : α → Option β) : (x >>= f) = x.bind f := rfl
theorem dAdd_i (a b : Int) : dAdd (.int a) (.int b) = some (.int (a + b)) := rfl
theorem dI_pos {C : Int → Int → Prop} [∀ i j, Decidable (C i j)] {f : Int → Int → Int} {a b : Int} (h : C a b) : dI C f (.int a) (.int b) = some (.int (f a b)) := by
  show (if C a b then some (PyData.int (f a b)) else none) = _
  rw [if_pos h]
theorem dMod_pos {a b : Int} (h : 0 < b) : dMod (.int a) (.int b) = some (.int (a % b)) := by
  rw [show dMod (.int a) (.int b) = some (.int (a.fmod b)) from dI_pos (C := CNe0) (by unfold CNe0; omega), Int.fmod_eq_emod_of_nonneg a (by omega)]
theorem log2_small {n k : Nat} (h : n < 2 ^ k) (hk : k ≤ 9000) : n.log2 < 9000 := by
  by_cases c : n = 0
  · subst c; decide
  · exact Nat.lt_of_lt_of_le ((Nat.log2_lt c).mpr h) hk
theorem dFdiv_pos {a b : Int} (h : 0 < b) (h2 : b.natAbs < 2 ^ 200) : dFdiv (.int a) (.int b) = some (.int (a / b)) := by
  rw [show dFdiv (.int a) (.int b) = some (.int (a.fdiv b)) from dI_pos (C := COkDiv) ⟨by omega, log2_small h2 (by decide)⟩, Int.fdiv_eq_ediv_of_nonneg a (by omega)]
theorem bits_le {i : Int} {k : Nat} (h : i.natAbs < 2 ^ k) : Builtin.Int.intBits i ≤ k := intBits_le_iff.mpr h
theorem dMul_ok {a b : Int} (h : IntMulOk a b) : dMul (.int a) (.int b) = some (.int (a * b)) := by
  show (if IntMulOk a b then some (PyData.int (a * b)) else none) = _
  rw [if_pos h]
theorem mulOk_r {a b : Int} (h : b.natAbs < 2 ^ 64) : IntMulOk a b := IntMulOk.of_right (bits_le h)
theorem mulOk_l {a b : Int} (h : a.natAbs < 2 ^ 64) : IntMulOk a b := IntMulOk.of_left (bits_le h)
theorem dPow3 {a : Int} (h : a.natAbs < 2 ^ 1000) : dPow (.int a) (.int 3) = some (.int (a ^ 3)) := by
  refine dI_pos (C := CPowU) ⟨by omega, ?_⟩
  have := bits_le h
  omega
theorem dPowL {a : Int} {b : Int} {c : Int} (h : 0 ≤ b ∧ (Builtin.Int.intBits a : Int) * b ≤ 2 ^ 27) (hc : a ^ b.toNat = c) : dPow (.int a) (.int b) = some (.int c) := by
  subst hc
  exact dI_pos (C := CPowU) h
theorem atI_0 {x : D} {r : List D} : L2.atI (x :: r) 0 = some x := L2.atI_nat (j := 0) rfl
theorem atI_1 {x y : D} {r : List D} : L2.atI (x :: y :: r) 1 = some y := L2.atI_nat (j := 1) rfl
theorem atI_2 {x y z : D} {r : List D} : L2.atI (x :: y :: z :: r) 2 = some z := L2.atI_nat (j := 2) rfl
theorem atI_3 {x y z u : D} {r : List D} : L2.atI (x :: y :: z :: u :: r) 3 = some u := L2.atI_nat (j := 3) rfl
theorem ix30 : L2.ixN 3 0 = some 0 := rfl
theorem ix31 : L2.ixN 3 1 = some 1 := rfl
theorem ix32 : L2.ixN 3 2 = some 2 := rfl
theorem sized_le {ds : List D} (h : ds.length ≤ sizeLine) : sized ds = some ds := by unfold sized; rw [if_pos h]
/-! ### loops, comprehensions over typed lists -/
theorem forD_nil {f : D → En → Option Out} {env : En} : forD f [] env = some (.nx env) := rfl
theorem forD_go {f : D → En → Option Out} {x : D} {xs : List D} {env e : En} (h : f x env = some (.nx e)) : forD f (x :: xs) env = forD f xs e := by
  simp only [forD, h, Option.bind_some]
/-- a loop that goes through; I by what was walked -/
theorem forD_map {α : Type} (t : α → D) {f : D → En → Option Out} (xs : List α) (I : List α → En → Prop) {env : En} (h0 : I [] env) (hs : ∀ p x q e, xs = p ++ x :: q → I p e → ∃ e', f (t x) e = some (.nx e') ∧ I (p ++ [x]) e') :
    ∃ e', forD f (xs.map t) env = some (.nx e') ∧ I xs e' := by
  suffices h : ∀ q p e, xs = p ++ q → I p e → ∃ e', forD f (q.map t) e = some (.nx e') ∧ I xs e' from h xs [] env rfl h0
  intro q
  induction q with
  | nil => intro p e hx hI; rw [List.append_nil] at hx; subst hx; exact ⟨e, rfl, hI⟩
  | cons x q ih =>
    intro p e hx hI
    obtain ⟨e1, h1, hI1⟩ := hs p x q e hx hI
    obtain ⟨e2, h2, hI2⟩ := ih (p ++ [x]) e1 (by rw [hx]; simp) hI1
    exact ⟨e2, by rw [List.map_cons, forD_go h1]; exact h2, hI2⟩
theorem compD_map {α : Type} {t : α → D} {f : D → Option (Option D)} {g : α → Option D} : ∀ xs : List α, (∀ x ∈ xs, f (t x) = some (g x)) → compD f (xs.map t) = some (xs.filterMap g)
  | [], _ => rfl
  | x :: xs, h => by
    have h1 := h x List.mem_cons_self
    have h2 := compD_map xs fun y hy => h y (List.mem_cons_of_mem _ hy)
    simp only [List.map_cons, compD, h1, h2, Option.bind_some, Option.map_some]
    cases hg : g x with
    | none => rw [List.filterMap_cons_none hg]; rfl
    | some y => rw [List.filterMap_cons_some hg]; rfl
theorem lcF_map {vs : List Nat} {Fi : En → Option (List D)} {Gt : D → En → Option En} {Ft : En → Option Bool} {Fe : En → Option D} {env : En} {α : Type} (t : α → D) (xs : List α) (g : α → Option D) (hi : Fi env = some (xs.map t))
    (h : ∀ x ∈ xs, ((Gt (t x) (wipeE env vs)).bind fun e => (Ft e).bind fun b => if b = true then (Fe e).map some else some none) = some (g x)) : lcF vs Fi Gt Ft Fe env = some (.list (xs.filterMap g)) := by
  unfold lcF
  rw [hi, Option.bind_some, compD_map xs h, Option.map_some]
theorem enumD_map {α : Type} (t : α → D) (xs : List α) : enumD (xs.map t) = xs.zipIdx.map fun p => .tuple [.int (p.2 : Nat), t p.1] := by
  unfold enumD
  rw [List.zipIdx_map, List.map_map]
  rfl
theorem rangeD_0 (n : Nat) : rangeD 0 n = (List.range n).map fun i => .int (i : Nat) := by
  unfold rangeD
  simp
/-! ### data that compare, that are shown -/
theorem shaped_of {d : D} (h1 : d.canLay0 = true) (h2 : d.depth ≤ 64) : SeqAt.shaped d = true := by
  show (d.canLay0 && decide (d.depth ≤ 64)) = true
  rw [h1, decide_eq_true h2]; rfl
theorem dEq_str (neg : Bool) (a b : Str) : dEq neg (.str a) (.str b) = some (.bool (if neg then !(a == b) else a == b)) := rfl
theorem dEq_ok {neg : Bool} {a b : D} (ha : SeqAt.shaped (unS a) = true) (hb : SeqAt.shaped (unS b) = true) : dEq neg a b = some (.bool (if neg then !PyData.eqv (unS a) (unS b) else PyData.eqv (unS a) (unS b))) := by
  unfold dEq
  split
  · simp only [unS, PyData.eqv]
  · rw [if_pos ⟨ha, hb⟩]
theorem dEq_int (neg : Bool) (a b : Int) : dEq neg (.int a) (.int b) = some (.bool (if neg then !decide (a = b) else decide (a = b))) := by
  rw [dEq_ok (shaped_of (by rfl) (by simp [unS, PyData.depth])) (shaped_of (by rfl) (by simp [unS, PyData.depth]))]
  simp only [unS, PyData.eqv]
  rfl
theorem dEq_eqi (a b : Int) : dEq false (.int a) (.int b) = some (.bool (decide (a = b))) := dEq_int false a b
theorem dEq_nei (a b : Int) : dEq true (.int a) (.int b) = some (.bool (!decide (a = b))) := dEq_int true a b
theorem canLayAll_of : ∀ {ds : List D}, (∀ d ∈ ds, d.canLay0 = true) → PyData.canLayAll0 ds = true
  | [], _ => rfl
  | d :: ds, h => by
    simp only [PyData.canLayAll0, h d List.mem_cons_self, canLayAll_of (ds := ds) fun e he => h e (List.mem_cons_of_mem _ he), Bool.and_self]
theorem depthAll_le {k : Nat} : ∀ {ds : List D}, (∀ d ∈ ds, d.depth ≤ k) → PyData.depthAll ds ≤ k
  | [], _ => by simp [PyData.depthAll]
  | d :: ds, h => by
    simp only [PyData.depthAll]
    exact Nat.max_le.mpr ⟨h d List.mem_cons_self, depthAll_le fun e he => h e (List.mem_cons_of_mem _ he)⟩
theorem pairD_lay (p : Int × Int) : (pairD p).canLay0 = true := rfl
theorem pairD_depth (p : Int × Int) : (pairD p).depth = 1 := by simp [pairD, PyData.depth, PyData.depthAll]
theorem shaped_pairs (ps : List (Int × Int)) : SeqAt.shaped (.list (ps.map pairD)) = true := by
  refine shaped_of (canLayAll_of fun d hd => ?_) ?_
  · obtain ⟨p, _, rfl⟩ := List.mem_map.mp hd
    exact pairD_lay p
  · have := depthAll_le (k := 1) (ds := ps.map pairD) fun d hd => by
      obtain ⟨p, _, rfl⟩ := List.mem_map.mp hd
      rw [pairD_depth]; exact Nat.le_refl 1
    simp only [PyData.depth]
    omega
theorem shaped_ints (ns : List Int) : SeqAt.shaped (.list (ns.map PyData.int)) = true := by
  refine shaped_of (canLayAll_of fun d hd => ?_) ?_
  · obtain ⟨p, _, rfl⟩ := List.mem_map.mp hd
    rfl
  · have := depthAll_le (k := 0) (ds := ns.map PyData.int) fun d hd => by
      obtain ⟨p, _, rfl⟩ := List.mem_map.mp hd
      simp [PyData.depth]
    simp only [PyData.depth]
    omega
theorem shaped_nil : SeqAt.shaped (.list []) = true := shaped_ints []
theorem dEq_nil {neg : Bool} {ds : List D} (h : SeqAt.shaped (.list ds) = true) : dEq neg (.list ds) (.list []) = some (.bool (if neg then !ds.isEmpty else ds.isEmpty)) := by
  rw [dEq_ok (a := .list ds) (b := .list []) h shaped_nil]
  have : PyData.eqv (unS (.list ds)) (unS (.list [])) = ds.isEmpty := by
    show PyData.eqv (.list ds) (.list []) = ds.isEmpty
    cases ds <;> simp only [PyData.eqv, PyData.eqvAll, List.isEmpty_nil, List.isEmpty_cons]
  rw [this]
theorem dEq_same {neg : Bool} {a : D} (h : SeqAt.shaped (unS a) = true) : dEq neg a a = some (.bool (!neg)) := by
  rw [dEq_ok h h, SeqAt.eqv_refl _ (SeqAt.canLay_of_shaped h)]
  cases neg <;> rfl
theorem gAppend_ok {ds : List D} {d : D} (h : ds.length < sizeLine) : gAppend ds d = some (ds ++ [d]) := by unfold gAppend; rw [if_pos h]
/-- how long what is shown is -/
theorem shown_int {i : Int} {k : Nat} (h : i.natAbs < 10 ^ (k + 1)) : (PyData.shown (.int i)).length ≤ k + 2 := by
  have e := int_text_length_le10 (k := k + 1) (by omega) h
  show (Str.ofString (toString i)).length ≤ k + 2
  rw [ofString_length]; exact e
/-! ### what is reached -/
def Wp {α : Type} (x : Option α) (P : α → Prop) : Prop := ∃ a, x = some a ∧ P a
theorem Wp.some {α : Type} {a : α} {P : α → Prop} (h : P a) : Wp (some a) P := ⟨a, rfl, h⟩
theorem Wp.of {α : Type} {x : Option α} {a : α} {P : α → Prop} (e : x = .some a) (h : P a) : Wp x P := ⟨a, e, h⟩
theorem Wp.imp {α : Type} {x : Option α} {P Q : α → Prop} (h : Wp x P) (k : ∀ a, P a → Q a) : Wp x Q := let ⟨a, e, p⟩ := h; ⟨a, e, k a p⟩
def After (P : Out → Prop) (F : En → Option Out) : Out → Prop
  | .nx e => Wp (F e) P
  | o => P o
theorem wp_seq {F1 F2 : En → Option Out} {env : En} {P : Out → Prop} (h : Wp (F1 env) (After P F2)) : Wp (fSeq F1 F2 env) P := by
  obtain ⟨o, e, h⟩ := h
  unfold fSeq
  rw [e, Option.bind_some]
  cases o with
  | nx e => exact h
  | rt d own => exact ⟨_, rfl, h⟩
  | bk e => exact ⟨_, rfl, h⟩
  | ct e => exact ⟨_, rfl, h⟩
/-- a step that is worth e' -/
theorem wp_st {F1 F2 : En → Option Out} {env : En} {P : Out → Prop} (e' : En) (h : F1 env = some (.nx e')) (k : Wp (F2 e') P) : Wp (fSeq F1 F2 env) P := wp_seq ⟨_, h, k⟩
theorem wp_ifP {Ft : En → Option Bool} {F1 F2 : En → Option Out} {env : En} {P : Out → Prop} (b : Bool) (h : Ft env = some b) (h1 : b = true → Wp (F1 env) P) (h2 : b = false → Wp (F2 env) P) : Wp (sIfP Ft F1 F2 env) P := by
  unfold sIfP
  rw [h, Option.bind_some]
  cases b with
  | true => exact h1 rfl
  | false => exact h2 rfl
theorem wp_if {Ft : En → Option (Bool × En)} {F1 F2 : En → Option Out} {env : En} {P : Out → Prop} (b : Bool) (e : En) (h : Ft env = some (b, e)) (h1 : b = true → Wp (F1 e) P) (h2 : b = false → Wp (F2 e) P) : Wp (sIf Ft F1 F2 env) P := by
  unfold sIf
  rw [h, Option.bind_some]
  cases b with
  | true => exact h1 rfl
  | false => exact h2 rfl
def Turn (I : En → Prop) : Out → Prop
  | .nx e => I e
  | .ct e => I e
  | _ => False
theorem wp_forget {vs : List Nat} {F : En → Option Out} {env : En} {I : En → Prop} (h : Wp (F env) (Turn fun e => I (wipeE e vs))) : Wp (sForget vs F env) (Turn I) := by
  obtain ⟨o, e, h⟩ := h
  unfold sForget
  rw [e, Option.map_some]
  refine ⟨_, rfl, ?_⟩
  cases o with
  | nx e => exact h
  | ct e => exact h
  | rt d own => exact h.elim
  | bk e => exact h.elim
theorem forD_go2 {f : D → En → Option Out} {x : D} {xs : List D} {env : En} {I : En → Prop} (h : Wp (f x env) (Turn I)) : ∃ e, I e ∧ forD f (x :: xs) env = forD f xs e := by
  obtain ⟨o, e, h⟩ := h
  cases o with
  | nx e1 => exact ⟨e1, h, by simp only [forD, e, Option.bind_some]⟩
  | ct e1 => exact ⟨e1, h, by simp only [forD, e, Option.bind_some]⟩
  | rt d own => exact h.elim
  | bk e => exact h.elim
/-- a loop that goes through to its end; I by what was walked -/
theorem wp_for {α : Type} (t : α → D) (xs : List α) (I : List α → En → Prop) {Fi : En → Option (List D × En)} {Gt : D → En → Option En} {B : En → Option Out} {env env1 : En} (hi : Fi env = some (xs.map t, env1)) (h0 : I [] env1)
    (hs : ∀ p x q e, xs = p ++ x :: q → I p e → ∃ e0, Gt (t x) e = some e0 ∧ Wp (B e0) (Turn (I (p ++ [x])))) {P : Out → Prop} (k : ∀ e', I xs e' → P (.nx e')) : Wp (sFor Fi Gt B env) P := by
  suffices h : ∀ q p e, xs = p ++ q → I p e → ∃ e', forD (fun x e => (Gt x e).bind B) (q.map t) e = some (.nx e') ∧ I xs e' by
    obtain ⟨e', h1, h2⟩ := h xs [] env1 rfl h0
    refine ⟨.nx e', ?_, k e' h2⟩
    unfold sFor
    rw [hi, Option.bind_some]
    exact h1
  intro q
  induction q with
  | nil => intro p e hx hI; rw [List.append_nil] at hx; subst hx; exact ⟨e, rfl, hI⟩
  | cons x q ih =>
    intro p e hx hI
    obtain ⟨e0, h1, h2⟩ := hs p x q e hx hI
    obtain ⟨e1, hI1, he1⟩ := forD_go2 (f := fun x e => (Gt x e).bind B) (x := t x) (xs := q.map t) (env := e) (I := I (p ++ [x])) (by
      show Wp ((Gt (t x) e).bind B) _
      rw [h1]; exact h2)
    obtain ⟨e2, h3, hI2⟩ := ih (p ++ [x]) e1 (by rw [hx]; simp) hI1
    exact ⟨e2, by rw [List.map_cons, he1]; exact h3, hI2⟩
theorem rng1_nat {m : Nat} (hm : m ≤ sizeLine) : rng1 [PyData.int (m : Int)] = some ((List.range m).map fun i : Nat => PyData.int (i : Int)) := by
  have h : (m : Int) ≤ (sizeLine : Nat) ∧ -(2 ^ 62) ≤ (m : Int) := ⟨by omega, by omega⟩
  show (if (m : Int) ≤ (sizeLine : Nat) ∧ -(2 ^ 62) ≤ (m : Int) then some (rangeD 0 (m : Int).toNat) else none) = _
  rw [if_pos h, Int.toNat_natCast, rangeD_0]
theorem sizeL : sizeLine = 16777216 := rfl
theorem dMax2 (a b : Int) : dMax [.int a, .int b] = some (.int (if b > a then b else a)) := rfl
theorem dMin2 (a b : Int) : dMin [.int a, .int b] = some (.int (if b < a then b else a)) := rfl
theorem sz0 : sized [] = some [] := sized_le (by show 0 ≤ sizeLine; decide)
theorem sz1 {x0 : D} : sized [x0] = some [x0] := sized_le (by show 1 ≤ sizeLine; decide)
theorem sz2 {x0 x1 : D} : sized [x0, x1] = some [x0, x1] := sized_le (by show 2 ≤ sizeLine; decide)
theorem sz3 {x0 x1 x2 : D} : sized [x0, x1, x2] = some [x0, x1, x2] := sized_le (by show 3 ≤ sizeLine; decide)
theorem sz4 {x0 x1 x2 x3 : D} : sized [x0, x1, x2, x3] = some [x0, x1, x2, x3] := sized_le (by show 4 ≤ sizeLine; decide)
theorem sz5 {x0 x1 x2 x3 x4 : D} : sized [x0, x1, x2, x3, x4] = some [x0, x1, x2, x3, x4] := sized_le (by show 5 ≤ sizeLine; decide)
theorem sz6 {x0 x1 x2 x3 x4 x5 : D} : sized [x0, x1, x2, x3, x4, x5] = some [x0, x1, x2, x3, x4, x5] := sized_le (by show 6 ≤ sizeLine; decide)
theorem sz7 {x0 x1 x2 x3 x4 x5 x6 : D} : sized [x0, x1, x2, x3, x4, x5, x6] = some [x0, x1, x2, x3, x4, x5, x6] := sized_le (by show 7 ≤ sizeLine; decide)
theorem dEq_str_same (neg : Bool) (a : Str) : dEq neg (.str a) (.str a) = some (.bool (!neg)) := by
  rw [dEq_str, beq_self_eq_true]
  cases neg <;> rfl
/-! ### texts of data -/
theorem sum_le_mul {k : Nat} : ∀ {l : List Nat}, (∀ x ∈ l, x ≤ k) → l.sum ≤ l.length * k
  | [], _ => by simp
  | x :: l, h => by
    have h1 := h x List.mem_cons_self
    have h2 := sum_le_mul (l := l) fun y hy => h y (List.mem_cons_of_mem _ hy)
    rw [List.sum_cons, List.length_cons, Nat.add_mul]
    omega
theorem shown_list {ds : List D} {k : Nat} (h : ∀ d ∈ ds, d.shown.length ≤ k) : (PyData.shown (.list ds)).length ≤ ds.length * (k + 2) + 3 := by
  have e : PyData.shown (.list ds) = listText (PyData.shownAll ds) := by simp only [PyData.shown]
  rw [e, PyProof.Rows.shownAll_eq_map]
  have h1 := listText_len_le (ds.map PyData.shown)
  have h2 := sum_le_mul (k := k) (l := (ds.map PyData.shown).map (·.length)) (by
    intro x hx
    obtain ⟨y, hy, rfl⟩ := List.mem_map.mp hx
    obtain ⟨d, hd, rfl⟩ := List.mem_map.mp hy
    exact h d hd)
  simp only [List.length_map] at h1 h2
  rw [Nat.mul_add]
  omega
theorem shown_tuple {ds : List D} {k : Nat} (h : ∀ d ∈ ds, d.shown.length ≤ k) : (PyData.shown (.tuple ds)).length ≤ ds.length * (k + 2) + 3 := by
  have e : PyData.shown (.tuple ds) = tupleText (PyData.shownAll ds) := by simp only [PyData.shown]
  rw [e, PyProof.Rows.shownAll_eq_map]
  have h1 := tupleText_len_le (ds.map PyData.shown)
  have h2 := sum_le_mul (k := k) (l := (ds.map PyData.shown).map (·.length)) (by
    intro x hx
    obtain ⟨y, hy, rfl⟩ := List.mem_map.mp hx
    obtain ⟨d, hd, rfl⟩ := List.mem_map.mp hy
    exact h d hd)
  simp only [List.length_map] at h1 h2
  rw [Nat.mul_add]
  omega
theorem showableAll_of : ∀ {ds : List D}, (∀ d ∈ ds, d.showable = true) → PyData.showableAll ds = true
  | [], _ => rfl
  | d :: ds, h => by
    simp only [PyData.showableAll, h d List.mem_cons_self, showableAll_of (ds := ds) fun e he => h e (List.mem_cons_of_mem _ he), Bool.and_self]
theorem showable_int {i : Int} (h : i.natAbs < 2 ^ 1900) : (PyData.int i).showable = true := by
  simp only [PyData.showable, decide_eq_true_eq]
  by_cases c : i.natAbs = 0
  · rw [c]; decide
  · exact Nat.lt_of_lt_of_le ((Nat.log2_lt c).mpr h) (by decide)
theorem shows_of {d : D} (h1 : d.showable = true) (h2 : d.canLay0 = true) (h3 : d.depth ≤ 60) (h4 : d.shown.length ≤ sizeLine) : shows d = true := by
  unfold shows
  rw [h1, h2, decide_eq_true h3, decide_eq_true h4]
  rfl
theorem shows_ints {ns : List Int} (h : ns.length ≤ 1000) (hb : ∀ n ∈ ns, n.natAbs < 10 ^ 100) : shows (.list (ns.map PyData.int)) = true := by
  refine shows_of ?_ (SeqAt.canLay_of_shaped (shaped_ints ns)) ?_ ?_
  · simp only [PyData.showable]
    refine showableAll_of fun d hd => ?_
    obtain ⟨n, hn, rfl⟩ := List.mem_map.mp hd
    exact showable_int (Nat.lt_of_lt_of_le (hb n hn) (by decide))
  · have := depthAll_le (k := 0) (ds := ns.map PyData.int) fun d hd => by
      obtain ⟨p, _, rfl⟩ := List.mem_map.mp hd
      simp [PyData.depth]
    simp only [PyData.depth]
    omega
  · have := shown_list (ds := ns.map PyData.int) (k := 101) (fun d hd => by
      obtain ⟨n, hn, rfl⟩ := List.mem_map.mp hd
      exact shown_int (k := 99) (hb n hn))
    rw [List.length_map] at this
    have := sizeL
    omega
theorem shows_pairs {ps : List (Int × Int)} (h : ps.length ≤ 1000) (hb : ∀ p ∈ ps, p.1.natAbs < 10 ^ 100 ∧ p.2.natAbs < 10 ^ 100) : shows (.list (ps.map pairD)) = true := by
  refine shows_of ?_ (SeqAt.canLay_of_shaped (shaped_pairs ps)) ?_ ?_
  · simp only [PyData.showable]
    refine showableAll_of fun d hd => ?_
    obtain ⟨p, hp, rfl⟩ := List.mem_map.mp hd
    have := hb p hp
    simp only [pairD, PyData.showable, PyData.showableAll, Bool.and_true, Bool.and_eq_true]
    exact ⟨showable_int (Nat.lt_of_lt_of_le this.1 (by decide)), showable_int (Nat.lt_of_lt_of_le this.2 (by decide))⟩
  · have := depthAll_le (k := 1) (ds := ps.map pairD) fun d hd => by
      obtain ⟨p, _, rfl⟩ := List.mem_map.mp hd
      rw [pairD_depth]; exact Nat.le_refl 1
    simp only [PyData.depth]
    omega
  · have := shown_list (ds := ps.map pairD) (k := 209) (fun d hd => by
      obtain ⟨p, hp, rfl⟩ := List.mem_map.mp hd
      have h2 := hb p hp
      exact shown_tuple (ds := [.int p.1, .int p.2]) (k := 101) (by
        intro d hd
        simp at hd
        rcases hd with rfl | rfl
        · exact shown_int (k := 99) h2.1
        · exact shown_int (k := 99) h2.2))
    rw [List.length_map] at this
    have := sizeL
    omega
theorem dRepr_list {ds : List D} (h : shows (.list ds) = true) : dRepr [.list ds] = some (.str (PyData.shown (.list ds))) := by
  show (if shows (.list ds) = true then some (PyData.str (PyData.shown (.list ds))) else none) = _
  rw [if_pos h]
theorem cutD_to {ds : List D} {i : Nat} (h : i ≤ ds.length) : cutD ds none (some (i : Int)) = ds.take i := by
  unfold cutD
  rw [HT.sIx_none, HT.sIx_nat, List.drop_zero, Nat.sub_zero, Nat.min_eq_left h]
/-! ### isinstance -/
theorem isi_list_list {ds : List D} : dIsi "list" [(.list ds)] = some (.bool true) := by
  have e : L2.kitB "list" "list" = some true := by decide +kernel
  show (L2.kitB "list" "list").map PyData.bool = _
  rw [e] <;> rfl
theorem isi_list_tuple {ds : List D} : dIsi "tuple" [(.list ds)] = some (.bool false) := by
  have e : L2.kitB "list" "tuple" = some false := by decide +kernel
  show (L2.kitB "list" "tuple").map PyData.bool = _
  rw [e] <;> rfl
theorem isi_list_int {ds : List D} : dIsi "int" [(.list ds)] = some (.bool false) := by
  have e : L2.kitB "list" "int" = some false := by decide +kernel
  show (L2.kitB "list" "int").map PyData.bool = _
  rw [e] <;> rfl
theorem isi_list_bool {ds : List D} : dIsi "bool" [(.list ds)] = some (.bool false) := by
  have e : L2.kitB "list" "bool" = some false := by decide +kernel
  show (L2.kitB "list" "bool").map PyData.bool = _
  rw [e] <;> rfl
theorem isi_list_str {ds : List D} : dIsi "str" [(.list ds)] = some (.bool false) := by
  have e : L2.kitB "list" "str" = some false := by decide +kernel
  show (L2.kitB "list" "str").map PyData.bool = _
  rw [e] <;> rfl
theorem isi_tuple_list {ds : List D} : dIsi "list" [(.tuple ds)] = some (.bool false) := by
  have e : L2.kitB "tuple" "list" = some false := by decide +kernel
  show (L2.kitB "tuple" "list").map PyData.bool = _
  rw [e] <;> rfl
theorem isi_tuple_tuple {ds : List D} : dIsi "tuple" [(.tuple ds)] = some (.bool true) := by
  have e : L2.kitB "tuple" "tuple" = some true := by decide +kernel
  show (L2.kitB "tuple" "tuple").map PyData.bool = _
  rw [e] <;> rfl
theorem isi_tuple_int {ds : List D} : dIsi "int" [(.tuple ds)] = some (.bool false) := by
  have e : L2.kitB "tuple" "int" = some false := by decide +kernel
  show (L2.kitB "tuple" "int").map PyData.bool = _
  rw [e] <;> rfl
theorem isi_tuple_bool {ds : List D} : dIsi "bool" [(.tuple ds)] = some (.bool false) := by
  have e : L2.kitB "tuple" "bool" = some false := by decide +kernel
  show (L2.kitB "tuple" "bool").map PyData.bool = _
  rw [e] <;> rfl
theorem isi_tuple_str {ds : List D} : dIsi "str" [(.tuple ds)] = some (.bool false) := by
  have e : L2.kitB "tuple" "str" = some false := by decide +kernel
  show (L2.kitB "tuple" "str").map PyData.bool = _
  rw [e] <;> rfl
theorem isi_int_list {i : Int} : dIsi "list" [(.int i)] = some (.bool false) := by
  have e : L2.kitB "int" "list" = some false := by decide +kernel
  show (L2.kitB "int" "list").map PyData.bool = _
  rw [e] <;> rfl
theorem isi_int_tuple {i : Int} : dIsi "tuple" [(.int i)] = some (.bool false) := by
  have e : L2.kitB "int" "tuple" = some false := by decide +kernel
  show (L2.kitB "int" "tuple").map PyData.bool = _
  rw [e] <;> rfl
theorem isi_int_int {i : Int} : dIsi "int" [(.int i)] = some (.bool true) := by
  have e : L2.kitB "int" "int" = some true := by decide +kernel
  show (L2.kitB "int" "int").map PyData.bool = _
  rw [e] <;> rfl
theorem isi_int_bool {i : Int} : dIsi "bool" [(.int i)] = some (.bool false) := by
  have e : L2.kitB "int" "bool" = some false := by decide +kernel
  show (L2.kitB "int" "bool").map PyData.bool = _
  rw [e] <;> rfl
theorem isi_int_str {i : Int} : dIsi "str" [(.int i)] = some (.bool false) := by
  have e : L2.kitB "int" "str" = some false := by decide +kernel
  show (L2.kitB "int" "str").map PyData.bool = _
  rw [e] <;> rfl
theorem isi_bool_list {i : Bool} : dIsi "list" [(.bool i)] = some (.bool false) := by
  have e : L2.kitB "bool" "list" = some false := by decide +kernel
  show (L2.kitB "bool" "list").map PyData.bool = _
  rw [e] <;> rfl
theorem isi_bool_tuple {i : Bool} : dIsi "tuple" [(.bool i)] = some (.bool false) := by
  have e : L2.kitB "bool" "tuple" = some false := by decide +kernel
  show (L2.kitB "bool" "tuple").map PyData.bool = _
  rw [e] <;> rfl
theorem isi_bool_int {i : Bool} : dIsi "int" [(.bool i)] = some (.bool true) := by
  have e : L2.kitB "bool" "int" = some true := by decide +kernel
  show (L2.kitB "bool" "int").map PyData.bool = _
  rw [e] <;> rfl
theorem isi_bool_bool {i : Bool} : dIsi "bool" [(.bool i)] = some (.bool true) := by
  have e : L2.kitB "bool" "bool" = some true := by decide +kernel
  show (L2.kitB "bool" "bool").map PyData.bool = _
  rw [e] <;> rfl
theorem isi_bool_str {i : Bool} : dIsi "str" [(.bool i)] = some (.bool false) := by
  have e : L2.kitB "bool" "str" = some false := by decide +kernel
  show (L2.kitB "bool" "str").map PyData.bool = _
  rw [e] <;> rfl
theorem isi_str_list {i : Str} : dIsi "list" [(.str i)] = some (.bool false) := by
  have e : L2.kitB "str" "list" = some false := by decide +kernel
  show (L2.kitB "str" "list").map PyData.bool = _
  rw [e] <;> rfl
theorem isi_str_tuple {i : Str} : dIsi "tuple" [(.str i)] = some (.bool false) := by
  have e : L2.kitB "str" "tuple" = some false := by decide +kernel
  show (L2.kitB "str" "tuple").map PyData.bool = _
  rw [e] <;> rfl
theorem isi_str_int {i : Str} : dIsi "int" [(.str i)] = some (.bool false) := by
  have e : L2.kitB "str" "int" = some false := by decide +kernel
  show (L2.kitB "str" "int").map PyData.bool = _
  rw [e] <;> rfl
theorem isi_str_bool {i : Str} : dIsi "bool" [(.str i)] = some (.bool false) := by
  have e : L2.kitB "str" "bool" = some false := by decide +kernel
  show (L2.kitB "str" "bool").map PyData.bool = _
  rw [e] <;> rfl
theorem isi_str_str {i : Str} : dIsi "str" [(.str i)] = some (.bool true) := by
  have e : L2.kitB "str" "str" = some true := by decide +kernel
  show (L2.kitB "str" "str").map PyData.bool = _
  rw [e] <;> rfl
theorem isi_NoneType_list  : dIsi "list" [.none] = some (.bool false) := by
  have e : L2.kitB "NoneType" "list" = some false := by decide +kernel
  show (L2.kitB "NoneType" "list").map PyData.bool = _
  rw [e] <;> rfl
theorem isi_NoneType_tuple  : dIsi "tuple" [.none] = some (.bool false) := by
  have e : L2.kitB "NoneType" "tuple" = some false := by decide +kernel
  show (L2.kitB "NoneType" "tuple").map PyData.bool = _
  rw [e] <;> rfl
theorem isi_NoneType_int  : dIsi "int" [.none] = some (.bool false) := by
  have e : L2.kitB "NoneType" "int" = some false := by decide +kernel
  show (L2.kitB "NoneType" "int").map PyData.bool = _
  rw [e] <;> rfl
theorem isi_NoneType_bool  : dIsi "bool" [.none] = some (.bool false) := by
  have e : L2.kitB "NoneType" "bool" = some false := by decide +kernel
  show (L2.kitB "NoneType" "bool").map PyData.bool = _
  rw [e] <;> rfl
theorem isi_NoneType_str  : dIsi "str" [.none] = some (.bool false) := by
  have e : L2.kitB "NoneType" "str" = some false := by decide +kernel
  show (L2.kitB "NoneType" "str").map PyData.bool = _
  rw [e] <;> rfl
theorem dIx_p0 (p : Int × Int) : dIx (pairD p) (.int 0) = some (.int p.1) := atI_0
theorem dIx_p1 (p : Int × Int) : dIx (pairD p) (.int 1) = some (.int p.2) := atI_1
theorem dIx_t0 (a b : D) : dIx (.tuple [a, b]) (.int 0) = some a := atI_0
theorem dIx_t1 (a b : D) : dIx (.tuple [a, b]) (.int 1) = some b := atI_1
theorem wp_get {g : List D → Option D} {F : En → Option Out} {env : En} {ds : List D} {r : D} (h : g ds = (F env).bind resP) (w : Wp (F env) fun o => resP o = some r) : g ds = some r := by
  obtain ⟨o, e, k⟩ := w
  rw [h, e, Option.bind_some, k]
theorem dMul_list {a : List D} {k : Int} (h0 : -(2 ^ 63) ≤ k) (h1 : k < 2 ^ 63) (h : a.length * k.toNat ≤ sizeLine) : dMul (.list a) (.int k) = some (.list (repD k.toNat a)) := by
  show (if -(2 ^ 63) ≤ k ∧ k < 2 ^ 63 ∧ a.length * k.toNat ≤ sizeLine then some (PyData.list (repD k.toNat a)) else none) = _
  rw [if_pos ⟨h0, h1, h⟩]
end CS

namespace CSk60
open PySem CS
/-- what a source of drawn numbers holds: at most n draws were made behind its first part -/
def Src (n : Nat) (ds : List D) : Prop := ∃ s0 s1 s2 : Int, ds = [.int s0, .int s1, .int s2] ∧ 0 ≤ s0 ∧ 0 ≤ s1 ∧ s1 < 2 ^ 200 ∧ 0 ≤ s2 ∧ s2 ≤ n
theorem Src.mono {n k : Nat} {ds : List D} (h : Src n ds) (e : n ≤ k) : Src k ds := by
  obtain ⟨a, b, c, h1, h2, h3, h4, h5, h6⟩ := h
  exact ⟨a, b, c, h1, h2, h3, h4, h5, by omega⟩
theorem draw {n : Nat} {ds : List D} {c : Int} (h : Src n ds) (hn : n < 2 ^ 40) (hc : 0 < c) (hc2 : c < 2 ^ 190) : ∃ r ds', g_law_draw ds [.int c] = some (.int r, ds') ∧ 0 ≤ r ∧ r < c ∧ Src (n + 1) ds' := by
  obtain ⟨s0, s1, s2, rfl, h0, h1, h2, h3, h4⟩ := h
  have ec : c.natAbs < 2 ^ 200 := by omega
  by_cases hs : 0 < s0
  · refine ⟨s0 % c, [.int (s0 / c), .int s1, .int s2], ?_, Int.emod_nonneg _ (by omega), Int.emod_lt_of_pos _ hc, s0 / c, s1, s2, rfl, Int.ediv_nonneg h0 (by omega), h1, h2, h3, by omega⟩
    show (F_law_draw [some (.list [.int s0, .int s1, .int s2]), some (.int c), none, none]).bind resM = _
    unfold F_law_draw
    simp only [fSeq, fNext, sIf, sIfP, sAsg, sAsgP, sDrop, sPar, sPar3, sAug, sRet, sRetP, sRetO, sForget, sAsgF, sMut, sSetI, setAt, fIxO, fIxP, dAt, fFlat, gCallM, gPop, f2, g2, f1, fNil, fCons, gNilE, gConsE, fCall, gCall, fLst, fTup, gLstE, gTupE, fTest, gTest, fAnd, fOr, fNot, gAnd, gOr, gNot, fIf, gIf, fAndV, fOrV, fNotV, fChain, fRev, tgTup, tgCons, tgNil, up, asB, asL, asT, asI, asS, enumA, zipA, setE, Option.bind_some, Option.bind_none, Option.map_some, Option.map_none, owns, List.mapM_cons, List.mapM_nil, List.set_cons_zero, List.set_cons_succ, gv_0, gv_1, gv_2, gv_3, gv_4, gv_5, gv_6, gv_7, gv_8, gv_9, gv_10, gv_11, gv_12, gv_13, ev_pure, ev_bind, wipeE, dI0, resP, resM, resF, dCmp, dGt, dLt, dLe, dGe, ix30, ix31, ix32, List.length_cons, List.length_nil, Nat.zero_add, Nat.reduceAdd, List.set_cons_zero, Bool.true_eq_false, Bool.false_eq_true, if_true, if_false, ite_true, ite_false, decide_true, decide_false, dInt, atI_0, atI_1, atI_2, dMod_pos hc, dFdiv_pos hc ec, decide_eq_true hs]
  · have k1 : (s1 + 900007 * (s2 + 1)).natAbs < 2 ^ 1000 := by omega
    have m1 : dMul (.int 900007) (.int (s2 + 1)) = some (.int (900007 * (s2 + 1))) := dMul_ok (mulOk_l (by decide))
    have p39 : dPow (.int 10) (.int 39) = some (.int (10 ^ 39)) := dPowL (by decide) rfl
    have p40 : dPow (.int 10) (.int 40) = some (.int (10 ^ 40)) := dPowL (by decide) rfl
    have q1 : (0 : Int) < 10 ^ 39 + 3 := by decide
    have q2 : (0 : Int) < 10 ^ 40 + 121 := by decide
    generalize hx : (s1 + 900007 * (s2 + 1)) ^ 3 % (10 ^ 39 + 3) = x
    have x1 : 0 ≤ x := hx ▸ Int.emod_nonneg _ (by omega)
    have x2 : x < 10 ^ 39 + 3 := hx ▸ Int.emod_lt_of_pos _ q1
    have m2 : dMul (.int x) (.int (s2 + 1)) = some (.int (x * (s2 + 1))) := dMul_ok (mulOk_r (by omega))
    have k2 : (x * (s2 + 1) + 60013).natAbs < 2 ^ 1000 := by
      have : x * (s2 + 1) ≤ (10 ^ 39 + 3) * (2 ^ 41) := Int.mul_le_mul (by omega) (by omega) (by omega) (by omega)
      have : 0 ≤ x * (s2 + 1) := Int.mul_nonneg x1 (by omega)
      omega
    generalize hy : (x * (s2 + 1) + 60013) ^ 3 % (10 ^ 40 + 121) = y
    refine ⟨y / 104729 % c, [.int s0, .int s1, .int (s2 + 1)], ?_, Int.emod_nonneg _ (by omega), Int.emod_lt_of_pos _ hc, s0, s1, s2 + 1, rfl, h0, h1, h2, by omega, by omega⟩
    show (F_law_draw [some (.list [.int s0, .int s1, .int s2]), some (.int c), none, none]).bind resM = _
    unfold F_law_draw
    simp only [fSeq, fNext, sIf, sIfP, sAsg, sAsgP, sDrop, sPar, sPar3, sAug, sRet, sRetP, sRetO, sForget, sAsgF, sMut, sSetI, setAt, fIxO, fIxP, dAt, fFlat, gCallM, gPop, f2, g2, f1, fNil, fCons, gNilE, gConsE, fCall, gCall, fLst, fTup, gLstE, gTupE, fTest, gTest, fAnd, fOr, fNot, gAnd, gOr, gNot, fIf, gIf, fAndV, fOrV, fNotV, fChain, fRev, tgTup, tgCons, tgNil, up, asB, asL, asT, asI, asS, enumA, zipA, setE, Option.bind_some, Option.bind_none, Option.map_some, Option.map_none, owns, List.mapM_cons, List.mapM_nil, List.set_cons_zero, List.set_cons_succ, gv_0, gv_1, gv_2, gv_3, gv_4, gv_5, gv_6, gv_7, gv_8, gv_9, gv_10, gv_11, gv_12, gv_13, ev_pure, ev_bind, wipeE, dI0, resP, resM, resF, dCmp, dGt, dLt, dLe, dGe, ix30, ix31, ix32, List.length_cons, List.length_nil, Nat.zero_add, Nat.reduceAdd, List.set_cons_zero, Bool.true_eq_false, Bool.false_eq_true, if_true, if_false, ite_true, ite_false, decide_true, decide_false, dInt, atI_0, atI_1, atI_2, dMod_pos hc, dFdiv_pos (show (0 : Int) < 104729 by decide) (by decide), decide_eq_false hs, dAdd_i, m1, m2, dPow3 k1, dPow3 k2, p39, p40, dMod_pos q1, dMod_pos q2, hx, hy]
end CSk60

namespace CSk60
open PySem CS
theorem source {z k : Int} (hk : 0 ≤ k) (hk2 : k ≤ 63) : ∃ ds, g_law_source [.int z, .int k] = some (.list ds) ∧ Src 0 ds := by
  have q1 : (0 : Int) < 10 ^ 44 + 31 := by decide
  have p18 : dPow (.int 10) (.int 18) = some (.int (10 ^ 18)) := dPowL (by decide) rfl
  have p44 : dPow (.int 10) (.int 44) = some (.int (10 ^ 44)) := dPowL (by decide) rfl
  generalize hx : (if z < 0 then -z else z) % (10 ^ 44 + 31) = x
  have x1 : 0 ≤ x := hx ▸ Int.emod_nonneg _ (by omega)
  have x2 : x < 10 ^ 44 + 31 := hx ▸ Int.emod_lt_of_pos _ q1
  have m1 : dMul (.int x) (.int 97) = some (.int (x * 97)) := dMul_ok (mulOk_r (by decide))
  have m2 : dMul (.int 2) (.int k) = some (.int (2 * k)) := dMul_ok (mulOk_l (by decide))
  have hb : ∃ b : Int, 0 ≤ b ∧ b ≤ 1 ∧ (if decide (z < 0) = true then (1 : Int) else 0) = b := ⟨_, by split <;> omega, by split <;> omega, rfl⟩
  obtain ⟨b, b1, b2, hb⟩ := hb
  have hm : ∃ s : Int, 0 ≤ s ∧ (if (if z < 0 then -z else z) - 10 ^ 18 > 0 then (if z < 0 then -z else z) - 10 ^ 18 else 0) = s := ⟨_, by split <;> omega, rfl⟩
  obtain ⟨s, s1, hm⟩ := hm
  refine ⟨[.int s, .int (x * 97 + 2 * k + b), .int 0], ?_, s, x * 97 + 2 * k + b, 0, rfl, s1, by omega, by omega, by omega, by omega⟩
  show (F_law_source [some (.int z), some (.int k), none]).bind resF = _
  unfold F_law_source
  simp only [fSeq, fNext, sIf, sIfP, sAsg, sAsgP, sDrop, sPar, sPar3, sAug, sRet, sRetP, sRetO, sForget, sAsgF, sMut, sSetI, setAt, fIxO, fIxP, dAt, fFlat, gCallM, gPop, f2, g2, f1, fNil, fCons, gNilE, gConsE, fCall, gCall, fLst, fTup, gLstE, gTupE, fTest, gTest, fAnd, fOr, fNot, gAnd, gOr, gNot, fIf, gIf, fAndV, fOrV, fNotV, fChain, fRev, tgTup, tgCons, tgNil, up, asB, asL, asT, asI, asS, enumA, zipA, setE, Option.bind_some, Option.bind_none, Option.map_some, Option.map_none, owns, List.mapM_cons, List.mapM_nil, List.set_cons_zero, List.set_cons_succ, gv_0, gv_1, gv_2, gv_3, gv_4, gv_5, gv_6, gv_7, gv_8, gv_9, gv_10, gv_11, gv_12, gv_13, ev_pure, ev_bind, wipeE, dI0, resP, resM, resF, dCmp, dGt, dLt, dLe, dGe, ix30, ix31, ix32, List.length_cons, List.length_nil, Nat.zero_add, Nat.reduceAdd, List.set_cons_zero, Bool.true_eq_false, Bool.false_eq_true, if_true, if_false, ite_true, ite_false, decide_true, decide_false, dInt, sz0, sz1, sz2, sz3, sz4, sz5, sz6, sz7, dAbs, dMax2, p18, p44, dMod_pos q1, dAdd_i, hx, m1, m2, hm, hb]
/-- the spans -/
def SpOk (B : Int) (p : Int × Int) : Prop := p.1 ≤ p.2 ∧ -B ≤ p.1 ∧ p.2 ≤ B
def BW (i : Nat) : Int := (i + 1) * 10 ^ 30
theorem gAppend_p {sp : List (Int × Int)} {p : Int × Int} (h : sp.length < sizeLine) : gAppend (sp.map pairD) (pairD p) = some ((sp ++ [p]).map pairD) := by
  rw [gAppend_ok (by rw [List.length_map]; exact h), List.map_append]
  rfl
theorem pick4 {a b : Int} {w : Int} {i : Int} (h : 0 ≤ i) (h2 : i < 4) (ha : 0 ≤ a ∧ a ≤ 2 * w + 2) (hb : 0 ≤ b ∧ b ≤ 2) (hw : 0 ≤ w) : ∃ l, L2.atI [PyData.int a, PyData.int b, PyData.int 0, PyData.int w] i = some (.int l) ∧ 0 ≤ l ∧ l ≤ 2 * w + 2 := by
  have : i = 0 ∨ i = 1 ∨ i = 2 ∨ i = 3 := by omega
  rcases this with rfl | rfl | rfl | rfl
  · exact ⟨_, atI_0, ha⟩
  · exact ⟨_, atI_1, by omega, by omega⟩
  · exact ⟨_, atI_2, by omega, by omega⟩
  · exact ⟨_, atI_3, by omega, by omega⟩
theorem pick3 {x y z : D} {i : Int} (h : 0 ≤ i) (h2 : i < 3) : ∃ l, L2.atI [x, y, z] i = some l ∧ (l = x ∨ l = y ∨ l = z) := by
  have : i = 0 ∨ i = 1 ∨ i = 2 := by omega
  rcases this with rfl | rfl | rfl
  · exact ⟨_, atI_0, .inl rfl⟩
  · exact ⟨_, atI_1, .inr (.inl rfl)⟩
  · exact ⟨_, atI_2, .inr (.inr rfl)⟩
theorem pickP {sp : List (Int × Int)} {i : Int} (h : 0 ≤ i) (h2 : i < sp.length) : ∃ p ∈ sp, L2.atI (sp.map pairD) i = some (pairD p) := by
  obtain ⟨j, rfl⟩ := Int.eq_ofNat_of_zero_le h
  have hj : j < sp.length := by omega
  refine ⟨sp[j], List.getElem_mem hj, L2.atI_nat ?_⟩
  rw [List.getElem?_map, List.getElem?_eq_getElem hj]
  rfl
/-- one turn -/
theorem spans_turn {n m i : Nat} {w : Int} {src : List D} {sp : List (Int × Int)} {x : D} (h : Src n src) (hn : n + 6 < 2 ^ 40) (hi : sp.length = i) (hm : i < 1000) (hw : 0 ≤ w) (hw2 : w ≤ 10 ^ 29) (hs : ∀ p ∈ sp, SpOk (BW i) p) :
    Wp (B1_law_spans [some (.list src), some (.int m), some (.int w), some (.list (sp.map pairD)), some x, none, none, none, none, none]) (Turn fun e => ∃ (sp' : List (Int × Int)) (src' : List D), e = [some (.list src'), some (.int m), some (.int w), some (.list (sp'.map pairD)), none, none, none, none, none, none] ∧ sp'.length = i + 1 ∧ (∀ p ∈ sp', SpOk (BW (i + 1)) p) ∧ Src (n + 6) src') := by
  have mw : dMul (.int 2) (.int w) = some (.int (2 * w)) := dMul_ok (mulOk_l (by decide))
  obtain ⟨r1, c1, d1, a1, b1, h1⟩ := draw (c := 2 * w + 1) h (by omega) (by omega) (by omega)
  obtain ⟨r2, c2, d2, a2, b2, h2⟩ := draw (c := 2 * w + 1) h1 (by omega) (by omega) (by omega)
  obtain ⟨r3, c3, d3, a3, b3, h3⟩ := draw (c := 3) h2 (by omega) (by omega) (by omega)
  obtain ⟨r4, c4, d4, a4, b4, h4⟩ := draw (c := 4) h3 (by omega) (by omega) (by omega)
  obtain ⟨r5, c5, d5, a5, b5, h5⟩ := draw (c := 6) h4 (by omega) (by omega) (by omega)
  obtain ⟨l, hl, l1, l2⟩ := pick4 (a := r2) (b := r3) (w := w) a4 b4 ⟨a2, by omega⟩ ⟨a3, by omega⟩ hw
  have hsz : sp.length < sizeLine := by have := sizeL; omega
  have hbw : BW (i + 1) = BW i + 10 ^ 30 := by unfold BW; omega
  have hbw0 : 10 ^ 30 ≤ BW i := by unfold BW; omega
  unfold B1_law_spans
  refine wp_forget ?_
  refine wp_st [some (.list c1), some (.int m), some (.int w), some (.list (sp.map pairD)), some x, some (.int (r1 - w)), none, none, none, none] (by simp only [fSeq, fNext, sIf, sIfP, sAsg, sAsgP, sDrop, sPar, sPar3, sAug, sRet, sRetP, sRetO, sForget, sAsgF, sMut, sSetI, setAt, fIxO, fIxP, dAt, fFlat, gCallM, gPop, f2, g2, f1, fNil, fCons, gNilE, gConsE, fCall, gCall, fLst, fTup, gLstE, gTupE, fTest, gTest, fAnd, fOr, fNot, gAnd, gOr, gNot, fIf, gIf, fAndV, fOrV, fNotV, fChain, fRev, tgTup, tgCons, tgNil, up, asB, asL, asT, asI, asS, enumA, zipA, setE, Option.bind_some, Option.bind_none, Option.map_some, Option.map_none, owns, List.mapM_cons, List.mapM_nil, List.set_cons_zero, List.set_cons_succ, gv_0, gv_1, gv_2, gv_3, gv_4, gv_5, gv_6, gv_7, gv_8, gv_9, gv_10, gv_11, gv_12, gv_13, ev_pure, ev_bind, wipeE, dI0, resP, resM, resF, dCmp, dGt, dLt, dLe, dGe, ix30, ix31, ix32, List.length_cons, List.length_nil, Nat.zero_add, Nat.reduceAdd, List.set_cons_zero, Bool.true_eq_false, Bool.false_eq_true, if_true, if_false, ite_true, ite_false, decide_true, decide_false, dInt, sz0, sz1, sz2, sz3, sz4, sz5, sz6, sz7, mw, dAdd_i, d1]) ?_
  refine wp_st [some (.list c4), some (.int m), some (.int w), some (.list (sp.map pairD)), some x, some (.int (r1 - w)), some (.int l), none, none, none] (by simp only [fSeq, fNext, sIf, sIfP, sAsg, sAsgP, sDrop, sPar, sPar3, sAug, sRet, sRetP, sRetO, sForget, sAsgF, sMut, sSetI, setAt, fIxO, fIxP, dAt, fFlat, gCallM, gPop, f2, g2, f1, fNil, fCons, gNilE, gConsE, fCall, gCall, fLst, fTup, gLstE, gTupE, fTest, gTest, fAnd, fOr, fNot, gAnd, gOr, gNot, fIf, gIf, fAndV, fOrV, fNotV, fChain, fRev, tgTup, tgCons, tgNil, up, asB, asL, asT, asI, asS, enumA, zipA, setE, Option.bind_some, Option.bind_none, Option.map_some, Option.map_none, owns, List.mapM_cons, List.mapM_nil, List.set_cons_zero, List.set_cons_succ, gv_0, gv_1, gv_2, gv_3, gv_4, gv_5, gv_6, gv_7, gv_8, gv_9, gv_10, gv_11, gv_12, gv_13, ev_pure, ev_bind, wipeE, dI0, resP, resM, resF, dCmp, dGt, dLt, dLe, dGe, ix30, ix31, ix32, List.length_cons, List.length_nil, Nat.zero_add, Nat.reduceAdd, List.set_cons_zero, Bool.true_eq_false, Bool.false_eq_true, if_true, if_false, ite_true, ite_false, decide_true, decide_false, dInt, sz0, sz1, sz2, sz3, sz4, sz5, sz6, sz7, mw, dAdd_i, d2, d3, d4, dIx, hl]) ?_
  refine wp_st [some (.list c5), some (.int m), some (.int w), some (.list (sp.map pairD)), some x, some (.int (r1 - w)), some (.int l), some (pairD (r1 - w, r1 - w + l)), some (.int r5), none] (by simp only [fSeq, fNext, sIf, sIfP, sAsg, sAsgP, sDrop, sPar, sPar3, sAug, sRet, sRetP, sRetO, sForget, sAsgF, sMut, sSetI, setAt, fIxO, fIxP, dAt, fFlat, gCallM, gPop, f2, g2, f1, fNil, fCons, gNilE, gConsE, fCall, gCall, fLst, fTup, gLstE, gTupE, fTest, gTest, fAnd, fOr, fNot, gAnd, gOr, gNot, fIf, gIf, fAndV, fOrV, fNotV, fChain, fRev, tgTup, tgCons, tgNil, up, asB, asL, asT, asI, asS, enumA, zipA, setE, Option.bind_some, Option.bind_none, Option.map_some, Option.map_none, owns, List.mapM_cons, List.mapM_nil, List.set_cons_zero, List.set_cons_succ, gv_0, gv_1, gv_2, gv_3, gv_4, gv_5, gv_6, gv_7, gv_8, gv_9, gv_10, gv_11, gv_12, gv_13, ev_pure, ev_bind, wipeE, dI0, resP, resM, resF, dCmp, dGt, dLt, dLe, dGe, ix30, ix31, ix32, List.length_cons, List.length_nil, Nat.zero_add, Nat.reduceAdd, List.set_cons_zero, Bool.true_eq_false, Bool.false_eq_true, if_true, if_false, ite_true, ite_false, decide_true, decide_false, dInt, sz0, sz1, sz2, sz3, sz4, sz5, sz6, sz7, dAdd_i, d5, pairD]) ?_
  have fin : ∀ (q : Int × Int) (src' : List D) (y : Option D), SpOk (BW (i + 1)) q → Src (n + 6) src' → Wp (sMut 3 gAppend (up (gv 7)) [some (.list src'), some (.int m), some (.int w), some (.list (sp.map pairD)), some x, some (.int (r1 - w)), some (.int l), some (pairD q), some (.int r5), y])
      (Turn fun e => ∃ (sp' : List (Int × Int)) (src' : List D), wipeE e [4, 5, 6, 7, 8, 9] = [some (.list src'), some (.int m), some (.int w), some (.list (sp'.map pairD)), none, none, none, none, none, none] ∧ sp'.length = i + 1 ∧ (∀ p ∈ sp', SpOk (BW (i + 1)) p) ∧ Src (n + 6) src') := by
    intro q src' y hq hsrc
    refine Wp.of (a := .nx [some (.list src'), some (.int m), some (.int w), some (.list ((sp ++ [q]).map pairD)), some x, some (.int (r1 - w)), some (.int l), some (pairD q), some (.int r5), y]) (by simp only [fSeq, fNext, sIf, sIfP, sAsg, sAsgP, sDrop, sPar, sPar3, sAug, sRet, sRetP, sRetO, sForget, sAsgF, sMut, sSetI, setAt, fIxO, fIxP, dAt, fFlat, gCallM, gPop, f2, g2, f1, fNil, fCons, gNilE, gConsE, fCall, gCall, fLst, fTup, gLstE, gTupE, fTest, gTest, fAnd, fOr, fNot, gAnd, gOr, gNot, fIf, gIf, fAndV, fOrV, fNotV, fChain, fRev, tgTup, tgCons, tgNil, up, asB, asL, asT, asI, asS, enumA, zipA, setE, Option.bind_some, Option.bind_none, Option.map_some, Option.map_none, owns, List.mapM_cons, List.mapM_nil, List.set_cons_zero, List.set_cons_succ, gv_0, gv_1, gv_2, gv_3, gv_4, gv_5, gv_6, gv_7, gv_8, gv_9, gv_10, gv_11, gv_12, gv_13, ev_pure, ev_bind, wipeE, dI0, resP, resM, resF, dCmp, dGt, dLt, dLe, dGe, ix30, ix31, ix32, List.length_cons, List.length_nil, Nat.zero_add, Nat.reduceAdd, List.set_cons_zero, Bool.true_eq_false, Bool.false_eq_true, if_true, if_false, ite_true, ite_false, decide_true, decide_false, dInt, sz0, sz1, sz2, sz3, sz4, sz5, sz6, sz7, gAppend_p hsz]) ?_
    refine ⟨sp ++ [q], src', by simp only [fSeq, fNext, sIf, sIfP, sAsg, sAsgP, sDrop, sPar, sPar3, sAug, sRet, sRetP, sRetO, sForget, sAsgF, sMut, sSetI, setAt, fIxO, fIxP, dAt, fFlat, gCallM, gPop, f2, g2, f1, fNil, fCons, gNilE, gConsE, fCall, gCall, fLst, fTup, gLstE, gTupE, fTest, gTest, fAnd, fOr, fNot, gAnd, gOr, gNot, fIf, gIf, fAndV, fOrV, fNotV, fChain, fRev, tgTup, tgCons, tgNil, up, asB, asL, asT, asI, asS, enumA, zipA, setE, Option.bind_some, Option.bind_none, Option.map_some, Option.map_none, owns, List.mapM_cons, List.mapM_nil, List.set_cons_zero, List.set_cons_succ, gv_0, gv_1, gv_2, gv_3, gv_4, gv_5, gv_6, gv_7, gv_8, gv_9, gv_10, gv_11, gv_12, gv_13, ev_pure, ev_bind, wipeE, dI0, resP, resM, resF, dCmp, dGt, dLt, dLe, dGe, ix30, ix31, ix32, List.length_cons, List.length_nil, Nat.zero_add, Nat.reduceAdd, List.set_cons_zero, Bool.true_eq_false, Bool.false_eq_true, if_true, if_false, ite_true, ite_false, decide_true, decide_false, dInt, sz0, sz1, sz2, sz3, sz4, sz5, sz6, sz7], by simp [hi], fun p hp => ?_, hsrc⟩
    rcases List.mem_append.mp hp with z | z
    · obtain ⟨k1, k2, k3⟩ := hs p z
      exact ⟨k1, by omega, by omega⟩
    · simp at z; subst z; exact hq
  refine wp_seq ?_
  refine wp_ifP (!(sp.map pairD).isEmpty && decide (2 < r5)) (by
    simp only [fAnd, fTest, f2, gv_3, fLst, fNil, sz0, Option.bind_some, Option.map_some, dEq_nil (shaped_pairs sp), asB, if_true, gv_8, dGt, dCmp]
    cases (sp.map pairD).isEmpty <;> simp) ?_ ?_
  · intro hc
    rw [Bool.and_eq_true] at hc
    have hne : 0 < sp.length := by
      cases sp with
      | nil => simp at hc
      | cons a b => simp
    have h5' : 2 < r5 := by simpa using hc.2
    obtain ⟨r6, c6, d6, a6, b6, h6⟩ := draw (c := (sp.length : Int)) h5 (by omega) (by omega) (by omega)
    obtain ⟨p, hp, hpe⟩ := pickP a6 b6
    obtain ⟨k1, k2, k3⟩ := hs p hp
    refine wp_st [some (.list c6), some (.int m), some (.int w), some (.list (sp.map pairD)), some x, some (.int (r1 - w)), some (.int l), some (pairD (r1 - w, r1 - w + l)), some (.int r5), some (pairD p)] (by simp only [fSeq, fNext, sIf, sIfP, sAsg, sAsgP, sDrop, sPar, sPar3, sAug, sRet, sRetP, sRetO, sForget, sAsgF, sMut, sSetI, setAt, fIxO, fIxP, dAt, fFlat, gCallM, gPop, f2, g2, f1, fNil, fCons, gNilE, gConsE, fCall, gCall, fLst, fTup, gLstE, gTupE, fTest, gTest, fAnd, fOr, fNot, gAnd, gOr, gNot, fIf, gIf, fAndV, fOrV, fNotV, fChain, fRev, tgTup, tgCons, tgNil, up, asB, asL, asT, asI, asS, enumA, zipA, setE, Option.bind_some, Option.bind_none, Option.map_some, Option.map_none, owns, List.mapM_cons, List.mapM_nil, List.set_cons_zero, List.set_cons_succ, gv_0, gv_1, gv_2, gv_3, gv_4, gv_5, gv_6, gv_7, gv_8, gv_9, gv_10, gv_11, gv_12, gv_13, ev_pure, ev_bind, wipeE, dI0, resP, resM, resF, dCmp, dGt, dLt, dLe, dGe, ix30, ix31, ix32, List.length_cons, List.length_nil, Nat.zero_add, Nat.reduceAdd, List.set_cons_zero, Bool.true_eq_false, Bool.false_eq_true, if_true, if_false, ite_true, ite_false, decide_true, decide_false, dInt, sz0, sz1, sz2, sz3, sz4, sz5, sz6, sz7, dLen, flat, List.length_map, d6, hpe]) ?_
    obtain ⟨z, hz, hz2⟩ := pick3 (x := pairD p) (y := pairD (p.1, p.1 + l)) (z := pairD (p.2 - l, p.2)) (i := r5 - 3) (by omega) (by omega)
    have hq : ∃ q, z = pairD q ∧ SpOk (BW (i + 1)) q := by
      rcases hz2 with rfl | rfl | rfl
      · exact ⟨_, rfl, k1, by omega, by omega⟩
      · exact ⟨_, rfl, by show p.1 ≤ p.1 + l; omega, by show -BW (i + 1) ≤ p.1; omega, by show p.1 + l ≤ BW (i + 1); omega⟩
      · exact ⟨_, rfl, by show p.2 - l ≤ p.2; omega, by show -BW (i + 1) ≤ p.2 - l; omega, by show p.2 ≤ BW (i + 1); omega⟩
    obtain ⟨q, rfl, hq⟩ := hq
    refine Wp.of (a := .nx [some (.list c6), some (.int m), some (.int w), some (.list (sp.map pairD)), some x, some (.int (r1 - w)), some (.int l), some (pairD q), some (.int r5), some (pairD p)]) ?_ ?_
    · have e0 : dIx (pairD p) (.int 0) = some (.int p.1) := atI_0
      have e1 : dIx (pairD p) (.int 1) = some (.int p.2) := atI_1
      have hz' : dIx (.list [pairD p, .tuple [.int p.1, .int (p.1 + l)], .tuple [.int (p.2 - l), .int p.2]]) (.int (r5 - 3)) = some (pairD q) := hz
      simp only [fSeq, fNext, sIf, sIfP, sAsg, sAsgP, sDrop, sPar, sPar3, sAug, sRet, sRetP, sRetO, sForget, sAsgF, sMut, sSetI, setAt, fIxO, fIxP, dAt, fFlat, gCallM, gPop, f2, g2, f1, fNil, fCons, gNilE, gConsE, fCall, gCall, fLst, fTup, gLstE, gTupE, fTest, gTest, fAnd, fOr, fNot, gAnd, gOr, gNot, fIf, gIf, fAndV, fOrV, fNotV, fChain, fRev, tgTup, tgCons, tgNil, up, asB, asL, asT, asI, asS, enumA, zipA, setE, Option.bind_some, Option.bind_none, Option.map_some, Option.map_none, owns, List.mapM_cons, List.mapM_nil, List.set_cons_zero, List.set_cons_succ, gv_0, gv_1, gv_2, gv_3, gv_4, gv_5, gv_6, gv_7, gv_8, gv_9, gv_10, gv_11, gv_12, gv_13, ev_pure, ev_bind, wipeE, dI0, resP, resM, resF, dCmp, dGt, dLt, dLe, dGe, ix30, ix31, ix32, List.length_cons, List.length_nil, Nat.zero_add, Nat.reduceAdd, List.set_cons_zero, Bool.true_eq_false, Bool.false_eq_true, if_true, if_false, ite_true, ite_false, decide_true, decide_false, dInt, sz0, sz1, sz2, sz3, sz4, sz5, sz6, sz7, e0, e1, dAdd_i, hz']
    · exact fin q c6 _ hq h6
  · intro _
    refine Wp.of (a := .nx [some (.list c5), some (.int m), some (.int w), some (.list (sp.map pairD)), some x, some (.int (r1 - w)), some (.int l), some (pairD (r1 - w, r1 - w + l)), some (.int r5), none]) rfl ?_
    exact fin (r1 - w, r1 - w + l) c5 none ⟨by show r1 - w ≤ r1 - w + l; omega, by show -BW (i + 1) ≤ r1 - w; omega, by show r1 - w + l ≤ BW (i + 1); omega⟩ (h5.mono (by omega))
theorem spans {n m : Nat} {w : Int} {src : List D} (h : Src n src) (hn : n + 6 * m < 2 ^ 39) (hm : m ≤ 1000) (hw : 0 ≤ w) (hw2 : w ≤ 10 ^ 29) :
    ∃ (sp : List (Int × Int)) (src' : List D), g_law_spans src [.int m, .int w] = some (.list (sp.map pairD), src') ∧ sp.length = m ∧ (∀ p ∈ sp, SpOk (BW m) p) ∧ Src (n + 6 * m) src' := by
  have key : Wp (F_law_spans [some (.list src), some (.int m), some (.int w), none, none, none, none, none, none, none]) (fun o => ∃ (sp : List (Int × Int)) (src' : List D), resM o = some (.list (sp.map pairD), src') ∧ sp.length = m ∧ (∀ p ∈ sp, SpOk (BW m) p) ∧ Src (n + 6 * m) src') := by
    unfold F_law_spans
    refine wp_st [some (.list src), some (.int m), some (.int w), some (.list []), none, none, none, none, none, none] (by simp only [fSeq, fNext, sIf, sIfP, sAsg, sAsgP, sDrop, sPar, sPar3, sAug, sRet, sRetP, sRetO, sForget, sAsgF, sMut, sSetI, setAt, fIxO, fIxP, dAt, fFlat, gCallM, gPop, f2, g2, f1, fNil, fCons, gNilE, gConsE, fCall, gCall, fLst, fTup, gLstE, gTupE, fTest, gTest, fAnd, fOr, fNot, gAnd, gOr, gNot, fIf, gIf, fAndV, fOrV, fNotV, fChain, fRev, tgTup, tgCons, tgNil, up, asB, asL, asT, asI, asS, enumA, zipA, setE, Option.bind_some, Option.bind_none, Option.map_some, Option.map_none, owns, List.mapM_cons, List.mapM_nil, List.set_cons_zero, List.set_cons_succ, gv_0, gv_1, gv_2, gv_3, gv_4, gv_5, gv_6, gv_7, gv_8, gv_9, gv_10, gv_11, gv_12, gv_13, ev_pure, ev_bind, wipeE, dI0, resP, resM, resF, dCmp, dGt, dLt, dLe, dGe, ix30, ix31, ix32, List.length_cons, List.length_nil, Nat.zero_add, Nat.reduceAdd, List.set_cons_zero, Bool.true_eq_false, Bool.false_eq_true, if_true, if_false, ite_true, ite_false, decide_true, decide_false, dInt, sz0, sz1, sz2, sz3, sz4, sz5, sz6, sz7, Nat.reduceLT]) ?_
    refine wp_seq (wp_for (fun i : Nat => PyData.int (i : Int)) (List.range m) (fun p e => ∃ (sp : List (Int × Int)) (src' : List D), e = [some (.list src'), some (.int m), some (.int w), some (.list (sp.map pairD)), none, none, none, none, none, none] ∧ sp.length = p.length ∧ (∀ x ∈ sp, SpOk (BW p.length) x) ∧ Src (n + 6 * p.length) src')
      (env1 := [some (.list src), some (.int m), some (.int w), some (.list []), none, none, none, none, none, none]) (by simp only [fSeq, fNext, sIf, sIfP, sAsg, sAsgP, sDrop, sPar, sPar3, sAug, sRet, sRetP, sRetO, sForget, sAsgF, sMut, sSetI, setAt, fIxO, fIxP, dAt, fFlat, gCallM, gPop, f2, g2, f1, fNil, fCons, gNilE, gConsE, fCall, gCall, fLst, fTup, gLstE, gTupE, fTest, gTest, fAnd, fOr, fNot, gAnd, gOr, gNot, fIf, gIf, fAndV, fOrV, fNotV, fChain, fRev, tgTup, tgCons, tgNil, up, asB, asL, asT, asI, asS, enumA, zipA, setE, Option.bind_some, Option.bind_none, Option.map_some, Option.map_none, owns, List.mapM_cons, List.mapM_nil, List.set_cons_zero, List.set_cons_succ, gv_0, gv_1, gv_2, gv_3, gv_4, gv_5, gv_6, gv_7, gv_8, gv_9, gv_10, gv_11, gv_12, gv_13, ev_pure, ev_bind, wipeE, dI0, resP, resM, resF, dCmp, dGt, dLt, dLe, dGe, ix30, ix31, ix32, List.length_cons, List.length_nil, Nat.zero_add, Nat.reduceAdd, List.set_cons_zero, Bool.true_eq_false, Bool.false_eq_true, if_true, if_false, ite_true, ite_false, decide_true, decide_false, dInt, sz0, sz1, sz2, sz3, sz4, sz5, sz6, sz7, rng1_nat (show m ≤ sizeLine by have := sizeL; omega)]) ⟨[], src, rfl, rfl, by simp, h⟩ ?_ ?_)
    · rintro p x q e hx ⟨sp, src', rfl, h1, h2, h3⟩
      have hl : p.length + 1 + q.length = m := by
        have := congrArg List.length hx
        simp at this
        omega
      refine ⟨_, rfl, ?_⟩
      refine (spans_turn (m := m) (x := .int x) h3 (by omega) h1 (by omega) hw hw2 h2).imp ?_
      intro o ho
      cases o with
      | nx e => obtain ⟨sp', src'', a, b, c, d⟩ := ho; exact ⟨sp', src'', a, by simp [b], by simpa using c, by simpa [Nat.mul_add, Nat.add_assoc] using d⟩
      | ct e => obtain ⟨sp', src'', a, b, c, d⟩ := ho; exact ⟨sp', src'', a, by simp [b], by simpa using c, by simpa [Nat.mul_add, Nat.add_assoc] using d⟩
      | rt _ _ => exact ho.elim
      | bk _ => exact ho.elim
    · rintro e' ⟨sp, src', rfl, h1, h2, h3⟩
      rw [List.length_range] at h1 h2 h3
      exact Wp.of (a := .rt (.list (sp.map pairD)) [.list src']) (by simp only [fSeq, fNext, sIf, sIfP, sAsg, sAsgP, sDrop, sPar, sPar3, sAug, sRet, sRetP, sRetO, sForget, sAsgF, sMut, sSetI, setAt, fIxO, fIxP, dAt, fFlat, gCallM, gPop, f2, g2, f1, fNil, fCons, gNilE, gConsE, fCall, gCall, fLst, fTup, gLstE, gTupE, fTest, gTest, fAnd, fOr, fNot, gAnd, gOr, gNot, fIf, gIf, fAndV, fOrV, fNotV, fChain, fRev, tgTup, tgCons, tgNil, up, asB, asL, asT, asI, asS, enumA, zipA, setE, Option.bind_some, Option.bind_none, Option.map_some, Option.map_none, owns, List.mapM_cons, List.mapM_nil, List.set_cons_zero, List.set_cons_succ, gv_0, gv_1, gv_2, gv_3, gv_4, gv_5, gv_6, gv_7, gv_8, gv_9, gv_10, gv_11, gv_12, gv_13, ev_pure, ev_bind, wipeE, dI0, resP, resM, resF, dCmp, dGt, dLt, dLe, dGe, ix30, ix31, ix32, List.length_cons, List.length_nil, Nat.zero_add, Nat.reduceAdd, List.set_cons_zero, Bool.true_eq_false, Bool.false_eq_true, if_true, if_false, ite_true, ite_false, decide_true, decide_false, dInt, sz0, sz1, sz2, sz3, sz4, sz5, sz6, sz7]) ⟨sp, src', rfl, h1, h2, h3⟩
  obtain ⟨o, e, sp, src', hr, h1, h2, h3⟩ := key
  refine ⟨sp, src', ?_, h1, h2, h3⟩
  show (F_law_spans [some (.list src), some (.int m), some (.int w), none, none, none, none, none, none, none]).bind resM = _
  rw [e, Option.bind_some, hr]
end CSk60

/-! ranges: the plain law of the sweep -/
namespace CS
open PySem
theorem countP_le_of {α : Type} {p q : α → Bool} : ∀ {l : List α}, (∀ x ∈ l, p x = true → q x = true) → l.countP p ≤ l.countP q := fun {l} h => List.countP_mono_left h
def inR (a : Int) (p : Int × Int) : Bool := decide (p.1 ≤ a ∧ a ≤ p.2)
def cnt (sp : List (Int × Int)) (a : Int) : Nat := sp.countP (inR a)
/-- m is the greatest depth, s the least place at a start that has it -/
def Deep (sp : List (Int × Int)) (m : Nat) (s : Int) : Prop := s ∈ sp.map (·.1) ∧ m = cnt sp s ∧ ∀ a ∈ sp.map (·.1), cnt sp a ≤ m ∧ (cnt sp a = m → s ≤ a)
theorem Deep.uniq {sp : List (Int × Int)} {m m' : Nat} {s s' : Int} (h : Deep sp m s) (h' : Deep sp m' s') : m = m' ∧ s = s' := by
  obtain ⟨a1, a2, a3⟩ := h
  obtain ⟨b1, b2, b3⟩ := h'
  have c1 := (a3 s' b1).1
  have c2 := (b3 s a1).1
  have e : m = m' := by omega
  have d1 := (a3 s' b1).2 (by omega)
  have d2 := (b3 s a1).2 (by omega)
  exact ⟨e, by omega⟩
theorem cnt_perm {sp sq : List (Int × Int)} (h : sp.Perm sq) (a : Int) : cnt sp a = cnt sq a := h.countP_eq _
theorem Deep.perm {sp sq : List (Int × Int)} {m : Nat} {s : Int} (h : sp.Perm sq) (d : Deep sp m s) : Deep sq m s := by
  obtain ⟨a1, a2, a3⟩ := d
  refine ⟨(h.map _).mem_iff.mp a1, a2.trans (cnt_perm h s), fun a ha => ?_⟩
  rw [← cnt_perm h a]
  exact a3 a ((h.map _).mem_iff.mpr ha)
theorem cnt_self {sp : List (Int × Int)} {p : Int × Int} (hp : p ∈ sp) (h : p.1 ≤ p.2) : 0 < cnt sp p.1 := List.countP_pos_iff.mpr ⟨p, hp, by unfold inR; simp; exact h⟩
/-! the sweep -/
def ev (sp : List (Int × Int)) : List (Int × Int) := sp.map (fun p => (p.1, 0)) ++ sp.map (fun p => (p.2, 1))
def nS (l : List (Int × Int)) : Nat := l.countP fun e => decide (e.2 = 0)
def nE (l : List (Int × Int)) : Nat := l.countP fun e => decide (e.2 = 1)
def nSa (a : Int) (l : List (Int × Int)) : Nat := l.countP fun e => decide (e.2 = 0 ∧ e.1 ≤ a)
def nEa (a : Int) (l : List (Int × Int)) : Nat := l.countP fun e => decide (e.2 = 1 ∧ e.1 < a)
theorem ev_kind {sp : List (Int × Int)} {e : Int × Int} (h : e ∈ ev sp) : (e.2 = 0 ∧ e.1 ∈ sp.map (·.1)) ∨ (e.2 = 1) := by
  unfold ev at h
  rcases List.mem_append.mp h with h | h
  · obtain ⟨p, hp, rfl⟩ := List.mem_map.mp h
    exact .inl ⟨rfl, List.mem_map.mpr ⟨p, hp, rfl⟩⟩
  · obtain ⟨p, hp, rfl⟩ := List.mem_map.mp h
    exact .inr rfl
theorem ev_start {sp : List (Int × Int)} {a : Int} (h : a ∈ sp.map (·.1)) : (a, 0) ∈ ev sp := by
  obtain ⟨p, hp, rfl⟩ := List.mem_map.mp h
  exact List.mem_append_left _ (List.mem_map.mpr ⟨p, hp, rfl⟩)
theorem nSa_ev (sp : List (Int × Int)) (a : Int) : nSa a (ev sp) = sp.countP fun p => decide (p.1 ≤ a) := by
  unfold nSa ev
  rw [List.countP_append, List.countP_map, List.countP_map]
  have : sp.countP ((fun e : Int × Int => decide (e.2 = 0 ∧ e.1 ≤ a)) ∘ fun p : Int × Int => (p.2, (1 : Int))) = 0 := by
    rw [List.countP_eq_zero]
    intro p _
    simp
  rw [this, Nat.add_zero]
  apply List.countP_congr
  intro p _
  simp
theorem nEa_ev (sp : List (Int × Int)) (a : Int) : nEa a (ev sp) = sp.countP fun p => decide (p.2 < a) := by
  unfold nEa ev
  rw [List.countP_append, List.countP_map, List.countP_map]
  have : sp.countP ((fun e : Int × Int => decide (e.2 = 1 ∧ e.1 < a)) ∘ fun p : Int × Int => (p.1, (0 : Int))) = 0 := by
    rw [List.countP_eq_zero]
    intro p _
    simp
  rw [this, Nat.zero_add]
  apply List.countP_congr
  intro p _
  simp
theorem cnt_split (a : Int) : ∀ {sp : List (Int × Int)}, (∀ p ∈ sp, p.1 ≤ p.2) → cnt sp a + sp.countP (fun p => decide (p.2 < a)) = sp.countP fun p => decide (p.1 ≤ a)
  | [], _ => rfl
  | p :: sp, h => by
    have ih := cnt_split a (sp := sp) fun q hq => h q (List.mem_cons_of_mem _ hq)
    have hp := h p List.mem_cons_self
    unfold cnt at *
    rw [List.countP_cons, List.countP_cons, List.countP_cons]
    by_cases c1 : p.1 ≤ a <;> by_cases c2 : p.2 < a
    · have e : inR a p = false := by unfold inR; simp; omega
      simp only [e, c1, c2, decide_true, if_true]
      simp
      omega
    · have e : inR a p = true := by unfold inR; simp; omega
      simp only [e, c1, c2, decide_true, if_true]
      simp
      omega
    · omega
    · have e : inR a p = false := by unfold inR; simp; omega
      simp only [e, c1, c2, decide_true, if_true]
      simp
      omega
theorem lex_iff (p q : Int × Int) : lexLe p q = true ↔ p.1 < q.1 ∨ (p.1 = q.1 ∧ p.2 ≤ q.2) := by unfold lexLe; simp
/-- behind the event (a, 0) -/
theorem sweep_at {sp : List (Int × Int)} (hv : ∀ p ∈ sp, p.1 ≤ p.2) {P q : List (Int × Int)} {a : Int} (hL : (P ++ [(a, 0)] ++ q).Perm (ev sp)) (hs : (P ++ [(a, 0)] ++ q).Pairwise fun x y => lexLe x y = true) :
    nS (P ++ [(a, 0)]) ≤ cnt sp a + nE (P ++ [(a, 0)]) ∧ ((a, 0) ∉ q → nS (P ++ [(a, 0)]) = cnt sp a + nE (P ++ [(a, 0)])) := by
  have hc := cnt_split a hv
  rw [← nSa_ev, ← nEa_ev] at hc
  have kS : nSa a (ev sp) = nSa a (P ++ [(a, 0)]) + nSa a q := by
    rw [← (show (P ++ [(a, 0)] ++ q).countP _ = (ev sp).countP _ from hL.countP_eq (fun e : Int × Int => decide (e.2 = 0 ∧ e.1 ≤ a)) : nSa a _ = nSa a (ev sp))]
    exact List.countP_append
  have kE : nEa a (ev sp) = nEa a (P ++ [(a, 0)]) + nEa a q := by
    rw [← (show (P ++ [(a, 0)] ++ q).countP _ = (ev sp).countP _ from hL.countP_eq (fun e : Int × Int => decide (e.2 = 1 ∧ e.1 < a)) : nEa a _ = nEa a (ev sp))]
    exact List.countP_append
  obtain ⟨_, _, hPq⟩ := List.pairwise_append.mp hs
  obtain ⟨_, _, hPa⟩ := List.pairwise_append.mp (List.pairwise_append.mp hs).1
  have inP : ∀ e ∈ P ++ [(a, 0)], e.1 < a ∨ (e.1 = a ∧ e.2 ≤ 0) := fun e he => by
    rcases List.mem_append.mp he with h | h
    · exact (lex_iff _ _).mp (hPa e h (a, 0) (by simp))
    · simp at h; subst h; exact .inr ⟨rfl, Int.le_refl _⟩
  have inq : ∀ e ∈ q, a < e.1 ∨ (a = e.1 ∧ 0 ≤ e.2) := fun e he => (lex_iff _ _).mp (hPq (a, 0) (by simp) e he)
  have e1 : nS (P ++ [(a, 0)]) = nSa a (P ++ [(a, 0)]) := by
    unfold nS nSa
    apply List.countP_congr
    intro e he
    have := inP e he
    simp only [decide_eq_true_eq]
    exact ⟨fun h => ⟨h, by omega⟩, fun h => h.1⟩
  have e2 : nE (P ++ [(a, 0)]) = nEa a (P ++ [(a, 0)]) := by
    unfold nE nEa
    apply List.countP_congr
    intro e he
    have := inP e he
    simp only [decide_eq_true_eq]
    exact ⟨fun h => ⟨h, by omega⟩, fun h => h.1⟩
  have e3 : nEa a q = 0 := by
    unfold nEa
    rw [List.countP_eq_zero]
    intro e he
    have := inq e he
    simp only [decide_eq_true_eq]
    omega
  refine ⟨by omega, fun hn => ?_⟩
  have e4 : nSa a q = 0 := by
    unfold nSa
    rw [List.countP_eq_zero]
    intro e he
    have h1 := inq e he
    simp only [decide_eq_true_eq]
    intro h2
    apply hn
    have : e = (a, 0) := Prod.ext (by omega) h2.1
    exact this ▸ he
  omega
/-- what the sweep holds behind the events p -/
structure Swept (sp p : List (Int × Int)) (here : Int) (most : Nat) (pl : D) : Prop where
  hr : here = (nS p : Int) - (nE p : Int)
  le : here ≤ most
  plc : (pl = .none ∧ most = 0) ∨ ∃ s : Int, pl = .int s ∧ s ∈ sp.map (·.1) ∧ most ≤ cnt sp s ∧ ∀ a ∈ sp.map (·.1), a < s → cnt sp a < most
  all : ∀ q, p ++ q = sortP (ev sp) → ∀ a ∈ sp.map (·.1), (a, 0) ∉ q → cnt sp a ≤ most
theorem Swept.zero {sp : List (Int × Int)} : Swept sp [] 0 0 .none := by
  refine ⟨rfl, Int.le_refl _, .inl ⟨rfl, rfl⟩, fun q hq a ha hn => ?_⟩
  rw [List.nil_append] at hq
  exact absurd (hq ▸ (sortP_perm (ev sp)).mem_iff.mpr (ev_start ha)) hn
theorem nS_snoc (p : List (Int × Int)) (x : Int × Int) : nS (p ++ [x]) = nS p + if x.2 = 0 then 1 else 0 := by
  unfold nS
  rw [List.countP_append, List.countP_singleton]
  simp
theorem nE_snoc (p : List (Int × Int)) (x : Int × Int) : nE (p ++ [x]) = nE p + if x.2 = 1 then 1 else 0 := by
  unfold nE
  rw [List.countP_append, List.countP_singleton]
  simp
theorem Swept.step {sp : List (Int × Int)} (hv : ∀ p ∈ sp, p.1 ≤ p.2) {p q : List (Int × Int)} {x : Int × Int} {here : Int} {most : Nat} {pl : D} (hx : sortP (ev sp) = p ++ x :: q) (h : Swept sp p here most pl) :
    (x.2 = 0 ∨ x.2 = 1) ∧ (¬ here + 1 - 2 * x.2 > most → Swept sp (p ++ [x]) (here + 1 - 2 * x.2) most pl) ∧ (here + 1 - 2 * x.2 > most → Swept sp (p ++ [x]) (here + 1 - 2 * x.2) (here + 1 - 2 * x.2).toNat (.int x.1)) := by
  have hmem : x ∈ ev sp := (sortP_perm (ev sp)).mem_iff.mp (by rw [hx]; simp)
  have hk := ev_kind hmem
  have hh := h.hr
  have hle := h.le
  obtain ⟨x1, x2⟩ := x
  have eL : p ++ [(x1, x2)] ++ q = sortP (ev sp) := by rw [hx]; simp
  have hperm : (p ++ [(x1, x2)] ++ q).Perm (ev sp) := eL ▸ sortP_perm (ev sp)
  have hsort : (p ++ [(x1, x2)] ++ q).Pairwise fun x y => lexLe x y = true := eL ▸ sortP_sorted (ev sp)
  have qq : ∀ q', p ++ [(x1, x2)] ++ q' = sortP (ev sp) → q' = q := fun q' e => List.append_cancel_left (e.trans eL.symm)
  have old : ∀ a ∈ sp.map (·.1), (a, 0) ∉ (x1, x2) :: q → cnt sp a ≤ most := h.all _ (by rw [hx])
  rcases hk with ⟨k1, k2⟩ | k1
  · -- a start
    have k1 : x2 = 0 := k1
    have k2 : x1 ∈ sp.map (·.1) := k2
    subst k1
    obtain ⟨w1, w2⟩ := sweep_at hv hperm hsort
    have n1 := nS_snoc p (x1, 0)
    have n2 := nE_snoc p (x1, 0)
    simp at n1 n2
    refine ⟨.inl rfl, fun hc => ?_, fun hc => ?_⟩
    · have hc : ¬ here + 1 - 2 * 0 > (most : Int) := hc
      refine ⟨by show here + 1 - 2 * 0 = _; rw [n1, n2]; omega, by show here + 1 - 2 * 0 ≤ (most : Int); omega, h.plc, fun q' e a ha hn => ?_⟩
      have := qq q' e; subst this
      by_cases c : a = x1
      · subst c
        have := w2 hn
        omega
      · exact old a ha (by
          intro z
          rcases List.mem_cons.mp z with z | z
          · exact c (Prod.ext_iff.mp z).1
          · exact hn z)
    · have hc : here + 1 - 2 * 0 > (most : Int) := hc
      have et : ((here + 1 - 2 * 0).toNat : Int) = here + 1 := by omega
      refine ⟨by show here + 1 - 2 * 0 = _; rw [n1, n2]; omega, by show here + 1 - 2 * 0 ≤ ((here + 1 - 2 * 0).toNat : Int); omega, .inr ⟨x1, rfl, k2, by show (here + 1 - 2 * 0).toNat ≤ _; omega, fun a ha hlt => ?_⟩, fun q' e a ha hn => ?_⟩
      · -- an earlier start is behind us with all its like
        have hn : (a, 0) ∉ ((x1, 0) : Int × Int) :: q := by
          intro z
          rcases List.mem_cons.mp z with z | z
          · have := (Prod.ext_iff.mp z).1; simp at this; omega
          · obtain ⟨_, _, hPq⟩ := List.pairwise_append.mp hsort
            have := (lex_iff _ _).mp (hPq (x1, 0) (by simp) (a, 0) z)
            simp at this; omega
        have := old a ha hn
        show cnt sp a < (here + 1 - 2 * 0).toNat
        omega
      · have := qq q' e; subst this
        show cnt sp a ≤ (here + 1 - 2 * 0).toNat
        by_cases c : a = x1
        · subst c
          have := w2 hn
          omega
        · have := old a ha (by
            intro z
            rcases List.mem_cons.mp z with z | z
            · exact c (Prod.ext_iff.mp z).1
            · exact hn z)
          omega
  · have k1 : x2 = 1 := k1
    subst k1
    have n1 := nS_snoc p (x1, 1)
    have n2 := nE_snoc p (x1, 1)
    simp at n1 n2
    refine ⟨.inr rfl, fun hc => ?_, fun hc => ?_⟩
    · refine ⟨by show here + 1 - 2 * 1 = _; rw [n1, n2]; omega, by show here + 1 - 2 * 1 ≤ (most : Int); omega, h.plc, fun q' e a ha hn => ?_⟩
      have := qq q' e; subst this
      exact old a ha (by
        intro z
        rcases List.mem_cons.mp z with z | z
        · have := (Prod.ext_iff.mp z).2; simp at this
        · exact hn z)
    · have hc : here + 1 - 2 * 1 > (most : Int) := hc
      omega
theorem Swept.deep {sp : List (Int × Int)} (hv : ∀ p ∈ sp, p.1 ≤ p.2) (hne : sp ≠ []) {here : Int} {most : Nat} {pl : D} (h : Swept sp (sortP (ev sp)) here most pl) : ∃ s, pl = .int s ∧ Deep sp most s := by
  have all : ∀ a ∈ sp.map (·.1), cnt sp a ≤ most := fun a ha => h.all [] (by simp) a ha (by simp)
  obtain ⟨p, hp⟩ := List.exists_mem_of_ne_nil sp hne
  have hm := all p.1 (List.mem_map.mpr ⟨p, hp, rfl⟩)
  have h1 := cnt_self hp (hv p hp)
  rcases h.plc with ⟨_, h0⟩ | ⟨s, e, k1, k2, k3⟩
  · omega
  · have h4 := all s k1
    refine ⟨s, e, k1, by omega, fun a ha => ⟨all a ha, fun ea => ?_⟩⟩
    by_cases c : a < s
    · have := k3 a ha c
      omega
    · omega
/-! pairs that meet -/
def meets (p q : Int × Int) : Bool := decide (q.1 ≤ p.2 ∧ p.1 ≤ q.2)
theorem meets_comm (p q : Int × Int) : meets p q = meets q p := by unfold meets; exact decide_eq_decide.mpr ⟨fun h => ⟨h.2, h.1⟩, fun h => ⟨h.2, h.1⟩⟩
def pc : List (Int × Int) → Nat
  | [] => 0
  | x :: r => pc r + r.countP (meets x)
theorem pc_perm {l m : List (Int × Int)} (h : l.Perm m) : pc l = pc m := by
  induction h with
  | nil => rfl
  | cons x h ih => simp only [pc]; rw [ih, h.countP_eq]
  | swap x y l =>
    simp only [pc, List.countP_cons]
    rw [meets_comm y x]
    omega
  | trans _ _ a b => exact a.trans b
theorem zipIdx_cut {α : Type} {xs : List α} {p : List (α × Nat)} {x : α × Nat} {q : List (α × Nat)} (h : xs.zipIdx = p ++ x :: q) : x.2 = p.length ∧ xs.take p.length = p.map (·.1) ∧ p.length < xs.length := by
  have hl := congrArg List.length h
  simp at hl
  have h1 : xs.zipIdx[p.length]? = some x := by rw [h]; simp
  rw [List.getElem?_zipIdx] at h1
  cases hx : xs[p.length]? with
  | none => rw [hx] at h1; cases h1
  | some y =>
    rw [hx] at h1
    have h1 := Option.some.inj h1
    have h2 : xs.map id = (p ++ x :: q).map (·.1) := by rw [← h]; simp
    rw [List.map_id] at h2
    refine ⟨by rw [← h1]; simp, ?_, by omega⟩
    rw [h2, List.map_append, List.take_append_of_le_length (by simp), List.take_of_length_le (by simp)]
end CS

namespace CSk60
open PySem CS
theorem isint (i : Int) : g_is_integer [.int i] = some (.bool true) := by
  show (F_is_integer [some (.int i)]).bind resP = _
  unfold F_is_integer
  simp only [fSeq, fNext, sIf, sIfP, sAsg, sAsgP, sDrop, sPar, sPar3, sAug, sRet, sRetP, sRetO, sForget, sAsgF, sMut, sSetI, setAt, fIxO, fIxP, dAt, fFlat, gCallM, gPop, f2, g2, f1, fNil, fCons, gNilE, gConsE, fCall, gCall, fLst, fTup, gLstE, gTupE, fTest, gTest, fAnd, fOr, fNot, gAnd, gOr, gNot, fIf, gIf, fAndV, fOrV, fNotV, fChain, fRev, tgTup, tgCons, tgNil, up, asB, asL, asT, asI, asS, enumA, zipA, setE, Option.bind_some, Option.bind_none, Option.map_some, Option.map_none, owns, List.mapM_cons, List.mapM_nil, List.set_cons_zero, List.set_cons_succ, gv_0, gv_1, gv_2, gv_3, gv_4, gv_5, gv_6, gv_7, gv_8, gv_9, gv_10, gv_11, gv_12, gv_13, ev_pure, ev_bind, wipeE, dI0, resP, resM, resF, dCmp, dGt, dLt, dLe, dGe, ix30, ix31, ix32, List.length_cons, List.length_nil, Nat.zero_add, Nat.reduceAdd, List.set_cons_zero, Bool.true_eq_false, Bool.false_eq_true, if_true, if_false, ite_true, ite_false, decide_true, decide_false, dInt, sz0, sz1, sz2, sz3, sz4, sz5, sz6, sz7, isi_int_int, isi_int_bool, Bool.not_false]
theorem areint (p : Int × Int) : g_are_integers [pairD p, .int 2] = some (.bool true) := by
  show (F_are_integers [some (pairD p), some (.int 2), none]).bind resP = _
  unfold F_are_integers
  have e : C1_are_integers [some (pairD p), some (.int 2), none] = some (.list [.bool true, .bool true]) := by
    unfold C1_are_integers
    exact lcF_map PyData.int [p.1, p.2] (fun _ => some (.bool true)) rfl (fun x _ => by simp only [fSeq, fNext, sIf, sIfP, sAsg, sAsgP, sDrop, sPar, sPar3, sAug, sRet, sRetP, sRetO, sForget, sAsgF, sMut, sSetI, setAt, fIxO, fIxP, dAt, fFlat, gCallM, gPop, f2, g2, f1, fNil, fCons, gNilE, gConsE, fCall, gCall, fLst, fTup, gLstE, gTupE, fTest, gTest, fAnd, fOr, fNot, gAnd, gOr, gNot, fIf, gIf, fAndV, fOrV, fNotV, fChain, fRev, tgTup, tgCons, tgNil, up, asB, asL, asT, asI, asS, enumA, zipA, setE, Option.bind_some, Option.bind_none, Option.map_some, Option.map_none, owns, List.mapM_cons, List.mapM_nil, List.set_cons_zero, List.set_cons_succ, gv_0, gv_1, gv_2, gv_3, gv_4, gv_5, gv_6, gv_7, gv_8, gv_9, gv_10, gv_11, gv_12, gv_13, ev_pure, ev_bind, wipeE, dI0, resP, resM, resF, dCmp, dGt, dLt, dLe, dGe, ix30, ix31, ix32, List.length_cons, List.length_nil, Nat.zero_add, Nat.reduceAdd, List.set_cons_zero, Bool.true_eq_false, Bool.false_eq_true, if_true, if_false, ite_true, ite_false, decide_true, decide_false, dInt, sz0, sz1, sz2, sz3, sz4, sz5, sz6, sz7, isint])
  have e2 : dIsi "tuple" [pairD p] = some (.bool true) := isi_tuple_tuple
  have e3 : dLen [pairD p] = some (.int 2) := rfl
  have e4 : dAll [.list [PyData.bool true, PyData.bool true]] = some (.bool true) := rfl
  simp only [fSeq, fNext, sIf, sIfP, sAsg, sAsgP, sDrop, sPar, sPar3, sAug, sRet, sRetP, sRetO, sForget, sAsgF, sMut, sSetI, setAt, fIxO, fIxP, dAt, fFlat, gCallM, gPop, f2, g2, f1, fNil, fCons, gNilE, gConsE, fCall, gCall, fLst, fTup, gLstE, gTupE, fTest, gTest, fAnd, fOr, fNot, gAnd, gOr, gNot, fIf, gIf, fAndV, fOrV, fNotV, fChain, fRev, tgTup, tgCons, tgNil, up, asB, asL, asT, asI, asS, enumA, zipA, setE, Option.bind_some, Option.bind_none, Option.map_some, Option.map_none, owns, List.mapM_cons, List.mapM_nil, List.set_cons_zero, List.set_cons_succ, gv_0, gv_1, gv_2, gv_3, gv_4, gv_5, gv_6, gv_7, gv_8, gv_9, gv_10, gv_11, gv_12, gv_13, ev_pure, ev_bind, wipeE, dI0, resP, resM, resF, dCmp, dGt, dLt, dLe, dGe, ix30, ix31, ix32, List.length_cons, List.length_nil, Nat.zero_add, Nat.reduceAdd, List.set_cons_zero, Bool.true_eq_false, Bool.false_eq_true, if_true, if_false, ite_true, ite_false, decide_true, decide_false, dInt, sz0, sz1, sz2, sz3, sz4, sz5, sz6, sz7, e, e2, e3, e4, dEq_eqi, List.filterMap_cons_some, List.filterMap_nil]
theorem need {sp : List (Int × Int)} (h1 : 1 ≤ sp.length) (h2 : sp.length ≤ 400) (hv : ∀ p ∈ sp, p.1 ≤ p.2) : g_need_ranges [.list (sp.map pairD)] = some .none := by
  refine wp_get (F := F_need_ranges) (env := [some (.list (sp.map pairD)), none, none]) rfl ?_
  unfold F_need_ranges
  refine wp_seq (wp_ifP false ?_ nofun fun _ => Wp.of (a := .nx [some (.list (sp.map pairD)), none, none]) rfl ?_)
  · have e1 : decide ((1 : Int) ≤ (sp.length : Int)) = true := decide_eq_true (by omega)
    have e2 : decide ((sp.length : Int) ≤ 400) = true := decide_eq_true (by omega)
    simp only [fSeq, fNext, sIf, sIfP, sAsg, sAsgP, sDrop, sPar, sPar3, sAug, sRet, sRetP, sRetO, sForget, sAsgF, sMut, sSetI, setAt, fIxO, fIxP, dAt, fFlat, gCallM, gPop, f2, g2, f1, fNil, fCons, gNilE, gConsE, fCall, gCall, fLst, fTup, gLstE, gTupE, fTest, gTest, fAnd, fOr, fNot, gAnd, gOr, gNot, fIf, gIf, fAndV, fOrV, fNotV, fChain, fRev, tgTup, tgCons, tgNil, up, asB, asL, asT, asI, asS, enumA, zipA, setE, Option.bind_some, Option.bind_none, Option.map_some, Option.map_none, owns, List.mapM_cons, List.mapM_nil, List.set_cons_zero, List.set_cons_succ, gv_0, gv_1, gv_2, gv_3, gv_4, gv_5, gv_6, gv_7, gv_8, gv_9, gv_10, gv_11, gv_12, gv_13, ev_pure, ev_bind, wipeE, dI0, resP, resM, resF, dCmp, dGt, dLt, dLe, dGe, ix30, ix31, ix32, List.length_cons, List.length_nil, Nat.zero_add, Nat.reduceAdd, List.set_cons_zero, Bool.true_eq_false, Bool.false_eq_true, if_true, if_false, ite_true, ite_false, decide_true, decide_false, dInt, sz0, sz1, sz2, sz3, sz4, sz5, sz6, sz7, isi_list_list, dLen, List.length_map, e1, e2, Bool.not_true]
  · refine wp_for (fun p : (Int × Int) × Nat => PyData.tuple [.int (p.2 : Nat), pairD p.1]) sp.zipIdx (fun _ e => e = [some (.list (sp.map pairD)), none, none]) (env1 := [some (.list (sp.map pairD)), none, none]) (by simp only [fSeq, fNext, sIf, sIfP, sAsg, sAsgP, sDrop, sPar, sPar3, sAug, sRet, sRetP, sRetO, sForget, sAsgF, sMut, sSetI, setAt, fIxO, fIxP, dAt, fFlat, gCallM, gPop, f2, g2, f1, fNil, fCons, gNilE, gConsE, fCall, gCall, fLst, fTup, gLstE, gTupE, fTest, gTest, fAnd, fOr, fNot, gAnd, gOr, gNot, fIf, gIf, fAndV, fOrV, fNotV, fChain, fRev, tgTup, tgCons, tgNil, up, asB, asL, asT, asI, asS, enumA, zipA, setE, Option.bind_some, Option.bind_none, Option.map_some, Option.map_none, owns, List.mapM_cons, List.mapM_nil, List.set_cons_zero, List.set_cons_succ, gv_0, gv_1, gv_2, gv_3, gv_4, gv_5, gv_6, gv_7, gv_8, gv_9, gv_10, gv_11, gv_12, gv_13, ev_pure, ev_bind, wipeE, dI0, resP, resM, resF, dCmp, dGt, dLt, dLe, dGe, ix30, ix31, ix32, List.length_cons, List.length_nil, Nat.zero_add, Nat.reduceAdd, List.set_cons_zero, Bool.true_eq_false, Bool.false_eq_true, if_true, if_false, ite_true, ite_false, decide_true, decide_false, dInt, sz0, sz1, sz2, sz3, sz4, sz5, sz6, sz7, enumD_map]) rfl ?_ ?_
    · rintro p x q e hx rfl
      refine ⟨[some (.list (sp.map pairD)), some (.int (x.2 : Nat)), some (pairD x.1)], by simp only [fSeq, fNext, sIf, sIfP, sAsg, sAsgP, sDrop, sPar, sPar3, sAug, sRet, sRetP, sRetO, sForget, sAsgF, sMut, sSetI, setAt, fIxO, fIxP, dAt, fFlat, gCallM, gPop, f2, g2, f1, fNil, fCons, gNilE, gConsE, fCall, gCall, fLst, fTup, gLstE, gTupE, fTest, gTest, fAnd, fOr, fNot, gAnd, gOr, gNot, fIf, gIf, fAndV, fOrV, fNotV, fChain, fRev, tgTup, tgCons, tgNil, up, asB, asL, asT, asI, asS, enumA, zipA, setE, Option.bind_some, Option.bind_none, Option.map_some, Option.map_none, owns, List.mapM_cons, List.mapM_nil, List.set_cons_zero, List.set_cons_succ, gv_0, gv_1, gv_2, gv_3, gv_4, gv_5, gv_6, gv_7, gv_8, gv_9, gv_10, gv_11, gv_12, gv_13, ev_pure, ev_bind, wipeE, dI0, resP, resM, resF, dCmp, dGt, dLt, dLe, dGe, ix30, ix31, ix32, List.length_cons, List.length_nil, Nat.zero_add, Nat.reduceAdd, List.set_cons_zero, Bool.true_eq_false, Bool.false_eq_true, if_true, if_false, ite_true, ite_false, decide_true, decide_false, dInt, sz0, sz1, sz2, sz3, sz4, sz5, sz6, sz7], ?_⟩
      have hm : x.1 ∈ sp := by
        have : x ∈ sp.zipIdx := by rw [hx]; simp
        exact List.fst_mem_of_mem_zipIdx this
      have hle : decide (x.1.2 < x.1.1) = false := decide_eq_false (by have := hv x.1 hm; omega)
      unfold B1_need_ranges
      refine wp_forget (wp_ifP false ?_ nofun fun _ => Wp.of (a := .nx [some (.list (sp.map pairD)), some (.int (x.2 : Nat)), some (pairD x.1)]) rfl ?_)
      · simp only [fSeq, fNext, sIf, sIfP, sAsg, sAsgP, sDrop, sPar, sPar3, sAug, sRet, sRetP, sRetO, sForget, sAsgF, sMut, sSetI, setAt, fIxO, fIxP, dAt, fFlat, gCallM, gPop, f2, g2, f1, fNil, fCons, gNilE, gConsE, fCall, gCall, fLst, fTup, gLstE, gTupE, fTest, gTest, fAnd, fOr, fNot, gAnd, gOr, gNot, fIf, gIf, fAndV, fOrV, fNotV, fChain, fRev, tgTup, tgCons, tgNil, up, asB, asL, asT, asI, asS, enumA, zipA, setE, Option.bind_some, Option.bind_none, Option.map_some, Option.map_none, owns, List.mapM_cons, List.mapM_nil, List.set_cons_zero, List.set_cons_succ, gv_0, gv_1, gv_2, gv_3, gv_4, gv_5, gv_6, gv_7, gv_8, gv_9, gv_10, gv_11, gv_12, gv_13, ev_pure, ev_bind, wipeE, dI0, resP, resM, resF, dCmp, dGt, dLt, dLe, dGe, ix30, ix31, ix32, List.length_cons, List.length_nil, Nat.zero_add, Nat.reduceAdd, List.set_cons_zero, Bool.true_eq_false, Bool.false_eq_true, if_true, if_false, ite_true, ite_false, decide_true, decide_false, dInt, sz0, sz1, sz2, sz3, sz4, sz5, sz6, sz7, areint, dIx_p0, dIx_p1, hle, Bool.not_true]
      · rfl
    · rintro e' rfl
      rfl
/-- the sweep -/
theorem crowd {sp : List (Int × Int)} (h1 : 1 ≤ sp.length) (h2 : sp.length ≤ 400) (hv : ∀ p ∈ sp, p.1 ≤ p.2) : ∃ (m : Nat) (s : Int), g_crowd_in [.list (sp.map pairD)] = some (pairD (m, s)) ∧ Deep sp m s := by
  have key : Wp (F_crowd_in [some (.list (sp.map pairD)), none, none, none, none, none, none, none, none]) (fun o => ∃ (m : Nat) (s : Int), resP o = some (pairD (m, s)) ∧ Deep sp m s) := by
    unfold F_crowd_in
    have eA : C1_crowd_in [some (.list (sp.map pairD)), none, none, none, none, none, none, none, none] = some (.list (sp.filterMap fun p => some (pairD (p.1, 0)))) :=
      lcF_map pairD sp _ rfl (fun x _ => by simp only [fSeq, fNext, sIf, sIfP, sAsg, sAsgP, sDrop, sPar, sPar3, sAug, sRet, sRetP, sRetO, sForget, sAsgF, sMut, sSetI, setAt, fIxO, fIxP, dAt, fFlat, gCallM, gPop, f2, g2, f1, fNil, fCons, gNilE, gConsE, fCall, gCall, fLst, fTup, gLstE, gTupE, fTest, gTest, fAnd, fOr, fNot, gAnd, gOr, gNot, fIf, gIf, fAndV, fOrV, fNotV, fChain, fRev, tgTup, tgCons, tgNil, up, asB, asL, asT, asI, asS, enumA, zipA, setE, Option.bind_some, Option.bind_none, Option.map_some, Option.map_none, owns, List.mapM_cons, List.mapM_nil, List.set_cons_zero, List.set_cons_succ, gv_0, gv_1, gv_2, gv_3, gv_4, gv_5, gv_6, gv_7, gv_8, gv_9, gv_10, gv_11, gv_12, gv_13, ev_pure, ev_bind, wipeE, dI0, resP, resM, resF, dCmp, dGt, dLt, dLe, dGe, ix30, ix31, ix32, List.length_cons, List.length_nil, Nat.zero_add, Nat.reduceAdd, List.set_cons_zero, Bool.true_eq_false, Bool.false_eq_true, if_true, if_false, ite_true, ite_false, decide_true, decide_false, dInt, sz0, sz1, sz2, sz3, sz4, sz5, sz6, sz7, pairD])
    have eB : C2_crowd_in [some (.list (sp.map pairD)), none, none, none, none, none, none, none, none] = some (.list (sp.filterMap fun p => some (pairD (p.2, 1)))) :=
      lcF_map pairD sp _ rfl (fun x _ => by simp only [fSeq, fNext, sIf, sIfP, sAsg, sAsgP, sDrop, sPar, sPar3, sAug, sRet, sRetP, sRetO, sForget, sAsgF, sMut, sSetI, setAt, fIxO, fIxP, dAt, fFlat, gCallM, gPop, f2, g2, f1, fNil, fCons, gNilE, gConsE, fCall, gCall, fLst, fTup, gLstE, gTupE, fTest, gTest, fAnd, fOr, fNot, gAnd, gOr, gNot, fIf, gIf, fAndV, fOrV, fNotV, fChain, fRev, tgTup, tgCons, tgNil, up, asB, asL, asT, asI, asS, enumA, zipA, setE, Option.bind_some, Option.bind_none, Option.map_some, Option.map_none, owns, List.mapM_cons, List.mapM_nil, List.set_cons_zero, List.set_cons_succ, gv_0, gv_1, gv_2, gv_3, gv_4, gv_5, gv_6, gv_7, gv_8, gv_9, gv_10, gv_11, gv_12, gv_13, ev_pure, ev_bind, wipeE, dI0, resP, resM, resF, dCmp, dGt, dLt, dLe, dGe, ix30, ix31, ix32, List.length_cons, List.length_nil, Nat.zero_add, Nat.reduceAdd, List.set_cons_zero, Bool.true_eq_false, Bool.false_eq_true, if_true, if_false, ite_true, ite_false, decide_true, decide_false, dInt, sz0, sz1, sz2, sz3, sz4, sz5, sz6, sz7, pairD])
    have eS : dAdd (.list (sp.filterMap fun p => some (pairD (p.1, 0)))) (.list (sp.filterMap fun p => some (pairD (p.2, 1)))) = some (.list ((ev sp).map pairD)) := by
      have hz : (sp.filterMap fun p => some (pairD (p.1, 0))).length + (sp.filterMap fun p => some (pairD (p.2, 1))).length ≤ sizeLine := by
        have := List.length_filterMap_le (fun p : Int × Int => some (pairD (p.1, 0))) sp
        have := List.length_filterMap_le (fun p : Int × Int => some (pairD (p.2, 1))) sp
        have := sizeL
        omega
      show (if _ ≤ sizeLine then some (PyData.list _) else none) = _
      rw [if_pos hz]
      unfold ev
      rw [List.map_append, List.map_map, List.map_map, ← List.filterMap_eq_map, ← List.filterMap_eq_map]
      rfl
    have eD : dSorted [.list ((ev sp).map pairD)] = some (.list ((sortP (ev sp)).map pairD)) := by
      have hn : asInts ((ev sp).map pairD) = none := by
        cases sp with
        | nil => simp at h1
        | cons a r => rfl
      unfold dSorted
      dsimp only
      rw [hn]
      dsimp only
      rw [asPairs_map]
      rfl
    refine wp_st [some (.list (sp.map pairD)), some (.list ((sortP (ev sp)).map pairD)), none, none, none, none, none, none, none] ?_ ?_
    · simp only [fSeq, fNext, sIf, sIfP, sAsg, sAsgP, sDrop, sPar, sPar3, sAug, sRet, sRetP, sRetO, sForget, sAsgF, sMut, sSetI, setAt, fIxO, fIxP, dAt, fFlat, gCallM, gPop, f2, g2, f1, fNil, fCons, gNilE, gConsE, fCall, gCall, fLst, fTup, gLstE, gTupE, fTest, gTest, fAnd, fOr, fNot, gAnd, gOr, gNot, fIf, gIf, fAndV, fOrV, fNotV, fChain, fRev, tgTup, tgCons, tgNil, up, asB, asL, asT, asI, asS, enumA, zipA, setE, Option.bind_some, Option.bind_none, Option.map_some, Option.map_none, owns, List.mapM_cons, List.mapM_nil, List.set_cons_zero, List.set_cons_succ, gv_0, gv_1, gv_2, gv_3, gv_4, gv_5, gv_6, gv_7, gv_8, gv_9, gv_10, gv_11, gv_12, gv_13, ev_pure, ev_bind, wipeE, dI0, resP, resM, resF, dCmp, dGt, dLt, dLe, dGe, ix30, ix31, ix32, List.length_cons, List.length_nil, Nat.zero_add, Nat.reduceAdd, List.set_cons_zero, Bool.true_eq_false, Bool.false_eq_true, if_true, if_false, ite_true, ite_false, decide_true, decide_false, dInt, sz0, sz1, sz2, sz3, sz4, sz5, sz6, sz7, eA, eB, eS, eD]
    refine wp_st [some (.list (sp.map pairD)), some (.list ((sortP (ev sp)).map pairD)), none, none, some (.int 0), some (.int 0), some .none, none, none] (by simp only [fSeq, fNext, sIf, sIfP, sAsg, sAsgP, sDrop, sPar, sPar3, sAug, sRet, sRetP, sRetO, sForget, sAsgF, sMut, sSetI, setAt, fIxO, fIxP, dAt, fFlat, gCallM, gPop, f2, g2, f1, fNil, fCons, gNilE, gConsE, fCall, gCall, fLst, fTup, gLstE, gTupE, fTest, gTest, fAnd, fOr, fNot, gAnd, gOr, gNot, fIf, gIf, fAndV, fOrV, fNotV, fChain, fRev, tgTup, tgCons, tgNil, up, asB, asL, asT, asI, asS, enumA, zipA, setE, Option.bind_some, Option.bind_none, Option.map_some, Option.map_none, owns, List.mapM_cons, List.mapM_nil, List.set_cons_zero, List.set_cons_succ, gv_0, gv_1, gv_2, gv_3, gv_4, gv_5, gv_6, gv_7, gv_8, gv_9, gv_10, gv_11, gv_12, gv_13, ev_pure, ev_bind, wipeE, dI0, resP, resM, resF, dCmp, dGt, dLt, dLe, dGe, ix30, ix31, ix32, List.length_cons, List.length_nil, Nat.zero_add, Nat.reduceAdd, List.set_cons_zero, Bool.true_eq_false, Bool.false_eq_true, if_true, if_false, ite_true, ite_false, decide_true, decide_false, dInt, sz0, sz1, sz2, sz3, sz4, sz5, sz6, sz7]) ?_
    refine wp_seq (wp_for pairD (sortP (ev sp)) (fun p e => ∃ (here : Int) (most : Nat) (pl : D), e = [some (.list (sp.map pairD)), some (.list ((sortP (ev sp)).map pairD)), none, none, some (.int here), some (.int most), some pl, none, none] ∧ Swept sp p here most pl)
      (env1 := [some (.list (sp.map pairD)), some (.list ((sortP (ev sp)).map pairD)), none, none, some (.int 0), some (.int 0), some .none, none, none]) (by simp only [fSeq, fNext, sIf, sIfP, sAsg, sAsgP, sDrop, sPar, sPar3, sAug, sRet, sRetP, sRetO, sForget, sAsgF, sMut, sSetI, setAt, fIxO, fIxP, dAt, fFlat, gCallM, gPop, f2, g2, f1, fNil, fCons, gNilE, gConsE, fCall, gCall, fLst, fTup, gLstE, gTupE, fTest, gTest, fAnd, fOr, fNot, gAnd, gOr, gNot, fIf, gIf, fAndV, fOrV, fNotV, fChain, fRev, tgTup, tgCons, tgNil, up, asB, asL, asT, asI, asS, enumA, zipA, setE, Option.bind_some, Option.bind_none, Option.map_some, Option.map_none, owns, List.mapM_cons, List.mapM_nil, List.set_cons_zero, List.set_cons_succ, gv_0, gv_1, gv_2, gv_3, gv_4, gv_5, gv_6, gv_7, gv_8, gv_9, gv_10, gv_11, gv_12, gv_13, ev_pure, ev_bind, wipeE, dI0, resP, resM, resF, dCmp, dGt, dLt, dLe, dGe, ix30, ix31, ix32, List.length_cons, List.length_nil, Nat.zero_add, Nat.reduceAdd, List.set_cons_zero, Bool.true_eq_false, Bool.false_eq_true, if_true, if_false, ite_true, ite_false, decide_true, decide_false, dInt, sz0, sz1, sz2, sz3, sz4, sz5, sz6, sz7]) ⟨0, 0, .none, rfl, Swept.zero⟩ ?_ ?_)
    · rintro p x q e hx ⟨here, most, pl, rfl, hS⟩
      obtain ⟨s1, s2, s3⟩ := hS.step hv hx
      refine ⟨[some (.list (sp.map pairD)), some (.list ((sortP (ev sp)).map pairD)), none, none, some (.int here), some (.int most), some pl, some (.int x.1), some (.int x.2)], by simp only [fSeq, fNext, sIf, sIfP, sAsg, sAsgP, sDrop, sPar, sPar3, sAug, sRet, sRetP, sRetO, sForget, sAsgF, sMut, sSetI, setAt, fIxO, fIxP, dAt, fFlat, gCallM, gPop, f2, g2, f1, fNil, fCons, gNilE, gConsE, fCall, gCall, fLst, fTup, gLstE, gTupE, fTest, gTest, fAnd, fOr, fNot, gAnd, gOr, gNot, fIf, gIf, fAndV, fOrV, fNotV, fChain, fRev, tgTup, tgCons, tgNil, up, asB, asL, asT, asI, asS, enumA, zipA, setE, Option.bind_some, Option.bind_none, Option.map_some, Option.map_none, owns, List.mapM_cons, List.mapM_nil, List.set_cons_zero, List.set_cons_succ, gv_0, gv_1, gv_2, gv_3, gv_4, gv_5, gv_6, gv_7, gv_8, gv_9, gv_10, gv_11, gv_12, gv_13, ev_pure, ev_bind, wipeE, dI0, resP, resM, resF, dCmp, dGt, dLt, dLe, dGe, ix30, ix31, ix32, List.length_cons, List.length_nil, Nat.zero_add, Nat.reduceAdd, List.set_cons_zero, Bool.true_eq_false, Bool.false_eq_true, if_true, if_false, ite_true, ite_false, decide_true, decide_false, dInt, sz0, sz1, sz2, sz3, sz4, sz5, sz6, sz7, pairD], ?_⟩
      have mm : dMul (.int 2) (.int x.2) = some (.int (2 * x.2)) := dMul_ok (mulOk_l (by decide))
      unfold B1_crowd_in
      refine wp_forget ?_
      refine wp_st [some (.list (sp.map pairD)), some (.list ((sortP (ev sp)).map pairD)), none, none, some (.int (here + 1 - 2 * x.2)), some (.int most), some pl, some (.int x.1), some (.int x.2)] (by simp only [fSeq, fNext, sIf, sIfP, sAsg, sAsgP, sDrop, sPar, sPar3, sAug, sRet, sRetP, sRetO, sForget, sAsgF, sMut, sSetI, setAt, fIxO, fIxP, dAt, fFlat, gCallM, gPop, f2, g2, f1, fNil, fCons, gNilE, gConsE, fCall, gCall, fLst, fTup, gLstE, gTupE, fTest, gTest, fAnd, fOr, fNot, gAnd, gOr, gNot, fIf, gIf, fAndV, fOrV, fNotV, fChain, fRev, tgTup, tgCons, tgNil, up, asB, asL, asT, asI, asS, enumA, zipA, setE, Option.bind_some, Option.bind_none, Option.map_some, Option.map_none, owns, List.mapM_cons, List.mapM_nil, List.set_cons_zero, List.set_cons_succ, gv_0, gv_1, gv_2, gv_3, gv_4, gv_5, gv_6, gv_7, gv_8, gv_9, gv_10, gv_11, gv_12, gv_13, ev_pure, ev_bind, wipeE, dI0, resP, resM, resF, dCmp, dGt, dLt, dLe, dGe, ix30, ix31, ix32, List.length_cons, List.length_nil, Nat.zero_add, Nat.reduceAdd, List.set_cons_zero, Bool.true_eq_false, Bool.false_eq_true, if_true, if_false, ite_true, ite_false, decide_true, decide_false, dInt, sz0, sz1, sz2, sz3, sz4, sz5, sz6, sz7, mm, dAdd_i]) ?_
      refine wp_ifP (decide (here + 1 - 2 * x.2 > (most : Int))) (by simp only [fSeq, fNext, sIf, sIfP, sAsg, sAsgP, sDrop, sPar, sPar3, sAug, sRet, sRetP, sRetO, sForget, sAsgF, sMut, sSetI, setAt, fIxO, fIxP, dAt, fFlat, gCallM, gPop, f2, g2, f1, fNil, fCons, gNilE, gConsE, fCall, gCall, fLst, fTup, gLstE, gTupE, fTest, gTest, fAnd, fOr, fNot, gAnd, gOr, gNot, fIf, gIf, fAndV, fOrV, fNotV, fChain, fRev, tgTup, tgCons, tgNil, up, asB, asL, asT, asI, asS, enumA, zipA, setE, Option.bind_some, Option.bind_none, Option.map_some, Option.map_none, owns, List.mapM_cons, List.mapM_nil, List.set_cons_zero, List.set_cons_succ, gv_0, gv_1, gv_2, gv_3, gv_4, gv_5, gv_6, gv_7, gv_8, gv_9, gv_10, gv_11, gv_12, gv_13, ev_pure, ev_bind, wipeE, dI0, resP, resM, resF, dCmp, dGt, dLt, dLe, dGe, ix30, ix31, ix32, List.length_cons, List.length_nil, Nat.zero_add, Nat.reduceAdd, List.set_cons_zero, Bool.true_eq_false, Bool.false_eq_true, if_true, if_false, ite_true, ite_false, decide_true, decide_false, dInt, sz0, sz1, sz2, sz3, sz4, sz5, sz6, sz7]) (fun hc => ?_) (fun hc => ?_)
      · have hc := of_decide_eq_true hc
        have et : (((here + 1 - 2 * x.2).toNat : Nat) : Int) = here + 1 - 2 * x.2 := by omega
        refine Wp.of (a := .nx [some (.list (sp.map pairD)), some (.list ((sortP (ev sp)).map pairD)), none, none, some (.int (here + 1 - 2 * x.2)), some (.int (here + 1 - 2 * x.2)), some (.int x.1), some (.int x.1), some (.int x.2)]) (by simp only [fSeq, fNext, sIf, sIfP, sAsg, sAsgP, sDrop, sPar, sPar3, sAug, sRet, sRetP, sRetO, sForget, sAsgF, sMut, sSetI, setAt, fIxO, fIxP, dAt, fFlat, gCallM, gPop, f2, g2, f1, fNil, fCons, gNilE, gConsE, fCall, gCall, fLst, fTup, gLstE, gTupE, fTest, gTest, fAnd, fOr, fNot, gAnd, gOr, gNot, fIf, gIf, fAndV, fOrV, fNotV, fChain, fRev, tgTup, tgCons, tgNil, up, asB, asL, asT, asI, asS, enumA, zipA, setE, Option.bind_some, Option.bind_none, Option.map_some, Option.map_none, owns, List.mapM_cons, List.mapM_nil, List.set_cons_zero, List.set_cons_succ, gv_0, gv_1, gv_2, gv_3, gv_4, gv_5, gv_6, gv_7, gv_8, gv_9, gv_10, gv_11, gv_12, gv_13, ev_pure, ev_bind, wipeE, dI0, resP, resM, resF, dCmp, dGt, dLt, dLe, dGe, ix30, ix31, ix32, List.length_cons, List.length_nil, Nat.zero_add, Nat.reduceAdd, List.set_cons_zero, Bool.true_eq_false, Bool.false_eq_true, if_true, if_false, ite_true, ite_false, decide_true, decide_false, dInt, sz0, sz1, sz2, sz3, sz4, sz5, sz6, sz7]) ?_
        exact ⟨_, _, _, by rw [et]; rfl, s3 hc⟩
      · have hc := of_decide_eq_false hc
        refine Wp.of (a := .nx [some (.list (sp.map pairD)), some (.list ((sortP (ev sp)).map pairD)), none, none, some (.int (here + 1 - 2 * x.2)), some (.int most), some pl, some (.int x.1), some (.int x.2)]) rfl ?_
        exact ⟨_, _, _, rfl, s2 hc⟩
    · rintro e' ⟨here, most, pl, rfl, hS⟩
      obtain ⟨s, rfl, hd⟩ := hS.deep hv (by intro e; rw [e] at h1; simp at h1)
      exact Wp.of (a := .rt (pairD (most, s)) []) (by simp only [fSeq, fNext, sIf, sIfP, sAsg, sAsgP, sDrop, sPar, sPar3, sAug, sRet, sRetP, sRetO, sForget, sAsgF, sMut, sSetI, setAt, fIxO, fIxP, dAt, fFlat, gCallM, gPop, f2, g2, f1, fNil, fCons, gNilE, gConsE, fCall, gCall, fLst, fTup, gLstE, gTupE, fTest, gTest, fAnd, fOr, fNot, gAnd, gOr, gNot, fIf, gIf, fAndV, fOrV, fNotV, fChain, fRev, tgTup, tgCons, tgNil, up, asB, asL, asT, asI, asS, enumA, zipA, setE, Option.bind_some, Option.bind_none, Option.map_some, Option.map_none, owns, List.mapM_cons, List.mapM_nil, List.set_cons_zero, List.set_cons_succ, gv_0, gv_1, gv_2, gv_3, gv_4, gv_5, gv_6, gv_7, gv_8, gv_9, gv_10, gv_11, gv_12, gv_13, ev_pure, ev_bind, wipeE, dI0, resP, resM, resF, dCmp, dGt, dLt, dLe, dGe, ix30, ix31, ix32, List.length_cons, List.length_nil, Nat.zero_add, Nat.reduceAdd, List.set_cons_zero, Bool.true_eq_false, Bool.false_eq_true, if_true, if_false, ite_true, ite_false, decide_true, decide_false, dInt, sz0, sz1, sz2, sz3, sz4, sz5, sz6, sz7, pairD]) ⟨most, s, rfl, hd⟩
  obtain ⟨o, e, m, s, hr, hd⟩ := key
  refine ⟨m, s, ?_, hd⟩
  show (F_crowd_in [some (.list (sp.map pairD)), none, none, none, none, none, none, none, none]).bind resP = _
  rw [e, Option.bind_some, hr]
/-- the law's own depth -/
theorem deepest {sp : List (Int × Int)} (h1 : 1 ≤ sp.length) (hv : ∀ p ∈ sp, p.1 ≤ p.2) : ∃ (m : Nat) (s : Int), g_law_deepest [.list (sp.map pairD)] = some (pairD (m, s)) ∧ Deep sp m s := by
  have key : Wp (F_law_deepest [some (.list (sp.map pairD)), none, none, none, none, none]) (fun o => ∃ (m : Nat) (s : Int), resP o = some (pairD (m, s)) ∧ Deep sp m s) := by
    unfold F_law_deepest
    refine wp_st [some (.list (sp.map pairD)), some (pairD (0, 0)), none, none, none, none] (by simp only [fSeq, fNext, sIf, sIfP, sAsg, sAsgP, sDrop, sPar, sPar3, sAug, sRet, sRetP, sRetO, sForget, sAsgF, sMut, sSetI, setAt, fIxO, fIxP, dAt, fFlat, gCallM, gPop, f2, g2, f1, fNil, fCons, gNilE, gConsE, fCall, gCall, fLst, fTup, gLstE, gTupE, fTest, gTest, fAnd, fOr, fNot, gAnd, gOr, gNot, fIf, gIf, fAndV, fOrV, fNotV, fChain, fRev, tgTup, tgCons, tgNil, up, asB, asL, asT, asI, asS, enumA, zipA, setE, Option.bind_some, Option.bind_none, Option.map_some, Option.map_none, owns, List.mapM_cons, List.mapM_nil, List.set_cons_zero, List.set_cons_succ, gv_0, gv_1, gv_2, gv_3, gv_4, gv_5, gv_6, gv_7, gv_8, gv_9, gv_10, gv_11, gv_12, gv_13, ev_pure, ev_bind, wipeE, dI0, resP, resM, resF, dCmp, dGt, dLt, dLe, dGe, ix30, ix31, ix32, List.length_cons, List.length_nil, Nat.zero_add, Nat.reduceAdd, List.set_cons_zero, Bool.true_eq_false, Bool.false_eq_true, if_true, if_false, ite_true, ite_false, decide_true, decide_false, dInt, sz0, sz1, sz2, sz3, sz4, sz5, sz6, sz7, pairD]) ?_
    refine wp_seq (wp_for pairD sp (fun p e => ∃ (m : Nat) (s : Int), e = [some (.list (sp.map pairD)), some (pairD (m, s)), none, none, none, none] ∧ ((p = [] ∧ m = 0 ∧ s = 0) ∨ (s ∈ p.map (·.1) ∧ m = cnt sp s ∧ ∀ a ∈ p.map (·.1), cnt sp a ≤ m ∧ (cnt sp a = m → s ≤ a))))
      (env1 := [some (.list (sp.map pairD)), some (pairD (0, 0)), none, none, none, none]) (by simp only [fSeq, fNext, sIf, sIfP, sAsg, sAsgP, sDrop, sPar, sPar3, sAug, sRet, sRetP, sRetO, sForget, sAsgF, sMut, sSetI, setAt, fIxO, fIxP, dAt, fFlat, gCallM, gPop, f2, g2, f1, fNil, fCons, gNilE, gConsE, fCall, gCall, fLst, fTup, gLstE, gTupE, fTest, gTest, fAnd, fOr, fNot, gAnd, gOr, gNot, fIf, gIf, fAndV, fOrV, fNotV, fChain, fRev, tgTup, tgCons, tgNil, up, asB, asL, asT, asI, asS, enumA, zipA, setE, Option.bind_some, Option.bind_none, Option.map_some, Option.map_none, owns, List.mapM_cons, List.mapM_nil, List.set_cons_zero, List.set_cons_succ, gv_0, gv_1, gv_2, gv_3, gv_4, gv_5, gv_6, gv_7, gv_8, gv_9, gv_10, gv_11, gv_12, gv_13, ev_pure, ev_bind, wipeE, dI0, resP, resM, resF, dCmp, dGt, dLt, dLe, dGe, ix30, ix31, ix32, List.length_cons, List.length_nil, Nat.zero_add, Nat.reduceAdd, List.set_cons_zero, Bool.true_eq_false, Bool.false_eq_true, if_true, if_false, ite_true, ite_false, decide_true, decide_false, dInt, sz0, sz1, sz2, sz3, sz4, sz5, sz6, sz7]) ⟨0, 0, rfl, .inl ⟨rfl, rfl, rfl⟩⟩ ?_ ?_)
    · rintro p x q e hx ⟨m, s, rfl, hI⟩
      refine ⟨[some (.list (sp.map pairD)), some (pairD (m, s)), some (.int x.1), some (.int x.2), none, none], by simp only [fSeq, fNext, sIf, sIfP, sAsg, sAsgP, sDrop, sPar, sPar3, sAug, sRet, sRetP, sRetO, sForget, sAsgF, sMut, sSetI, setAt, fIxO, fIxP, dAt, fFlat, gCallM, gPop, f2, g2, f1, fNil, fCons, gNilE, gConsE, fCall, gCall, fLst, fTup, gLstE, gTupE, fTest, gTest, fAnd, fOr, fNot, gAnd, gOr, gNot, fIf, gIf, fAndV, fOrV, fNotV, fChain, fRev, tgTup, tgCons, tgNil, up, asB, asL, asT, asI, asS, enumA, zipA, setE, Option.bind_some, Option.bind_none, Option.map_some, Option.map_none, owns, List.mapM_cons, List.mapM_nil, List.set_cons_zero, List.set_cons_succ, gv_0, gv_1, gv_2, gv_3, gv_4, gv_5, gv_6, gv_7, gv_8, gv_9, gv_10, gv_11, gv_12, gv_13, ev_pure, ev_bind, wipeE, dI0, resP, resM, resF, dCmp, dGt, dLt, dLe, dGe, ix30, ix31, ix32, List.length_cons, List.length_nil, Nat.zero_add, Nat.reduceAdd, List.set_cons_zero, Bool.true_eq_false, Bool.false_eq_true, if_true, if_false, ite_true, ite_false, decide_true, decide_false, dInt, sz0, sz1, sz2, sz3, sz4, sz5, sz6, sz7, pairD], ?_⟩
      have hxm : x ∈ sp := by rw [hx]; simp
      have hpos := cnt_self hxm (hv x hxm)
      have eC : C1_law_deepest [some (.list (sp.map pairD)), some (pairD (m, s)), some (.int x.1), some (.int x.2), none, none] = some (.list (sp.filterMap fun y => if inR x.1 y = true then some (.int 1) else none)) :=
        lcF_map pairD sp _ rfl (fun y _ => by
          simp only [fSeq, fNext, sIf, sIfP, sAsg, sAsgP, sDrop, sPar, sPar3, sAug, sRet, sRetP, sRetO, sForget, sAsgF, sMut, sSetI, setAt, fIxO, fIxP, dAt, fFlat, gCallM, gPop, f2, g2, f1, fNil, fCons, gNilE, gConsE, fCall, gCall, fLst, fTup, gLstE, gTupE, fTest, gTest, fAnd, fOr, fNot, gAnd, gOr, gNot, fIf, gIf, fAndV, fOrV, fNotV, fChain, fRev, tgTup, tgCons, tgNil, up, asB, asL, asT, asI, asS, enumA, zipA, setE, Option.bind_some, Option.bind_none, Option.map_some, Option.map_none, owns, List.mapM_cons, List.mapM_nil, List.set_cons_zero, List.set_cons_succ, gv_0, gv_1, gv_2, gv_3, gv_4, gv_5, gv_6, gv_7, gv_8, gv_9, gv_10, gv_11, gv_12, gv_13, ev_pure, ev_bind, wipeE, dI0, resP, resM, resF, dCmp, dGt, dLt, dLe, dGe, ix30, ix31, ix32, List.length_cons, List.length_nil, Nat.zero_add, Nat.reduceAdd, List.set_cons_zero, Bool.true_eq_false, Bool.false_eq_true, if_true, if_false, ite_true, ite_false, decide_true, decide_false, dInt, sz0, sz1, sz2, sz3, sz4, sz5, sz6, sz7, dIx_p0, dIx_p1]
          unfold inR
          by_cases c1 : y.1 ≤ x.1 <;> by_cases c2 : x.1 ≤ y.2 <;> simp [c1, c2, asB])
      have eL : (sp.filterMap fun y => if inR x.1 y = true then some (PyData.int 1) else none).length = cnt sp x.1 := by
        unfold cnt
        rw [List.countP_eq_length_filter]
        clear hI hx hxm hpos eC hv h1
        induction sp with
        | nil => rfl
        | cons y r ih =>
          by_cases c : inR x.1 y = true
          · rw [List.filterMap_cons_some (b := .int 1) (by rw [if_pos c]), List.filter_cons_of_pos c, List.length_cons, List.length_cons, ih]
          · rw [List.filterMap_cons_none (by rw [if_neg c]), List.filter_cons_of_neg c, ih]
      unfold B1_law_deepest
      refine wp_forget ?_
      refine wp_st [some (.list (sp.map pairD)), some (pairD (m, s)), some (.int x.1), some (.int x.2), some (.int (cnt sp x.1)), none] (by simp only [fSeq, fNext, sIf, sIfP, sAsg, sAsgP, sDrop, sPar, sPar3, sAug, sRet, sRetP, sRetO, sForget, sAsgF, sMut, sSetI, setAt, fIxO, fIxP, dAt, fFlat, gCallM, gPop, f2, g2, f1, fNil, fCons, gNilE, gConsE, fCall, gCall, fLst, fTup, gLstE, gTupE, fTest, gTest, fAnd, fOr, fNot, gAnd, gOr, gNot, fIf, gIf, fAndV, fOrV, fNotV, fChain, fRev, tgTup, tgCons, tgNil, up, asB, asL, asT, asI, asS, enumA, zipA, setE, Option.bind_some, Option.bind_none, Option.map_some, Option.map_none, owns, List.mapM_cons, List.mapM_nil, List.set_cons_zero, List.set_cons_succ, gv_0, gv_1, gv_2, gv_3, gv_4, gv_5, gv_6, gv_7, gv_8, gv_9, gv_10, gv_11, gv_12, gv_13, ev_pure, ev_bind, wipeE, dI0, resP, resM, resF, dCmp, dGt, dLt, dLe, dGe, ix30, ix31, ix32, List.length_cons, List.length_nil, Nat.zero_add, Nat.reduceAdd, List.set_cons_zero, Bool.true_eq_false, Bool.false_eq_true, if_true, if_false, ite_true, ite_false, decide_true, decide_false, dInt, sz0, sz1, sz2, sz3, sz4, sz5, sz6, sz7, eC, dLen, eL]) ?_
      refine wp_ifP (decide (cnt sp x.1 > m) || (decide (cnt sp x.1 = m) && decide (x.1 < s))) ?_ (fun hc => ?_) (fun hc => ?_)
      · have q1 : decide ((m : Int) < (cnt sp x.1 : Int)) = decide (cnt sp x.1 > m) := decide_eq_decide.mpr (by omega)
        have q2 : decide ((cnt sp x.1 : Int) = (m : Int)) = decide (cnt sp x.1 = m) := decide_eq_decide.mpr (by omega)
        simp only [fSeq, fNext, sIf, sIfP, sAsg, sAsgP, sDrop, sPar, sPar3, sAug, sRet, sRetP, sRetO, sForget, sAsgF, sMut, sSetI, setAt, fIxO, fIxP, dAt, fFlat, gCallM, gPop, f2, g2, f1, fNil, fCons, gNilE, gConsE, fCall, gCall, fLst, fTup, gLstE, gTupE, fTest, gTest, fAnd, fOr, fNot, gAnd, gOr, gNot, fIf, gIf, fAndV, fOrV, fNotV, fChain, fRev, tgTup, tgCons, tgNil, up, asB, asL, asT, asI, asS, enumA, zipA, setE, Option.bind_some, Option.bind_none, Option.map_some, Option.map_none, owns, List.mapM_cons, List.mapM_nil, List.set_cons_zero, List.set_cons_succ, gv_0, gv_1, gv_2, gv_3, gv_4, gv_5, gv_6, gv_7, gv_8, gv_9, gv_10, gv_11, gv_12, gv_13, ev_pure, ev_bind, wipeE, dI0, resP, resM, resF, dCmp, dGt, dLt, dLe, dGe, ix30, ix31, ix32, List.length_cons, List.length_nil, Nat.zero_add, Nat.reduceAdd, List.set_cons_zero, Bool.true_eq_false, Bool.false_eq_true, if_true, if_false, ite_true, ite_false, decide_true, decide_false, dInt, sz0, sz1, sz2, sz3, sz4, sz5, sz6, sz7, dIx_p0, dIx_p1, dEq_eqi, q1, q2]
        by_cases c1 : cnt sp x.1 > m <;> by_cases c2 : cnt sp x.1 = m <;> simp [c1, c2]
      · have hc : cnt sp x.1 > m ∨ (cnt sp x.1 = m ∧ x.1 < s) := by simpa using hc
        refine Wp.of (a := .nx [some (.list (sp.map pairD)), some (pairD (cnt sp x.1, x.1)), some (.int x.1), some (.int x.2), some (.int (cnt sp x.1)), none]) (by simp only [fSeq, fNext, sIf, sIfP, sAsg, sAsgP, sDrop, sPar, sPar3, sAug, sRet, sRetP, sRetO, sForget, sAsgF, sMut, sSetI, setAt, fIxO, fIxP, dAt, fFlat, gCallM, gPop, f2, g2, f1, fNil, fCons, gNilE, gConsE, fCall, gCall, fLst, fTup, gLstE, gTupE, fTest, gTest, fAnd, fOr, fNot, gAnd, gOr, gNot, fIf, gIf, fAndV, fOrV, fNotV, fChain, fRev, tgTup, tgCons, tgNil, up, asB, asL, asT, asI, asS, enumA, zipA, setE, Option.bind_some, Option.bind_none, Option.map_some, Option.map_none, owns, List.mapM_cons, List.mapM_nil, List.set_cons_zero, List.set_cons_succ, gv_0, gv_1, gv_2, gv_3, gv_4, gv_5, gv_6, gv_7, gv_8, gv_9, gv_10, gv_11, gv_12, gv_13, ev_pure, ev_bind, wipeE, dI0, resP, resM, resF, dCmp, dGt, dLt, dLe, dGe, ix30, ix31, ix32, List.length_cons, List.length_nil, Nat.zero_add, Nat.reduceAdd, List.set_cons_zero, Bool.true_eq_false, Bool.false_eq_true, if_true, if_false, ite_true, ite_false, decide_true, decide_false, dInt, sz0, sz1, sz2, sz3, sz4, sz5, sz6, sz7, pairD]) ?_
        refine ⟨cnt sp x.1, x.1, rfl, .inr ⟨by simp, rfl, fun a ha => ?_⟩⟩
        rw [List.map_append, List.mem_append] at ha
        rcases ha with ha | ha
        · rcases hI with ⟨rfl, _⟩ | ⟨i1, i2, i3⟩
          · simp at ha
          · have := i3 a ha
            exact ⟨by omega, fun e => by have := this.2; omega⟩
        · simp at ha; subst ha; exact ⟨Nat.le_refl _, fun _ => Int.le_refl _⟩
      · have hc : ¬ (cnt sp x.1 > m) ∧ ¬ (cnt sp x.1 = m ∧ x.1 < s) := by
          simp at hc
          exact ⟨by omega, fun h => by have := hc.2 h.1; omega⟩
        refine Wp.of (a := .nx [some (.list (sp.map pairD)), some (pairD (m, s)), some (.int x.1), some (.int x.2), some (.int (cnt sp x.1)), none]) rfl ?_
        rcases hI with ⟨rfl, rfl, _⟩ | ⟨i1, i2, i3⟩
        · omega
        · refine ⟨m, s, rfl, .inr ⟨by rw [List.map_append]; exact List.mem_append_left _ i1, i2, fun a ha => ?_⟩⟩
          rw [List.map_append, List.mem_append] at ha
          rcases ha with ha | ha
          · exact i3 a ha
          · simp at ha; subst ha; exact ⟨by omega, fun e => by omega⟩
    · rintro e' ⟨m, s, rfl, hI⟩
      rcases hI with ⟨rfl, _⟩ | hd
      · simp at h1
      · exact Wp.of (a := .rt (pairD (m, s)) []) (by simp only [fSeq, fNext, sIf, sIfP, sAsg, sAsgP, sDrop, sPar, sPar3, sAug, sRet, sRetP, sRetO, sForget, sAsgF, sMut, sSetI, setAt, fIxO, fIxP, dAt, fFlat, gCallM, gPop, f2, g2, f1, fNil, fCons, gNilE, gConsE, fCall, gCall, fLst, fTup, gLstE, gTupE, fTest, gTest, fAnd, fOr, fNot, gAnd, gOr, gNot, fIf, gIf, fAndV, fOrV, fNotV, fChain, fRev, tgTup, tgCons, tgNil, up, asB, asL, asT, asI, asS, enumA, zipA, setE, Option.bind_some, Option.bind_none, Option.map_some, Option.map_none, owns, List.mapM_cons, List.mapM_nil, List.set_cons_zero, List.set_cons_succ, gv_0, gv_1, gv_2, gv_3, gv_4, gv_5, gv_6, gv_7, gv_8, gv_9, gv_10, gv_11, gv_12, gv_13, ev_pure, ev_bind, wipeE, dI0, resP, resM, resF, dCmp, dGt, dLt, dLe, dGe, ix30, ix31, ix32, List.length_cons, List.length_nil, Nat.zero_add, Nat.reduceAdd, List.set_cons_zero, Bool.true_eq_false, Bool.false_eq_true, if_true, if_false, ite_true, ite_false, decide_true, decide_false, dInt, sz0, sz1, sz2, sz3, sz4, sz5, sz6, sz7]) ⟨m, s, rfl, hd⟩
  obtain ⟨o, e, m, s, hr, hd⟩ := key
  refine ⟨m, s, ?_, hd⟩
  show (F_law_deepest [some (.list (sp.map pairD)), none, none, none, none, none]).bind resP = _
  rw [e, Option.bind_some, hr]
/-- pairs that meet, counted by what stands ahead of each -/
theorem meet_turn {sp : List (Int × Int)} {p : List ((Int × Int) × Nat)} {x : (Int × Int) × Nat} {q : List ((Int × Int) × Nat)} (hx : sp.zipIdx = p ++ x :: q) :
    dSl none (some (x.2 : Int)) (.list (sp.map pairD)) = some (.list ((p.map (·.1)).map pairD)) ∧ pc ((p ++ [x]).map (·.1)).reverse = pc (p.map (·.1)).reverse + (p.map (·.1)).countP (meets x.1) := by
  obtain ⟨h1, h2, h3⟩ := zipIdx_cut hx
  refine ⟨?_, ?_⟩
  · show some (PyData.list (cutD (sp.map pairD) none (some (x.2 : Int)))) = _
    rw [cutD_to (by rw [List.length_map]; omega), h1, ← List.map_take, h2]
  · rw [List.map_append, List.map_singleton, List.reverse_append, List.reverse_singleton, List.singleton_append]
    show pc (p.map (·.1)).reverse + (p.map (·.1)).reverse.countP (meets x.1) = _
    rw [List.countP_reverse]
theorem fm_len {l : List (Int × Int)} {f : Int × Int → Bool} {g : Int × Int → D} : (l.filterMap fun y => if f y = true then some (g y) else none).length = l.countP f := by
  rw [List.countP_eq_length_filter]
  induction l with
  | nil => rfl
  | cons y r ih =>
    by_cases c : f y = true
    · rw [List.filterMap_cons_some (b := g y) (by rw [if_pos c]), List.filter_cons_of_pos c, List.length_cons, List.length_cons, ih]
    · rw [List.filterMap_cons_none (by rw [if_neg c]), List.filter_cons_of_neg c, ih]
theorem lawpairs {sp : List (Int × Int)} : g_law_pairs [.list (sp.map pairD)] = some (.int (pc sp)) := by
  refine wp_get (F := F_law_pairs) (env := [some (.list (sp.map pairD)), none, none, none, none, none]) rfl ?_
  unfold F_law_pairs
  refine wp_st [some (.list (sp.map pairD)), some (.int 0), none, none, none, none] (by simp only [fSeq, fNext, sIf, sIfP, sAsg, sAsgP, sDrop, sPar, sPar3, sAug, sRet, sRetP, sRetO, sForget, sAsgF, sMut, sSetI, setAt, fIxO, fIxP, dAt, fFlat, gCallM, gPop, f2, g2, f1, fNil, fCons, gNilE, gConsE, fCall, gCall, fLst, fTup, gLstE, gTupE, fTest, gTest, fAnd, fOr, fNot, gAnd, gOr, gNot, fIf, gIf, fAndV, fOrV, fNotV, fChain, fRev, tgTup, tgCons, tgNil, up, asB, asL, asT, asI, asS, enumA, zipA, setE, Option.bind_some, Option.bind_none, Option.map_some, Option.map_none, owns, List.mapM_cons, List.mapM_nil, List.set_cons_zero, List.set_cons_succ, gv_0, gv_1, gv_2, gv_3, gv_4, gv_5, gv_6, gv_7, gv_8, gv_9, gv_10, gv_11, gv_12, gv_13, ev_pure, ev_bind, wipeE, dI0, resP, resM, resF, dCmp, dGt, dLt, dLe, dGe, ix30, ix31, ix32, List.length_cons, List.length_nil, Nat.zero_add, Nat.reduceAdd, List.set_cons_zero, Bool.true_eq_false, Bool.false_eq_true, if_true, if_false, ite_true, ite_false, decide_true, decide_false, dInt, sz0, sz1, sz2, sz3, sz4, sz5, sz6, sz7]) ?_
  refine wp_seq (wp_for (fun p : (Int × Int) × Nat => PyData.tuple [.int (p.2 : Nat), pairD p.1]) sp.zipIdx (fun p e => e = [some (.list (sp.map pairD)), some (.int (pc (p.map (·.1)).reverse)), none, none, none, none])
    (env1 := [some (.list (sp.map pairD)), some (.int 0), none, none, none, none]) (by simp only [fSeq, fNext, sIf, sIfP, sAsg, sAsgP, sDrop, sPar, sPar3, sAug, sRet, sRetP, sRetO, sForget, sAsgF, sMut, sSetI, setAt, fIxO, fIxP, dAt, fFlat, gCallM, gPop, f2, g2, f1, fNil, fCons, gNilE, gConsE, fCall, gCall, fLst, fTup, gLstE, gTupE, fTest, gTest, fAnd, fOr, fNot, gAnd, gOr, gNot, fIf, gIf, fAndV, fOrV, fNotV, fChain, fRev, tgTup, tgCons, tgNil, up, asB, asL, asT, asI, asS, enumA, zipA, setE, Option.bind_some, Option.bind_none, Option.map_some, Option.map_none, owns, List.mapM_cons, List.mapM_nil, List.set_cons_zero, List.set_cons_succ, gv_0, gv_1, gv_2, gv_3, gv_4, gv_5, gv_6, gv_7, gv_8, gv_9, gv_10, gv_11, gv_12, gv_13, ev_pure, ev_bind, wipeE, dI0, resP, resM, resF, dCmp, dGt, dLt, dLe, dGe, ix30, ix31, ix32, List.length_cons, List.length_nil, Nat.zero_add, Nat.reduceAdd, List.set_cons_zero, Bool.true_eq_false, Bool.false_eq_true, if_true, if_false, ite_true, ite_false, decide_true, decide_false, dInt, sz0, sz1, sz2, sz3, sz4, sz5, sz6, sz7, enumD_map]) rfl ?_ ?_)
  · rintro p x q e hx rfl
    obtain ⟨t1, t2⟩ := meet_turn hx
    refine ⟨[some (.list (sp.map pairD)), some (.int (pc (p.map (·.1)).reverse)), some (.int (x.2 : Nat)), some (.int x.1.1), some (.int x.1.2), none], by simp only [fSeq, fNext, sIf, sIfP, sAsg, sAsgP, sDrop, sPar, sPar3, sAug, sRet, sRetP, sRetO, sForget, sAsgF, sMut, sSetI, setAt, fIxO, fIxP, dAt, fFlat, gCallM, gPop, f2, g2, f1, fNil, fCons, gNilE, gConsE, fCall, gCall, fLst, fTup, gLstE, gTupE, fTest, gTest, fAnd, fOr, fNot, gAnd, gOr, gNot, fIf, gIf, fAndV, fOrV, fNotV, fChain, fRev, tgTup, tgCons, tgNil, up, asB, asL, asT, asI, asS, enumA, zipA, setE, Option.bind_some, Option.bind_none, Option.map_some, Option.map_none, owns, List.mapM_cons, List.mapM_nil, List.set_cons_zero, List.set_cons_succ, gv_0, gv_1, gv_2, gv_3, gv_4, gv_5, gv_6, gv_7, gv_8, gv_9, gv_10, gv_11, gv_12, gv_13, ev_pure, ev_bind, wipeE, dI0, resP, resM, resF, dCmp, dGt, dLt, dLe, dGe, ix30, ix31, ix32, List.length_cons, List.length_nil, Nat.zero_add, Nat.reduceAdd, List.set_cons_zero, Bool.true_eq_false, Bool.false_eq_true, if_true, if_false, ite_true, ite_false, decide_true, decide_false, dInt, sz0, sz1, sz2, sz3, sz4, sz5, sz6, sz7, pairD], ?_⟩
    have eC : C1_law_pairs [some (.list (sp.map pairD)), some (.int (pc (p.map (·.1)).reverse)), some (.int (x.2 : Nat)), some (.int x.1.1), some (.int x.1.2), none] = some (.list ((p.map (·.1)).filterMap fun y => if meets x.1 y = true then some (pairD y) else none)) := by
      first | unfold C1_law_pairs | unfold C1_meeting_pairs
      refine lcF_map pairD (p.map (·.1)) (fun y => if meets x.1 y = true then some (pairD y) else none) ?_ fun y _ => ?_
      · simp only [fSl, gv_0, gv_2, Option.bind_some, Option.map_some, asI, t1, asS]
      · simp only [fSeq, fNext, sIf, sIfP, sAsg, sAsgP, sDrop, sPar, sPar3, sAug, sRet, sRetP, sRetO, sForget, sAsgF, sMut, sSetI, setAt, fIxO, fIxP, dAt, fFlat, gCallM, gPop, f2, g2, f1, fNil, fCons, gNilE, gConsE, fCall, gCall, fLst, fTup, gLstE, gTupE, fTest, gTest, fAnd, fOr, fNot, gAnd, gOr, gNot, fIf, gIf, fAndV, fOrV, fNotV, fChain, fRev, tgTup, tgCons, tgNil, up, asB, asL, asT, asI, asS, enumA, zipA, setE, Option.bind_some, Option.bind_none, Option.map_some, Option.map_none, owns, List.mapM_cons, List.mapM_nil, List.set_cons_zero, List.set_cons_succ, gv_0, gv_1, gv_2, gv_3, gv_4, gv_5, gv_6, gv_7, gv_8, gv_9, gv_10, gv_11, gv_12, gv_13, ev_pure, ev_bind, wipeE, dI0, resP, resM, resF, dCmp, dGt, dLt, dLe, dGe, ix30, ix31, ix32, List.length_cons, List.length_nil, Nat.zero_add, Nat.reduceAdd, List.set_cons_zero, Bool.true_eq_false, Bool.false_eq_true, if_true, if_false, ite_true, ite_false, decide_true, decide_false, dInt, sz0, sz1, sz2, sz3, sz4, sz5, sz6, sz7, dIx_p0, dIx_p1]
        unfold meets
        by_cases c1 : y.1 ≤ x.1.2 <;> by_cases c2 : x.1.1 ≤ y.2 <;> simp [c1, c2, asB]
    unfold B1_law_pairs
    refine wp_forget (Wp.of (a := .nx [some (.list (sp.map pairD)), some (.int (pc ((p ++ [x]).map (·.1)).reverse)), some (.int (x.2 : Nat)), some (.int x.1.1), some (.int x.1.2), none]) ?_ ?_)
    · skip
      simp only [fSeq, fNext, sIf, sIfP, sAsg, sAsgP, sDrop, sPar, sPar3, sAug, sRet, sRetP, sRetO, sForget, sAsgF, sMut, sSetI, setAt, fIxO, fIxP, dAt, fFlat, gCallM, gPop, f2, g2, f1, fNil, fCons, gNilE, gConsE, fCall, gCall, fLst, fTup, gLstE, gTupE, fTest, gTest, fAnd, fOr, fNot, gAnd, gOr, gNot, fIf, gIf, fAndV, fOrV, fNotV, fChain, fRev, tgTup, tgCons, tgNil, up, asB, asL, asT, asI, asS, enumA, zipA, setE, Option.bind_some, Option.bind_none, Option.map_some, Option.map_none, owns, List.mapM_cons, List.mapM_nil, List.set_cons_zero, List.set_cons_succ, gv_0, gv_1, gv_2, gv_3, gv_4, gv_5, gv_6, gv_7, gv_8, gv_9, gv_10, gv_11, gv_12, gv_13, ev_pure, ev_bind, wipeE, dI0, resP, resM, resF, dCmp, dGt, dLt, dLe, dGe, ix30, ix31, ix32, List.length_cons, List.length_nil, Nat.zero_add, Nat.reduceAdd, List.set_cons_zero, Bool.true_eq_false, Bool.false_eq_true, if_true, if_false, ite_true, ite_false, decide_true, decide_false, dInt, sz0, sz1, sz2, sz3, sz4, sz5, sz6, sz7, eC, dLen, fm_len, dAdd_i, t2, Int.natCast_add]
    · rfl
  · rintro e' rfl
    refine Wp.of (a := .rt (.int (pc sp)) []) ?_ rfl
    have : pc (sp.zipIdx.map (·.1)).reverse = pc sp := by
      have e : sp.zipIdx.map (·.1) = sp := by simp
      rw [e]
      exact pc_perm (List.reverse_perm sp)
    simp only [fSeq, fNext, sIf, sIfP, sAsg, sAsgP, sDrop, sPar, sPar3, sAug, sRet, sRetP, sRetO, sForget, sAsgF, sMut, sSetI, setAt, fIxO, fIxP, dAt, fFlat, gCallM, gPop, f2, g2, f1, fNil, fCons, gNilE, gConsE, fCall, gCall, fLst, fTup, gLstE, gTupE, fTest, gTest, fAnd, fOr, fNot, gAnd, gOr, gNot, fIf, gIf, fAndV, fOrV, fNotV, fChain, fRev, tgTup, tgCons, tgNil, up, asB, asL, asT, asI, asS, enumA, zipA, setE, Option.bind_some, Option.bind_none, Option.map_some, Option.map_none, owns, List.mapM_cons, List.mapM_nil, List.set_cons_zero, List.set_cons_succ, gv_0, gv_1, gv_2, gv_3, gv_4, gv_5, gv_6, gv_7, gv_8, gv_9, gv_10, gv_11, gv_12, gv_13, ev_pure, ev_bind, wipeE, dI0, resP, resM, resF, dCmp, dGt, dLt, dLe, dGe, ix30, ix31, ix32, List.length_cons, List.length_nil, Nat.zero_add, Nat.reduceAdd, List.set_cons_zero, Bool.true_eq_false, Bool.false_eq_true, if_true, if_false, ite_true, ite_false, decide_true, decide_false, dInt, sz0, sz1, sz2, sz3, sz4, sz5, sz6, sz7, this]
theorem meetpairs {sp : List (Int × Int)} (h1 : 1 ≤ sp.length) (h2 : sp.length ≤ 400) (hv : ∀ p ∈ sp, p.1 ≤ p.2) : g_meeting_pairs [.list (sp.map pairD)] = some (.int (pc sp)) := by
  refine wp_get (F := F_meeting_pairs) (env := [some (.list (sp.map pairD)), none, none, none, none, none]) rfl ?_
  unfold F_meeting_pairs
  refine wp_st [some (.list (sp.map pairD)), none, none, none, none, none] (by simp only [fSeq, fNext, sIf, sIfP, sAsg, sAsgP, sDrop, sPar, sPar3, sAug, sRet, sRetP, sRetO, sForget, sAsgF, sMut, sSetI, setAt, fIxO, fIxP, dAt, fFlat, gCallM, gPop, f2, g2, f1, fNil, fCons, gNilE, gConsE, fCall, gCall, fLst, fTup, gLstE, gTupE, fTest, gTest, fAnd, fOr, fNot, gAnd, gOr, gNot, fIf, gIf, fAndV, fOrV, fNotV, fChain, fRev, tgTup, tgCons, tgNil, up, asB, asL, asT, asI, asS, enumA, zipA, setE, Option.bind_some, Option.bind_none, Option.map_some, Option.map_none, owns, List.mapM_cons, List.mapM_nil, List.set_cons_zero, List.set_cons_succ, gv_0, gv_1, gv_2, gv_3, gv_4, gv_5, gv_6, gv_7, gv_8, gv_9, gv_10, gv_11, gv_12, gv_13, ev_pure, ev_bind, wipeE, dI0, resP, resM, resF, dCmp, dGt, dLt, dLe, dGe, ix30, ix31, ix32, List.length_cons, List.length_nil, Nat.zero_add, Nat.reduceAdd, List.set_cons_zero, Bool.true_eq_false, Bool.false_eq_true, if_true, if_false, ite_true, ite_false, decide_true, decide_false, dInt, sz0, sz1, sz2, sz3, sz4, sz5, sz6, sz7, need h1 h2 hv]) ?_
  refine wp_st [some (.list (sp.map pairD)), some (.int 0), none, none, none, none] (by simp only [fSeq, fNext, sIf, sIfP, sAsg, sAsgP, sDrop, sPar, sPar3, sAug, sRet, sRetP, sRetO, sForget, sAsgF, sMut, sSetI, setAt, fIxO, fIxP, dAt, fFlat, gCallM, gPop, f2, g2, f1, fNil, fCons, gNilE, gConsE, fCall, gCall, fLst, fTup, gLstE, gTupE, fTest, gTest, fAnd, fOr, fNot, gAnd, gOr, gNot, fIf, gIf, fAndV, fOrV, fNotV, fChain, fRev, tgTup, tgCons, tgNil, up, asB, asL, asT, asI, asS, enumA, zipA, setE, Option.bind_some, Option.bind_none, Option.map_some, Option.map_none, owns, List.mapM_cons, List.mapM_nil, List.set_cons_zero, List.set_cons_succ, gv_0, gv_1, gv_2, gv_3, gv_4, gv_5, gv_6, gv_7, gv_8, gv_9, gv_10, gv_11, gv_12, gv_13, ev_pure, ev_bind, wipeE, dI0, resP, resM, resF, dCmp, dGt, dLt, dLe, dGe, ix30, ix31, ix32, List.length_cons, List.length_nil, Nat.zero_add, Nat.reduceAdd, List.set_cons_zero, Bool.true_eq_false, Bool.false_eq_true, if_true, if_false, ite_true, ite_false, decide_true, decide_false, dInt, sz0, sz1, sz2, sz3, sz4, sz5, sz6, sz7]) ?_
  refine wp_seq (wp_for (fun p : (Int × Int) × Nat => PyData.tuple [.int (p.2 : Nat), pairD p.1]) sp.zipIdx (fun p e => e = [some (.list (sp.map pairD)), some (.int (pc (p.map (·.1)).reverse)), none, none, none, none])
    (env1 := [some (.list (sp.map pairD)), some (.int 0), none, none, none, none]) (by simp only [fSeq, fNext, sIf, sIfP, sAsg, sAsgP, sDrop, sPar, sPar3, sAug, sRet, sRetP, sRetO, sForget, sAsgF, sMut, sSetI, setAt, fIxO, fIxP, dAt, fFlat, gCallM, gPop, f2, g2, f1, fNil, fCons, gNilE, gConsE, fCall, gCall, fLst, fTup, gLstE, gTupE, fTest, gTest, fAnd, fOr, fNot, gAnd, gOr, gNot, fIf, gIf, fAndV, fOrV, fNotV, fChain, fRev, tgTup, tgCons, tgNil, up, asB, asL, asT, asI, asS, enumA, zipA, setE, Option.bind_some, Option.bind_none, Option.map_some, Option.map_none, owns, List.mapM_cons, List.mapM_nil, List.set_cons_zero, List.set_cons_succ, gv_0, gv_1, gv_2, gv_3, gv_4, gv_5, gv_6, gv_7, gv_8, gv_9, gv_10, gv_11, gv_12, gv_13, ev_pure, ev_bind, wipeE, dI0, resP, resM, resF, dCmp, dGt, dLt, dLe, dGe, ix30, ix31, ix32, List.length_cons, List.length_nil, Nat.zero_add, Nat.reduceAdd, List.set_cons_zero, Bool.true_eq_false, Bool.false_eq_true, if_true, if_false, ite_true, ite_false, decide_true, decide_false, dInt, sz0, sz1, sz2, sz3, sz4, sz5, sz6, sz7, enumD_map]) rfl ?_ ?_)
  · rintro p x q e hx rfl
    obtain ⟨t1, t2⟩ := meet_turn hx
    refine ⟨[some (.list (sp.map pairD)), some (.int (pc (p.map (·.1)).reverse)), some (.int (x.2 : Nat)), some (.int x.1.1), some (.int x.1.2), none], by simp only [fSeq, fNext, sIf, sIfP, sAsg, sAsgP, sDrop, sPar, sPar3, sAug, sRet, sRetP, sRetO, sForget, sAsgF, sMut, sSetI, setAt, fIxO, fIxP, dAt, fFlat, gCallM, gPop, f2, g2, f1, fNil, fCons, gNilE, gConsE, fCall, gCall, fLst, fTup, gLstE, gTupE, fTest, gTest, fAnd, fOr, fNot, gAnd, gOr, gNot, fIf, gIf, fAndV, fOrV, fNotV, fChain, fRev, tgTup, tgCons, tgNil, up, asB, asL, asT, asI, asS, enumA, zipA, setE, Option.bind_some, Option.bind_none, Option.map_some, Option.map_none, owns, List.mapM_cons, List.mapM_nil, List.set_cons_zero, List.set_cons_succ, gv_0, gv_1, gv_2, gv_3, gv_4, gv_5, gv_6, gv_7, gv_8, gv_9, gv_10, gv_11, gv_12, gv_13, ev_pure, ev_bind, wipeE, dI0, resP, resM, resF, dCmp, dGt, dLt, dLe, dGe, ix30, ix31, ix32, List.length_cons, List.length_nil, Nat.zero_add, Nat.reduceAdd, List.set_cons_zero, Bool.true_eq_false, Bool.false_eq_true, if_true, if_false, ite_true, ite_false, decide_true, decide_false, dInt, sz0, sz1, sz2, sz3, sz4, sz5, sz6, sz7, pairD], ?_⟩
    have eC : C1_meeting_pairs [some (.list (sp.map pairD)), some (.int (pc (p.map (·.1)).reverse)), some (.int (x.2 : Nat)), some (.int x.1.1), some (.int x.1.2), none] = some (.list ((p.map (·.1)).filterMap fun y => if meets x.1 y = true then some (pairD y) else none)) := by
      first | unfold C1_law_pairs | unfold C1_meeting_pairs
      refine lcF_map pairD (p.map (·.1)) (fun y => if meets x.1 y = true then some (pairD y) else none) ?_ fun y _ => ?_
      · simp only [fSl, gv_0, gv_2, Option.bind_some, Option.map_some, asI, t1, asS]
      · simp only [fSeq, fNext, sIf, sIfP, sAsg, sAsgP, sDrop, sPar, sPar3, sAug, sRet, sRetP, sRetO, sForget, sAsgF, sMut, sSetI, setAt, fIxO, fIxP, dAt, fFlat, gCallM, gPop, f2, g2, f1, fNil, fCons, gNilE, gConsE, fCall, gCall, fLst, fTup, gLstE, gTupE, fTest, gTest, fAnd, fOr, fNot, gAnd, gOr, gNot, fIf, gIf, fAndV, fOrV, fNotV, fChain, fRev, tgTup, tgCons, tgNil, up, asB, asL, asT, asI, asS, enumA, zipA, setE, Option.bind_some, Option.bind_none, Option.map_some, Option.map_none, owns, List.mapM_cons, List.mapM_nil, List.set_cons_zero, List.set_cons_succ, gv_0, gv_1, gv_2, gv_3, gv_4, gv_5, gv_6, gv_7, gv_8, gv_9, gv_10, gv_11, gv_12, gv_13, ev_pure, ev_bind, wipeE, dI0, resP, resM, resF, dCmp, dGt, dLt, dLe, dGe, ix30, ix31, ix32, List.length_cons, List.length_nil, Nat.zero_add, Nat.reduceAdd, List.set_cons_zero, Bool.true_eq_false, Bool.false_eq_true, if_true, if_false, ite_true, ite_false, decide_true, decide_false, dInt, sz0, sz1, sz2, sz3, sz4, sz5, sz6, sz7, dIx_p0, dIx_p1]
        unfold meets
        by_cases c1 : y.1 ≤ x.1.2 <;> by_cases c2 : x.1.1 ≤ y.2 <;> simp [c1, c2, asB]
    unfold B1_meeting_pairs
    refine wp_forget (Wp.of (a := .nx [some (.list (sp.map pairD)), some (.int (pc ((p ++ [x]).map (·.1)).reverse)), some (.int (x.2 : Nat)), some (.int x.1.1), some (.int x.1.2), none]) ?_ ?_)
    · skip
      simp only [fSeq, fNext, sIf, sIfP, sAsg, sAsgP, sDrop, sPar, sPar3, sAug, sRet, sRetP, sRetO, sForget, sAsgF, sMut, sSetI, setAt, fIxO, fIxP, dAt, fFlat, gCallM, gPop, f2, g2, f1, fNil, fCons, gNilE, gConsE, fCall, gCall, fLst, fTup, gLstE, gTupE, fTest, gTest, fAnd, fOr, fNot, gAnd, gOr, gNot, fIf, gIf, fAndV, fOrV, fNotV, fChain, fRev, tgTup, tgCons, tgNil, up, asB, asL, asT, asI, asS, enumA, zipA, setE, Option.bind_some, Option.bind_none, Option.map_some, Option.map_none, owns, List.mapM_cons, List.mapM_nil, List.set_cons_zero, List.set_cons_succ, gv_0, gv_1, gv_2, gv_3, gv_4, gv_5, gv_6, gv_7, gv_8, gv_9, gv_10, gv_11, gv_12, gv_13, ev_pure, ev_bind, wipeE, dI0, resP, resM, resF, dCmp, dGt, dLt, dLe, dGe, ix30, ix31, ix32, List.length_cons, List.length_nil, Nat.zero_add, Nat.reduceAdd, List.set_cons_zero, Bool.true_eq_false, Bool.false_eq_true, if_true, if_false, ite_true, ite_false, decide_true, decide_false, dInt, sz0, sz1, sz2, sz3, sz4, sz5, sz6, sz7, eC, dLen, fm_len, t2, Int.natCast_add]
    · rfl
  · rintro e' rfl
    refine Wp.of (a := .rt (.int (pc sp)) []) ?_ rfl
    have : pc (sp.zipIdx.map (·.1)).reverse = pc sp := by
      have e : sp.zipIdx.map (·.1) = sp := by simp
      rw [e]
      exact pc_perm (List.reverse_perm sp)
    simp only [fSeq, fNext, sIf, sIfP, sAsg, sAsgP, sDrop, sPar, sPar3, sAug, sRet, sRetP, sRetO, sForget, sAsgF, sMut, sSetI, setAt, fIxO, fIxP, dAt, fFlat, gCallM, gPop, f2, g2, f1, fNil, fCons, gNilE, gConsE, fCall, gCall, fLst, fTup, gLstE, gTupE, fTest, gTest, fAnd, fOr, fNot, gAnd, gOr, gNot, fIf, gIf, fAndV, fOrV, fNotV, fChain, fRev, tgTup, tgCons, tgNil, up, asB, asL, asT, asI, asS, enumA, zipA, setE, Option.bind_some, Option.bind_none, Option.map_some, Option.map_none, owns, List.mapM_cons, List.mapM_nil, List.set_cons_zero, List.set_cons_succ, gv_0, gv_1, gv_2, gv_3, gv_4, gv_5, gv_6, gv_7, gv_8, gv_9, gv_10, gv_11, gv_12, gv_13, ev_pure, ev_bind, wipeE, dI0, resP, resM, resF, dCmp, dGt, dLt, dLe, dGe, ix30, ix31, ix32, List.length_cons, List.length_nil, Nat.zero_add, Nat.reduceAdd, List.set_cons_zero, Bool.true_eq_false, Bool.false_eq_true, if_true, if_false, ite_true, ite_false, decide_true, decide_false, dInt, sz0, sz1, sz2, sz3, sz4, sz5, sz6, sz7, this]
/-- what the four functions tell -/
theorem told {sp : List (Int × Int)} {m : Nat} {s : Int} (h1 : 1 ≤ sp.length) (h2 : sp.length ≤ 400) (hv : ∀ p ∈ sp, p.1 ≤ p.2) (hd : Deep sp m s) :
    g_depth_of [.list (sp.map pairD)] = some (.int m) ∧ g_crowd_place [.list (sp.map pairD)] = some (.int s) ∧ g_fewest_left [.list (sp.map pairD)] = some (.int ((sp.length : Int) - m)) := by
  obtain ⟨m', s', e, hd'⟩ := crowd h1 h2 hv
  obtain ⟨rfl, rfl⟩ := hd.uniq hd'
  have hn := need h1 h2 hv
  refine ⟨?_, ?_, ?_⟩
  · refine wp_get (F := F_depth_of) (env := [some (.list (sp.map pairD))]) rfl (Wp.of (a := .rt (.int m) []) ?_ rfl)
    unfold F_depth_of
    simp only [fSeq, fNext, sIf, sIfP, sAsg, sAsgP, sDrop, sPar, sPar3, sAug, sRet, sRetP, sRetO, sForget, sAsgF, sMut, sSetI, setAt, fIxO, fIxP, dAt, fFlat, gCallM, gPop, f2, g2, f1, fNil, fCons, gNilE, gConsE, fCall, gCall, fLst, fTup, gLstE, gTupE, fTest, gTest, fAnd, fOr, fNot, gAnd, gOr, gNot, fIf, gIf, fAndV, fOrV, fNotV, fChain, fRev, tgTup, tgCons, tgNil, up, asB, asL, asT, asI, asS, enumA, zipA, setE, Option.bind_some, Option.bind_none, Option.map_some, Option.map_none, owns, List.mapM_cons, List.mapM_nil, List.set_cons_zero, List.set_cons_succ, gv_0, gv_1, gv_2, gv_3, gv_4, gv_5, gv_6, gv_7, gv_8, gv_9, gv_10, gv_11, gv_12, gv_13, ev_pure, ev_bind, wipeE, dI0, resP, resM, resF, dCmp, dGt, dLt, dLe, dGe, ix30, ix31, ix32, List.length_cons, List.length_nil, Nat.zero_add, Nat.reduceAdd, List.set_cons_zero, Bool.true_eq_false, Bool.false_eq_true, if_true, if_false, ite_true, ite_false, decide_true, decide_false, dInt, sz0, sz1, sz2, sz3, sz4, sz5, sz6, sz7, hn, e, dIx_p0]
  · refine wp_get (F := F_crowd_place) (env := [some (.list (sp.map pairD))]) rfl (Wp.of (a := .rt (.int s) []) ?_ rfl)
    unfold F_crowd_place
    simp only [fSeq, fNext, sIf, sIfP, sAsg, sAsgP, sDrop, sPar, sPar3, sAug, sRet, sRetP, sRetO, sForget, sAsgF, sMut, sSetI, setAt, fIxO, fIxP, dAt, fFlat, gCallM, gPop, f2, g2, f1, fNil, fCons, gNilE, gConsE, fCall, gCall, fLst, fTup, gLstE, gTupE, fTest, gTest, fAnd, fOr, fNot, gAnd, gOr, gNot, fIf, gIf, fAndV, fOrV, fNotV, fChain, fRev, tgTup, tgCons, tgNil, up, asB, asL, asT, asI, asS, enumA, zipA, setE, Option.bind_some, Option.bind_none, Option.map_some, Option.map_none, owns, List.mapM_cons, List.mapM_nil, List.set_cons_zero, List.set_cons_succ, gv_0, gv_1, gv_2, gv_3, gv_4, gv_5, gv_6, gv_7, gv_8, gv_9, gv_10, gv_11, gv_12, gv_13, ev_pure, ev_bind, wipeE, dI0, resP, resM, resF, dCmp, dGt, dLt, dLe, dGe, ix30, ix31, ix32, List.length_cons, List.length_nil, Nat.zero_add, Nat.reduceAdd, List.set_cons_zero, Bool.true_eq_false, Bool.false_eq_true, if_true, if_false, ite_true, ite_false, decide_true, decide_false, dInt, sz0, sz1, sz2, sz3, sz4, sz5, sz6, sz7, hn, e, dIx_p1]
  · refine wp_get (F := F_fewest_left) (env := [some (.list (sp.map pairD))]) rfl (Wp.of (a := .rt (.int ((sp.length : Int) - m)) []) ?_ rfl)
    unfold F_fewest_left
    simp only [fSeq, fNext, sIf, sIfP, sAsg, sAsgP, sDrop, sPar, sPar3, sAug, sRet, sRetP, sRetO, sForget, sAsgF, sMut, sSetI, setAt, fIxO, fIxP, dAt, fFlat, gCallM, gPop, f2, g2, f1, fNil, fCons, gNilE, gConsE, fCall, gCall, fLst, fTup, gLstE, gTupE, fTest, gTest, fAnd, fOr, fNot, gAnd, gOr, gNot, fIf, gIf, fAndV, fOrV, fNotV, fChain, fRev, tgTup, tgCons, tgNil, up, asB, asL, asT, asI, asS, enumA, zipA, setE, Option.bind_some, Option.bind_none, Option.map_some, Option.map_none, owns, List.mapM_cons, List.mapM_nil, List.set_cons_zero, List.set_cons_succ, gv_0, gv_1, gv_2, gv_3, gv_4, gv_5, gv_6, gv_7, gv_8, gv_9, gv_10, gv_11, gv_12, gv_13, ev_pure, ev_bind, wipeE, dI0, resP, resM, resF, dCmp, dGt, dLt, dLe, dGe, ix30, ix31, ix32, List.length_cons, List.length_nil, Nat.zero_add, Nat.reduceAdd, List.set_cons_zero, Bool.true_eq_false, Bool.false_eq_true, if_true, if_false, ite_true, ite_false, decide_true, decide_false, dInt, sz0, sz1, sz2, sz3, sz4, sz5, sz6, sz7, hn, e, dIx_p0, dLen, List.length_map]
end CSk60

namespace CSk60
open PySem CS
theorem pc_le : ∀ l : List (Int × Int), pc l ≤ l.length * l.length
  | [] => Nat.le_refl _
  | x :: r => by
    have h1 := pc_le r
    have h2 : r.countP (meets x) ≤ r.length := List.countP_le_length
    simp only [pc, List.length_cons, Nat.add_mul, Nat.mul_add]
    omega
theorem cnt_le (sp : List (Int × Int)) (a : Int) : cnt sp a ≤ sp.length := List.countP_le_length
theorem kw1 {g : List D → Option D} {x : D} : kwG 1 [0] g [x] = g [x] := rfl
theorem right {sp : List (Int × Int)} (h1 : 1 ≤ sp.length) (h2 : sp.length ≤ 400) (hv : ∀ p ∈ sp, SpOk (10 ^ 50) p) : g_law_right [.list (sp.map pairD)] = some (.bool true) := by
  have hv' : ∀ p ∈ sp, p.1 ≤ p.2 := fun p hp => (hv p hp).1
  obtain ⟨m, s, eD, hd⟩ := deepest h1 hv'
  obtain ⟨t1, t2, t3⟩ := told h1 h2 hv' hd
  have t4 := meetpairs h1 h2 hv'
  have t5 := lawpairs (sp := sp)
  have hr1 : 1 ≤ sp.reverse.length := by rw [List.length_reverse]; exact h1
  have hr2 : sp.reverse.length ≤ 400 := by rw [List.length_reverse]; exact h2
  have hrv : ∀ p ∈ sp.reverse, p.1 ≤ p.2 := fun p hp => hv' p (List.mem_reverse.mp hp)
  obtain ⟨u1, u2, u3⟩ := told hr1 hr2 hrv (hd.perm (List.reverse_perm sp).symm)
  have u4 := meetpairs hr1 hr2 hrv
  rw [pc_perm (List.reverse_perm sp)] at u4
  rw [List.length_reverse] at u3
  rw [List.map_reverse] at u1 u2 u3 u4
  have em : dSub (.int (sp.length : Int)) (.int (m : Int)) = some (.int ((sp.length : Int) - m)) := rfl
  have hsp : shows (.list (sp.map pairD)) = true := shows_pairs (by omega) fun p hp => by
    obtain ⟨a, b, c⟩ := hv p hp
    exact ⟨by omega, by omega⟩
  have hm : m ≤ sp.length := hd.2.1 ▸ cnt_le sp s
  have hs : s.natAbs < 10 ^ 100 := by
    obtain ⟨p, hp, rfl⟩ := List.mem_map.mp hd.1
    obtain ⟨a, b, c⟩ := hv p hp
    show p.1.natAbs < _
    omega
  have hpc : (pc sp : Int).natAbs < 10 ^ 100 := by
    have h3 := pc_le sp
    have h4 : sp.length * sp.length ≤ 400 * 400 := Nat.mul_le_mul h2 h2
    omega
  have hT : shows (.list [.int (m : Int), .int s, .int (pc sp : Int), .int ((sp.length : Int) - m)]) = true := shows_ints (ns := [(m : Int), s, (pc sp : Int), (sp.length : Int) - m]) (by simp) (by
    intro n hn
    simp at hn
    rcases hn with rfl | rfl | rfl | rfl
    · omega
    · exact hs
    · exact hpc
    · omega)
  have hTs : SeqAt.shaped (unS (.list [.int (m : Int), .int s, .int (pc sp : Int), .int ((sp.length : Int) - m)])) = true := shaped_ints [(m : Int), s, (pc sp : Int), (sp.length : Int) - m]
  have r1 := dRepr_list hsp
  have r2 := dRepr_list hT
  refine wp_get (F := F_law_right) (env := [some (.list (sp.map pairD)), none, none, none, none, none, none]) rfl ?_
  unfold F_law_right
  have eDt : (pairD ((m : Int), s)) = .tuple [.int (m : Int), .int s] := rfl
  rw [eDt] at eD
  refine wp_st [some (.list (sp.map pairD)), some (.str (PyData.shown (.list (sp.map pairD)))), some (.int m), some (.int s), none, none, none] (by simp only [fSeq, fNext, sIf, sIfP, sAsg, sAsgP, sDrop, sPar, sPar3, sAug, sRet, sRetP, sRetO, sForget, sAsgF, sMut, sSetI, setAt, fIxO, fIxP, dAt, fFlat, gCallM, gPop, f2, g2, f1, fNil, fCons, gNilE, gConsE, fCall, gCall, fLst, fTup, gLstE, gTupE, fTest, gTest, fAnd, fOr, fNot, gAnd, gOr, gNot, fIf, gIf, fAndV, fOrV, fNotV, fChain, fRev, tgTup, tgCons, tgNil, up, asB, asL, asT, asI, asS, enumA, zipA, setE, Option.bind_some, Option.bind_none, Option.map_some, Option.map_none, owns, List.mapM_cons, List.mapM_nil, List.set_cons_zero, List.set_cons_succ, gv_0, gv_1, gv_2, gv_3, gv_4, gv_5, gv_6, gv_7, gv_8, gv_9, gv_10, gv_11, gv_12, gv_13, ev_pure, ev_bind, wipeE, dI0, resP, resM, resF, dCmp, dGt, dLt, dLe, dGe, ix30, ix31, ix32, List.length_cons, List.length_nil, Nat.zero_add, Nat.reduceAdd, List.set_cons_zero, Bool.true_eq_false, Bool.false_eq_true, if_true, if_false, ite_true, ite_false, decide_true, decide_false, dInt, sz0, sz1, sz2, sz3, sz4, sz5, sz6, sz7, r1, eD]) ?_
  refine wp_st [some (.list (sp.map pairD)), some (.str (PyData.shown (.list (sp.map pairD)))), some (.int m), some (.int s), some (.list [.int (m : Int), .int s, .int (pc sp : Int), .int ((sp.length : Int) - m)]), none, none] (by simp only [fSeq, fNext, sIf, sIfP, sAsg, sAsgP, sDrop, sPar, sPar3, sAug, sRet, sRetP, sRetO, sForget, sAsgF, sMut, sSetI, setAt, fIxO, fIxP, dAt, fFlat, gCallM, gPop, f2, g2, f1, fNil, fCons, gNilE, gConsE, fCall, gCall, fLst, fTup, gLstE, gTupE, fTest, gTest, fAnd, fOr, fNot, gAnd, gOr, gNot, fIf, gIf, fAndV, fOrV, fNotV, fChain, fRev, tgTup, tgCons, tgNil, up, asB, asL, asT, asI, asS, enumA, zipA, setE, Option.bind_some, Option.bind_none, Option.map_some, Option.map_none, owns, List.mapM_cons, List.mapM_nil, List.set_cons_zero, List.set_cons_succ, gv_0, gv_1, gv_2, gv_3, gv_4, gv_5, gv_6, gv_7, gv_8, gv_9, gv_10, gv_11, gv_12, gv_13, ev_pure, ev_bind, wipeE, dI0, resP, resM, resF, dCmp, dGt, dLt, dLe, dGe, ix30, ix31, ix32, List.length_cons, List.length_nil, Nat.zero_add, Nat.reduceAdd, List.set_cons_zero, Bool.true_eq_false, Bool.false_eq_true, if_true, if_false, ite_true, ite_false, decide_true, decide_false, dInt, sz0, sz1, sz2, sz3, sz4, sz5, sz6, sz7, t5, dLen, List.length_map]) ?_
  refine wp_st [some (.list (sp.map pairD)), some (.str (PyData.shown (.list (sp.map pairD)))), some (.int m), some (.int s), some (.list [.int (m : Int), .int s, .int (pc sp : Int), .int ((sp.length : Int) - m)]), some (.list [.int (m : Int), .int s, .int (pc sp : Int), .int ((sp.length : Int) - m)]), none] (by simp only [fSeq, fNext, sIf, sIfP, sAsg, sAsgP, sDrop, sPar, sPar3, sAug, sRet, sRetP, sRetO, sForget, sAsgF, sMut, sSetI, setAt, fIxO, fIxP, dAt, fFlat, gCallM, gPop, f2, g2, f1, fNil, fCons, gNilE, gConsE, fCall, gCall, fLst, fTup, gLstE, gTupE, fTest, gTest, fAnd, fOr, fNot, gAnd, gOr, gNot, fIf, gIf, fAndV, fOrV, fNotV, fChain, fRev, tgTup, tgCons, tgNil, up, asB, asL, asT, asI, asS, enumA, zipA, setE, Option.bind_some, Option.bind_none, Option.map_some, Option.map_none, owns, List.mapM_cons, List.mapM_nil, List.set_cons_zero, List.set_cons_succ, gv_0, gv_1, gv_2, gv_3, gv_4, gv_5, gv_6, gv_7, gv_8, gv_9, gv_10, gv_11, gv_12, gv_13, ev_pure, ev_bind, wipeE, dI0, resP, resM, resF, dCmp, dGt, dLt, dLe, dGe, ix30, ix31, ix32, List.length_cons, List.length_nil, Nat.zero_add, Nat.reduceAdd, List.set_cons_zero, Bool.true_eq_false, Bool.false_eq_true, if_true, if_false, ite_true, ite_false, decide_true, decide_false, dInt, sz0, sz1, sz2, sz3, sz4, sz5, sz6, sz7, t1, t2, t3, t4]) ?_
  refine wp_seq (wp_ifP false (by simp only [fSeq, fNext, sIf, sIfP, sAsg, sAsgP, sDrop, sPar, sPar3, sAug, sRet, sRetP, sRetO, sForget, sAsgF, sMut, sSetI, setAt, fIxO, fIxP, dAt, fFlat, gCallM, gPop, f2, g2, f1, fNil, fCons, gNilE, gConsE, fCall, gCall, fLst, fTup, gLstE, gTupE, fTest, gTest, fAnd, fOr, fNot, gAnd, gOr, gNot, fIf, gIf, fAndV, fOrV, fNotV, fChain, fRev, tgTup, tgCons, tgNil, up, asB, asL, asT, asI, asS, enumA, zipA, setE, Option.bind_some, Option.bind_none, Option.map_some, Option.map_none, owns, List.mapM_cons, List.mapM_nil, List.set_cons_zero, List.set_cons_succ, gv_0, gv_1, gv_2, gv_3, gv_4, gv_5, gv_6, gv_7, gv_8, gv_9, gv_10, gv_11, gv_12, gv_13, ev_pure, ev_bind, wipeE, dI0, resP, resM, resF, dCmp, dGt, dLt, dLe, dGe, ix30, ix31, ix32, List.length_cons, List.length_nil, Nat.zero_add, Nat.reduceAdd, List.set_cons_zero, Bool.true_eq_false, Bool.false_eq_true, if_true, if_false, ite_true, ite_false, decide_true, decide_false, dInt, sz0, sz1, sz2, sz3, sz4, sz5, sz6, sz7, r1, r2, dEq_str_same, Bool.not_true]) nofun fun _ => Wp.of rfl ?_)
  refine wp_st [some (.list (sp.map pairD)), some (.str (PyData.shown (.list (sp.map pairD)))), some (.int m), some (.int s), some (.list [.int (m : Int), .int s, .int (pc sp : Int), .int ((sp.length : Int) - m)]), some (.list [.int (m : Int), .int s, .int (pc sp : Int), .int ((sp.length : Int) - m)]), none] (by simp only [fSeq, fNext, sIf, sIfP, sAsg, sAsgP, sDrop, sPar, sPar3, sAug, sRet, sRetP, sRetO, sForget, sAsgF, sMut, sSetI, setAt, fIxO, fIxP, dAt, fFlat, gCallM, gPop, f2, g2, f1, fNil, fCons, gNilE, gConsE, fCall, gCall, fLst, fTup, gLstE, gTupE, fTest, gTest, fAnd, fOr, fNot, gAnd, gOr, gNot, fIf, gIf, fAndV, fOrV, fNotV, fChain, fRev, tgTup, tgCons, tgNil, up, asB, asL, asT, asI, asS, enumA, zipA, setE, Option.bind_some, Option.bind_none, Option.map_some, Option.map_none, owns, List.mapM_cons, List.mapM_nil, List.set_cons_zero, List.set_cons_succ, gv_0, gv_1, gv_2, gv_3, gv_4, gv_5, gv_6, gv_7, gv_8, gv_9, gv_10, gv_11, gv_12, gv_13, ev_pure, ev_bind, wipeE, dI0, resP, resM, resF, dCmp, dGt, dLt, dLe, dGe, ix30, ix31, ix32, List.length_cons, List.length_nil, Nat.zero_add, Nat.reduceAdd, List.set_cons_zero, Bool.true_eq_false, Bool.false_eq_true, if_true, if_false, ite_true, ite_false, decide_true, decide_false, dInt, sz0, sz1, sz2, sz3, sz4, sz5, sz6, sz7, kw1, t1, t2, t3, t4]) ?_
  refine wp_seq (wp_ifP false (by simp only [fSeq, fNext, sIf, sIfP, sAsg, sAsgP, sDrop, sPar, sPar3, sAug, sRet, sRetP, sRetO, sForget, sAsgF, sMut, sSetI, setAt, fIxO, fIxP, dAt, fFlat, gCallM, gPop, f2, g2, f1, fNil, fCons, gNilE, gConsE, fCall, gCall, fLst, fTup, gLstE, gTupE, fTest, gTest, fAnd, fOr, fNot, gAnd, gOr, gNot, fIf, gIf, fAndV, fOrV, fNotV, fChain, fRev, tgTup, tgCons, tgNil, up, asB, asL, asT, asI, asS, enumA, zipA, setE, Option.bind_some, Option.bind_none, Option.map_some, Option.map_none, owns, List.mapM_cons, List.mapM_nil, List.set_cons_zero, List.set_cons_succ, gv_0, gv_1, gv_2, gv_3, gv_4, gv_5, gv_6, gv_7, gv_8, gv_9, gv_10, gv_11, gv_12, gv_13, ev_pure, ev_bind, wipeE, dI0, resP, resM, resF, dCmp, dGt, dLt, dLe, dGe, ix30, ix31, ix32, List.length_cons, List.length_nil, Nat.zero_add, Nat.reduceAdd, List.set_cons_zero, Bool.true_eq_false, Bool.false_eq_true, if_true, if_false, ite_true, ite_false, decide_true, decide_false, dInt, sz0, sz1, sz2, sz3, sz4, sz5, sz6, sz7, dEq_same hTs, Bool.not_true]) nofun fun _ => Wp.of rfl ?_)
  refine wp_st [some (.list (sp.map pairD)), some (.str (PyData.shown (.list (sp.map pairD)))), some (.int m), some (.int s), some (.list [.int (m : Int), .int s, .int (pc sp : Int), .int ((sp.length : Int) - m)]), some (.list [.int (m : Int), .int s, .int (pc sp : Int), .int ((sp.length : Int) - m)]), some (.list (sp.map pairD).reverse)] (by simp only [fSeq, fNext, sIf, sIfP, sAsg, sAsgP, sDrop, sPar, sPar3, sAug, sRet, sRetP, sRetO, sForget, sAsgF, sMut, sSetI, setAt, fIxO, fIxP, dAt, fFlat, gCallM, gPop, f2, g2, f1, fNil, fCons, gNilE, gConsE, fCall, gCall, fLst, fTup, gLstE, gTupE, fTest, gTest, fAnd, fOr, fNot, gAnd, gOr, gNot, fIf, gIf, fAndV, fOrV, fNotV, fChain, fRev, tgTup, tgCons, tgNil, up, asB, asL, asT, asI, asS, enumA, zipA, setE, Option.bind_some, Option.bind_none, Option.map_some, Option.map_none, owns, List.mapM_cons, List.mapM_nil, List.set_cons_zero, List.set_cons_succ, gv_0, gv_1, gv_2, gv_3, gv_4, gv_5, gv_6, gv_7, gv_8, gv_9, gv_10, gv_11, gv_12, gv_13, ev_pure, ev_bind, wipeE, dI0, resP, resM, resF, dCmp, dGt, dLt, dLe, dGe, ix30, ix31, ix32, List.length_cons, List.length_nil, Nat.zero_add, Nat.reduceAdd, List.set_cons_zero, Bool.true_eq_false, Bool.false_eq_true, if_true, if_false, ite_true, ite_false, decide_true, decide_false, dInt, sz0, sz1, sz2, sz3, sz4, sz5, sz6, sz7]) ?_
  exact Wp.of (a := .rt (.bool true) []) (by simp only [fSeq, fNext, sIf, sIfP, sAsg, sAsgP, sDrop, sPar, sPar3, sAug, sRet, sRetP, sRetO, sForget, sAsgF, sMut, sSetI, setAt, fIxO, fIxP, dAt, fFlat, gCallM, gPop, f2, g2, f1, fNil, fCons, gNilE, gConsE, fCall, gCall, fLst, fTup, gLstE, gTupE, fTest, gTest, fAnd, fOr, fNot, gAnd, gOr, gNot, fIf, gIf, fAndV, fOrV, fNotV, fChain, fRev, tgTup, tgCons, tgNil, up, asB, asL, asT, asI, asS, enumA, zipA, setE, Option.bind_some, Option.bind_none, Option.map_some, Option.map_none, owns, List.mapM_cons, List.mapM_nil, List.set_cons_zero, List.set_cons_succ, gv_0, gv_1, gv_2, gv_3, gv_4, gv_5, gv_6, gv_7, gv_8, gv_9, gv_10, gv_11, gv_12, gv_13, ev_pure, ev_bind, wipeE, dI0, resP, resM, resF, dCmp, dGt, dLt, dLe, dGe, ix30, ix31, ix32, List.length_cons, List.length_nil, Nat.zero_add, Nat.reduceAdd, List.set_cons_zero, Bool.true_eq_false, Bool.false_eq_true, if_true, if_false, ite_true, ite_false, decide_true, decide_false, dInt, sz0, sz1, sz2, sz3, sz4, sz5, sz6, sz7, u1, u2, u3, u4, dEq_same hTs, Bool.not_false]) rfl
/-! the law -/
theorem lap_pick {x : Nat} (h : x < 4) : ∃ c w : Int, L2.atI [PyData.int 4, PyData.int 12, PyData.int 40, PyData.int 40] (x : Int) = some (.int c) ∧ L2.atI [PyData.int 3, PyData.int 6, PyData.int 30, PyData.int (10 ^ 28)] (x : Int) = some (.int w) ∧ 1 ≤ c ∧ c ≤ 40 ∧ 0 ≤ w ∧ w ≤ 10 ^ 29 := by
  have : x = 0 ∨ x = 1 ∨ x = 2 ∨ x = 3 := by omega
  rcases this with rfl | rfl | rfl | rfl
  · exact ⟨4, 3, atI_0, atI_0, by decide, by decide, by decide, by decide⟩
  · exact ⟨12, 6, atI_1, atI_1, by decide, by decide, by decide, by decide⟩
  · exact ⟨40, 30, atI_2, atI_2, by decide, by decide, by decide, by decide⟩
  · exact ⟨40, 10 ^ 28, atI_3, atI_3, by decide, by decide, by decide, by decide⟩
theorem SpOk.wide {m : Nat} {sp : List (Int × Int)} (hm : m ≤ 1000) (h : ∀ p ∈ sp, SpOk (BW m) p) : ∀ p ∈ sp, SpOk (10 ^ 50) p := fun p hp => by
  obtain ⟨a, b, c⟩ := h p hp
  have : BW m ≤ 10 ^ 50 := by unfold BW; omega
  exact ⟨a, by omega, by omega⟩
theorem lap_turn {n x : Nat} {a b c : D} {src : List D} (hx : x < 4) (h : Src n src) (hn : n < 2 ^ 20) : Wp (B1_law [some a, some b, some c, some (.list src), some (.int (x : Nat)), none, none, none]) (Turn fun e => ∃ src', e = [some a, some b, some c, some (.list src'), none, none, none, none] ∧ Src (n + 1000) src') := by
  obtain ⟨cc, w, p1, p2, c1, c2, w1, w2⟩ := lap_pick hx
  have p28 : dPow (.int 10) (.int 28) = some (.int (10 ^ 28)) := dPowL (by decide) rfl
  obtain ⟨r, src1, d1, a1, b1, h1⟩ := draw (c := cc) h (by omega) (by omega) (by omega)
  obtain ⟨k, hk⟩ : ∃ k : Nat, 1 + r = (k : Int) := ⟨(1 + r).toNat, by omega⟩
  obtain ⟨sp, src2, d2, e1, e2, h2⟩ := spans (m := k) (w := w) h1 (by omega) (by omega) w1 w2
  have hr := right (sp := sp) (by omega) (by omega) (SpOk.wide (by omega) e2)
  unfold B1_law
  refine wp_forget ?_
  refine wp_st [some a, some b, some c, some (.list src2), some (.int (x : Nat)), some (.list (sp.map pairD)), none, none] (by simp only [fSeq, fNext, sIf, sIfP, sAsg, sAsgP, sDrop, sPar, sPar3, sAug, sRet, sRetP, sRetO, sForget, sAsgF, sMut, sSetI, setAt, fIxO, fIxP, dAt, fFlat, gCallM, gPop, f2, g2, f1, fNil, fCons, gNilE, gConsE, fCall, gCall, fLst, fTup, gLstE, gTupE, fTest, gTest, fAnd, fOr, fNot, gAnd, gOr, gNot, fIf, gIf, fAndV, fOrV, fNotV, fChain, fRev, tgTup, tgCons, tgNil, up, asB, asL, asT, asI, asS, enumA, zipA, setE, Option.bind_some, Option.bind_none, Option.map_some, Option.map_none, owns, List.mapM_cons, List.mapM_nil, List.set_cons_zero, List.set_cons_succ, gv_0, gv_1, gv_2, gv_3, gv_4, gv_5, gv_6, gv_7, gv_8, gv_9, gv_10, gv_11, gv_12, gv_13, ev_pure, ev_bind, wipeE, dI0, resP, resM, resF, dCmp, dGt, dLt, dLe, dGe, ix30, ix31, ix32, List.length_cons, List.length_nil, Nat.zero_add, Nat.reduceAdd, List.set_cons_zero, Bool.true_eq_false, Bool.false_eq_true, if_true, if_false, ite_true, ite_false, decide_true, decide_false, dInt, sz0, sz1, sz2, sz3, sz4, sz5, sz6, sz7, dIx, p1, p2, p28, d1, dAdd_i, hk, d2]) ?_
  refine wp_ifP false (by simp only [fSeq, fNext, sIf, sIfP, sAsg, sAsgP, sDrop, sPar, sPar3, sAug, sRet, sRetP, sRetO, sForget, sAsgF, sMut, sSetI, setAt, fIxO, fIxP, dAt, fFlat, gCallM, gPop, f2, g2, f1, fNil, fCons, gNilE, gConsE, fCall, gCall, fLst, fTup, gLstE, gTupE, fTest, gTest, fAnd, fOr, fNot, gAnd, gOr, gNot, fIf, gIf, fAndV, fOrV, fNotV, fChain, fRev, tgTup, tgCons, tgNil, up, asB, asL, asT, asI, asS, enumA, zipA, setE, Option.bind_some, Option.bind_none, Option.map_some, Option.map_none, owns, List.mapM_cons, List.mapM_nil, List.set_cons_zero, List.set_cons_succ, gv_0, gv_1, gv_2, gv_3, gv_4, gv_5, gv_6, gv_7, gv_8, gv_9, gv_10, gv_11, gv_12, gv_13, ev_pure, ev_bind, wipeE, dI0, resP, resM, resF, dCmp, dGt, dLt, dLe, dGe, ix30, ix31, ix32, List.length_cons, List.length_nil, Nat.zero_add, Nat.reduceAdd, List.set_cons_zero, Bool.true_eq_false, Bool.false_eq_true, if_true, if_false, ite_true, ite_false, decide_true, decide_false, dInt, sz0, sz1, sz2, sz3, sz4, sz5, sz6, sz7, hr, Bool.not_true]) nofun fun _ => Wp.of (a := .nx [some a, some b, some c, some (.list src2), some (.int (x : Nat)), some (.list (sp.map pairD)), none, none]) rfl ?_
  exact ⟨src2, rfl, h2.mono (by omega)⟩
theorem entry_turn {ns : List Int} {k : Nat} {z : Int} (hk : k ≤ 63) : Wp (B2_law [some (.dict [(.none, .list (ns.map PyData.int))]), some (.int (k : Nat)), some (.int z), none, none, none, none, none]) (Turn fun e => e = [some (.dict [(.none, .list (ns.map PyData.int))]), none, none, none, none, none, none, none]) := by
  obtain ⟨src, d0, h0⟩ := source (z := z) (k := (k : Int)) (by omega) (by omega)
  have p6 : dPow (.int 10) (.int 6) = some (.int (10 ^ 6)) := dPowL (by decide) rfl
  unfold B2_law
  refine wp_forget ?_
  refine wp_st [some (.dict [(.none, .list (ns.map PyData.int))]), some (.int (k : Nat)), some (.int z), some (.list src), none, none, none, none] (by simp only [fSeq, fNext, sIf, sIfP, sAsg, sAsgP, sDrop, sPar, sPar3, sAug, sRet, sRetP, sRetO, sForget, sAsgF, sMut, sSetI, setAt, fIxO, fIxP, dAt, fFlat, gCallM, gPop, f2, g2, f1, fNil, fCons, gNilE, gConsE, fCall, gCall, fLst, fTup, gLstE, gTupE, fTest, gTest, fAnd, fOr, fNot, gAnd, gOr, gNot, fIf, gIf, fAndV, fOrV, fNotV, fChain, fRev, tgTup, tgCons, tgNil, up, asB, asL, asT, asI, asS, enumA, zipA, setE, Option.bind_some, Option.bind_none, Option.map_some, Option.map_none, owns, List.mapM_cons, List.mapM_nil, List.set_cons_zero, List.set_cons_succ, gv_0, gv_1, gv_2, gv_3, gv_4, gv_5, gv_6, gv_7, gv_8, gv_9, gv_10, gv_11, gv_12, gv_13, ev_pure, ev_bind, wipeE, dI0, resP, resM, resF, dCmp, dGt, dLt, dLe, dGe, ix30, ix31, ix32, List.length_cons, List.length_nil, Nat.zero_add, Nat.reduceAdd, List.set_cons_zero, Bool.true_eq_false, Bool.false_eq_true, if_true, if_false, ite_true, ite_false, decide_true, decide_false, dInt, sz0, sz1, sz2, sz3, sz4, sz5, sz6, sz7, d0, Nat.reduceLT]) ?_
  refine wp_seq (wp_for (fun i : Nat => PyData.int (i : Int)) (List.range 4) (fun p e => ∃ src', e = [some (.dict [(.none, .list (ns.map PyData.int))]), some (.int (k : Nat)), some (.int z), some (.list src'), none, none, none, none] ∧ Src (1000 * p.length) src')
    (env1 := [some (.dict [(.none, .list (ns.map PyData.int))]), some (.int (k : Nat)), some (.int z), some (.list src), none, none, none, none]) (by
      have := rng1_nat (m := 4) (by decide)
      simp only [fSeq, fNext, sIf, sIfP, sAsg, sAsgP, sDrop, sPar, sPar3, sAug, sRet, sRetP, sRetO, sForget, sAsgF, sMut, sSetI, setAt, fIxO, fIxP, dAt, fFlat, gCallM, gPop, f2, g2, f1, fNil, fCons, gNilE, gConsE, fCall, gCall, fLst, fTup, gLstE, gTupE, fTest, gTest, fAnd, fOr, fNot, gAnd, gOr, gNot, fIf, gIf, fAndV, fOrV, fNotV, fChain, fRev, tgTup, tgCons, tgNil, up, asB, asL, asT, asI, asS, enumA, zipA, setE, Option.bind_some, Option.bind_none, Option.map_some, Option.map_none, owns, List.mapM_cons, List.mapM_nil, List.set_cons_zero, List.set_cons_succ, gv_0, gv_1, gv_2, gv_3, gv_4, gv_5, gv_6, gv_7, gv_8, gv_9, gv_10, gv_11, gv_12, gv_13, ev_pure, ev_bind, wipeE, dI0, resP, resM, resF, dCmp, dGt, dLt, dLe, dGe, ix30, ix31, ix32, List.length_cons, List.length_nil, Nat.zero_add, Nat.reduceAdd, List.set_cons_zero, Bool.true_eq_false, Bool.false_eq_true, if_true, if_false, ite_true, ite_false, decide_true, decide_false, dInt, sz0, sz1, sz2, sz3, sz4, sz5, sz6, sz7]
      exact congrArg (Option.map _) this) ⟨src, rfl, h0⟩ ?_ ?_)
  · rintro p x q e hx ⟨src', rfl, hs⟩
    have hl : x < 4 ∧ p.length < 4 := by
      have h1 : x ∈ List.range 4 := by rw [hx]; simp
      have h2 := congrArg List.length hx
      simp at h1 h2
      omega
    refine ⟨_, rfl, (lap_turn hl.1 hs (by omega)).imp ?_⟩
    intro o ho
    cases o with
    | nx e => obtain ⟨s2, a, b⟩ := ho; exact ⟨s2, a, b.mono (by simp; omega)⟩
    | ct e => obtain ⟨s2, a, b⟩ := ho; exact ⟨s2, a, b.mono (by simp; omega)⟩
    | rt _ _ => exact ho.elim
    | bk _ => exact ho.elim
  · rintro e' ⟨src', rfl, hs⟩
    have hs : Src 4000 src' := by simpa using hs
    have esc : dEq true (.dict [(.none, .list (ns.map PyData.int))]) (.list []) = some (.bool (!(ns.map PyData.int).isEmpty)) := dEq_nil (shaped_ints ns)
    by_cases c1 : (k : Int) = 0
    · by_cases c2 : (ns.map PyData.int).isEmpty = true
      · refine wp_if false [some (.dict [(.none, .list (ns.map PyData.int))]), some (.int (k : Nat)), some (.int z), some (.list src'), none, none, none, none] ?_ nofun fun _ => Wp.of rfl rfl
        simp only [fSeq, fNext, sIf, sIfP, sAsg, sAsgP, sDrop, sPar, sPar3, sAug, sRet, sRetP, sRetO, sForget, sAsgF, sMut, sSetI, setAt, fIxO, fIxP, dAt, fFlat, gCallM, gPop, f2, g2, f1, fNil, fCons, gNilE, gConsE, fCall, gCall, fLst, fTup, gLstE, gTupE, fTest, gTest, fAnd, fOr, fNot, gAnd, gOr, gNot, fIf, gIf, fAndV, fOrV, fNotV, fChain, fRev, tgTup, tgCons, tgNil, up, asB, asL, asT, asI, asS, enumA, zipA, setE, Option.bind_some, Option.bind_none, Option.map_some, Option.map_none, owns, List.mapM_cons, List.mapM_nil, List.set_cons_zero, List.set_cons_succ, gv_0, gv_1, gv_2, gv_3, gv_4, gv_5, gv_6, gv_7, gv_8, gv_9, gv_10, gv_11, gv_12, gv_13, ev_pure, ev_bind, wipeE, dI0, resP, resM, resF, dCmp, dGt, dLt, dLe, dGe, ix30, ix31, ix32, List.length_cons, List.length_nil, Nat.zero_add, Nat.reduceAdd, List.set_cons_zero, Bool.true_eq_false, Bool.false_eq_true, if_true, if_false, ite_true, ite_false, decide_true, decide_false, dInt, sz0, sz1, sz2, sz3, sz4, sz5, sz6, sz7, dEq_eqi, decide_eq_true c1, esc, c2, Bool.not_true]
      · obtain ⟨r, src1, d1, a1, b1, h1⟩ := draw (c := 2) hs (by omega) (by omega) (by omega)
        obtain ⟨w, hw, w1, w2⟩ : ∃ w : Int, L2.atI [PyData.int 30, PyData.int (10 ^ 6)] r = some (.int w) ∧ 0 ≤ w ∧ w ≤ 10 ^ 29 := by
          have : r = 0 ∨ r = 1 := by omega
          rcases this with rfl | rfl
          · exact ⟨30, atI_0, by decide, by decide⟩
          · exact ⟨10 ^ 6, atI_1, by decide, by decide⟩
        obtain ⟨sp, src2, d2, e1, e2, h2⟩ := spans (m := 400) (w := w) h1 (by omega) (by omega) w1 w2
        have hr := right (sp := sp) (by omega) (by omega) (SpOk.wide (by omega) e2)
        have c2' : (ns.map PyData.int).isEmpty = false := by simpa using c2
        have d2' : g_law_spans src1 [.int 400, .int w] = some (.list (sp.map pairD), src2) := d2
        refine wp_if false [some (.dict [(.none, .list (ns.map PyData.int))]), some (.int (k : Nat)), some (.int z), some (.list src2), none, none, none, none] ?_ nofun fun _ => Wp.of rfl rfl
        simp only [fSeq, fNext, sIf, sIfP, sAsg, sAsgP, sDrop, sPar, sPar3, sAug, sRet, sRetP, sRetO, sForget, sAsgF, sMut, sSetI, setAt, fIxO, fIxP, dAt, fFlat, gCallM, gPop, f2, g2, f1, fNil, fCons, gNilE, gConsE, fCall, gCall, fLst, fTup, gLstE, gTupE, fTest, gTest, fAnd, fOr, fNot, gAnd, gOr, gNot, fIf, gIf, fAndV, fOrV, fNotV, fChain, fRev, tgTup, tgCons, tgNil, up, asB, asL, asT, asI, asS, enumA, zipA, setE, Option.bind_some, Option.bind_none, Option.map_some, Option.map_none, owns, List.mapM_cons, List.mapM_nil, List.set_cons_zero, List.set_cons_succ, gv_0, gv_1, gv_2, gv_3, gv_4, gv_5, gv_6, gv_7, gv_8, gv_9, gv_10, gv_11, gv_12, gv_13, ev_pure, ev_bind, wipeE, dI0, resP, resM, resF, dCmp, dGt, dLt, dLe, dGe, ix30, ix31, ix32, List.length_cons, List.length_nil, Nat.zero_add, Nat.reduceAdd, List.set_cons_zero, Bool.true_eq_false, Bool.false_eq_true, if_true, if_false, ite_true, ite_false, decide_true, decide_false, dInt, sz0, sz1, sz2, sz3, sz4, sz5, sz6, sz7, dEq_eqi, decide_eq_true c1, esc, c2', Bool.not_false, p6, d1, dIx, hw, d2', hr, Bool.not_true]
    · refine wp_if false [some (.dict [(.none, .list (ns.map PyData.int))]), some (.int (k : Nat)), some (.int z), some (.list src'), none, none, none, none] ?_ nofun fun _ => Wp.of rfl rfl
      simp only [fSeq, fNext, sIf, sIfP, sAsg, sAsgP, sDrop, sPar, sPar3, sAug, sRet, sRetP, sRetO, sForget, sAsgF, sMut, sSetI, setAt, fIxO, fIxP, dAt, fFlat, gCallM, gPop, f2, g2, f1, fNil, fCons, gNilE, gConsE, fCall, gCall, fLst, fTup, gLstE, gTupE, fTest, gTest, fAnd, fOr, fNot, gAnd, gOr, gNot, fIf, gIf, fAndV, fOrV, fNotV, fChain, fRev, tgTup, tgCons, tgNil, up, asB, asL, asT, asI, asS, enumA, zipA, setE, Option.bind_some, Option.bind_none, Option.map_some, Option.map_none, owns, List.mapM_cons, List.mapM_nil, List.set_cons_zero, List.set_cons_succ, gv_0, gv_1, gv_2, gv_3, gv_4, gv_5, gv_6, gv_7, gv_8, gv_9, gv_10, gv_11, gv_12, gv_13, ev_pure, ev_bind, wipeE, dI0, resP, resM, resF, dCmp, dGt, dLt, dLe, dGe, ix30, ix31, ix32, List.length_cons, List.length_nil, Nat.zero_add, Nat.reduceAdd, List.set_cons_zero, Bool.true_eq_false, Bool.false_eq_true, if_true, if_false, ite_true, ite_false, decide_true, decide_false, dInt, sz0, sz1, sz2, sz3, sz4, sz5, sz6, sz7, dEq_eqi, decide_eq_false c1]
theorem ranges_of {sp : List (Int × Int)} {m : Nat} {s : Int} (h1 : 1 ≤ sp.length) (h2 : sp.length ≤ 400) (hv : ∀ p ∈ sp, p.1 ≤ p.2) (hd : Deep sp m s) {ds : List D} (e : ds = sp.map pairD) :
    g_depth_of [.list ds] = some (.int m) ∧ g_crowd_place [.list ds] = some (.int s) ∧ g_meeting_pairs [.list ds] = some (.int (pc sp)) ∧ g_fewest_left [.list ds] = some (.int ((sp.length : Int) - m)) := by
  subst e
  obtain ⟨a, b, c⟩ := told h1 h2 hv hd
  exact ⟨a, b, meetpairs h1 h2 hv, c⟩
instance {sp : List (Int × Int)} {m : Nat} {s : Int} : Decidable (Deep sp m s) := by unfold Deep; exact inferInstance
theorem g_law_true (ns : List Int) (hl : ns.length ≤ 63) (hb : ∀ z ∈ ns, Builtin.Int.intBits z ≤ 1048576) : g_law [.dict [(.none, .list (ns.map PyData.int))]] = some (.bool true) := by
  refine wp_get (F := F_law) (env := [some (.dict [(.none, .list (ns.map PyData.int))]), none, none, none, none, none, none, none]) rfl ?_
  unfold F_law
  obtain ⟨h, hh, hle⟩ : ∃ h : Nat, (if (if (4 : Int) < (ns.length : Int) then (4 : Int) else (ns.length : Int)) > 1 then (if (4 : Int) < (ns.length : Int) then (4 : Int) else (ns.length : Int)) else 1) = (h : Int) ∧ h ≤ ns.length + 1 ∧ h ≤ 4 := by
    refine ⟨(if (if (4 : Int) < (ns.length : Int) then (4 : Int) else (ns.length : Int)) > 1 then (if (4 : Int) < (ns.length : Int) then (4 : Int) else (ns.length : Int)) else 1).toNat, ?_, ?_, ?_⟩ <;> (repeat' split) <;> omega
  have eadd : dAdd (.dict [(.none, .list (ns.map PyData.int))]) (.list [.int 0]) = some (.list ((ns ++ [0]).map PyData.int)) := by
    show (if (ns.map PyData.int).length + [PyData.int 0].length ≤ sizeLine then some (PyData.list (ns.map PyData.int ++ [.int 0])) else none) = _
    rw [if_pos (by rw [List.length_map]; have := sizeL; simp; omega), List.map_append]
    rfl
  have esl : dSl none (some (h : Int)) (.list ((ns ++ [0]).map PyData.int)) = some (.list (((ns ++ [0]).take h).map PyData.int)) := by
    show some (PyData.list (cutD _ none (some (h : Int)))) = _
    rw [cutD_to (by simp; omega), List.map_take]
  refine wp_seq (wp_for (fun p : Int × Nat => PyData.tuple [.int (p.2 : Nat), .int p.1]) ((ns ++ [0]).take h).zipIdx (fun p e => e = [some (.dict [(.none, .list (ns.map PyData.int))]), none, none, none, none, none, none, none])
    (env1 := [some (.dict [(.none, .list (ns.map PyData.int))]), none, none, none, none, none, none, none]) ?_ rfl ?_ ?_)
  · simp only [fSeq, fNext, sIf, sIfP, sAsg, sAsgP, sDrop, sPar, sPar3, sAug, sRet, sRetP, sRetO, sForget, sAsgF, sMut, sSetI, setAt, fIxO, fIxP, dAt, fFlat, gCallM, gPop, f2, g2, f1, fNil, fCons, gNilE, gConsE, fCall, gCall, fLst, fTup, gLstE, gTupE, fTest, gTest, fAnd, fOr, fNot, gAnd, gOr, gNot, fIf, gIf, fAndV, fOrV, fNotV, fChain, fRev, tgTup, tgCons, tgNil, up, asB, asL, asT, asI, asS, enumA, zipA, setE, Option.bind_some, Option.bind_none, Option.map_some, Option.map_none, owns, List.mapM_cons, List.mapM_nil, List.set_cons_zero, List.set_cons_succ, gv_0, gv_1, gv_2, gv_3, gv_4, gv_5, gv_6, gv_7, gv_8, gv_9, gv_10, gv_11, gv_12, gv_13, ev_pure, ev_bind, wipeE, dI0, resP, resM, resF, dCmp, dGt, dLt, dLe, dGe, ix30, ix31, ix32, List.length_cons, List.length_nil, Nat.zero_add, Nat.reduceAdd, List.set_cons_zero, Bool.true_eq_false, Bool.false_eq_true, if_true, if_false, ite_true, ite_false, decide_true, decide_false, dInt, sz0, sz1, sz2, sz3, sz4, sz5, sz6, sz7, fSl, eadd, dLen, List.length_map, dMin2, dMax2, hh, esl, enumD_map]
  · rintro p x q e hx rfl
    refine ⟨[some (.dict [(.none, .list (ns.map PyData.int))]), some (.int (x.2 : Nat)), some (.int x.1), none, none, none, none, none], by simp only [fSeq, fNext, sIf, sIfP, sAsg, sAsgP, sDrop, sPar, sPar3, sAug, sRet, sRetP, sRetO, sForget, sAsgF, sMut, sSetI, setAt, fIxO, fIxP, dAt, fFlat, gCallM, gPop, f2, g2, f1, fNil, fCons, gNilE, gConsE, fCall, gCall, fLst, fTup, gLstE, gTupE, fTest, gTest, fAnd, fOr, fNot, gAnd, gOr, gNot, fIf, gIf, fAndV, fOrV, fNotV, fChain, fRev, tgTup, tgCons, tgNil, up, asB, asL, asT, asI, asS, enumA, zipA, setE, Option.bind_some, Option.bind_none, Option.map_some, Option.map_none, owns, List.mapM_cons, List.mapM_nil, List.set_cons_zero, List.set_cons_succ, gv_0, gv_1, gv_2, gv_3, gv_4, gv_5, gv_6, gv_7, gv_8, gv_9, gv_10, gv_11, gv_12, gv_13, ev_pure, ev_bind, wipeE, dI0, resP, resM, resF, dCmp, dGt, dLt, dLe, dGe, ix30, ix31, ix32, List.length_cons, List.length_nil, Nat.zero_add, Nat.reduceAdd, List.set_cons_zero, Bool.true_eq_false, Bool.false_eq_true, if_true, if_false, ite_true, ite_false, decide_true, decide_false, dInt, sz0, sz1, sz2, sz3, sz4, sz5, sz6, sz7], ?_⟩
    obtain ⟨h1, h2, h3⟩ := zipIdx_cut hx
    have : p.length < h := by rw [List.length_take] at h3; omega
    exact entry_turn (by omega)
  · rintro e' rfl
    obtain ⟨a1, a2, a3, a4⟩ := ranges_of (sp := [(0, 4), (3, 6), (5, 9), (8, 9), (20, 20)]) (m := 2) (s := 3) (by decide) (by decide) (by decide) (by decide) (ds := [.tuple [.int 0, .int 4], .tuple [.int 3, .int 6], .tuple [.int 5, .int 9], .tuple [.int 8, .int 9], .tuple [.int 20, .int 20]]) rfl
    obtain ⟨b1, b2, b3, b4⟩ := ranges_of (sp := [(1, 2), (2, 3), (-7, -7)]) (m := 2) (s := 2) (by decide) (by decide) (by decide) (by decide) (ds := [.tuple [.int 1, .int 2], .tuple [.int 2, .int 3], .tuple [.int (-7), .int (-7)]]) rfl
    have hcnt : cnt (List.replicate 400 ((5, 5) : Int × Int)) 5 = 400 := by
      unfold cnt
      rw [List.countP_replicate, if_pos (by decide)]
    obtain ⟨c1, c2, c3, c4⟩ := ranges_of (sp := List.replicate 400 (5, 5)) (m := 400) (s := 5) (by simp) (by simp) (by
      intro p hp
      rw [List.eq_of_mem_replicate hp]
      decide) ⟨by simp, hcnt.symm, fun a ha => by
        rw [List.map_replicate] at ha
        rw [List.eq_of_mem_replicate ha, hcnt]
        exact ⟨Nat.le_refl _, fun _ => Int.le_refl _⟩⟩ (ds := repD 400 [.tuple [.int 5, .int 5]]) (by unfold repD; rw [List.map_replicate, List.flatten_replicate_singleton]; rfl)
    have er : dMul (.list [.tuple [.int 5, .int 5]]) (.int 400) = some (.list (repD 400 [.tuple [.int 5, .int 5]])) := dMul_list (by decide) (by decide) (by show 1 * 400 ≤ sizeLine; decide)
    have epc : pc [(0, 4), (3, 6), (5, 9), (8, 9), (20, 20)] = 3 := by decide
    rw [epc] at a3
    rw [List.length_replicate] at c4
    refine wp_st [some (.dict [(.none, .list (ns.map PyData.int))]), none, none, none, none, none, some (.list [.tuple [.int 0, .int 4], .tuple [.int 3, .int 6], .tuple [.int 5, .int 9], .tuple [.int 8, .int 9], .tuple [.int 20, .int 20]]), none] (by simp only [fSeq, fNext, sIf, sIfP, sAsg, sAsgP, sDrop, sPar, sPar3, sAug, sRet, sRetP, sRetO, sForget, sAsgF, sMut, sSetI, setAt, fIxO, fIxP, dAt, fFlat, gCallM, gPop, f2, g2, f1, fNil, fCons, gNilE, gConsE, fCall, gCall, fLst, fTup, gLstE, gTupE, fTest, gTest, fAnd, fOr, fNot, gAnd, gOr, gNot, fIf, gIf, fAndV, fOrV, fNotV, fChain, fRev, tgTup, tgCons, tgNil, up, asB, asL, asT, asI, asS, enumA, zipA, setE, Option.bind_some, Option.bind_none, Option.map_some, Option.map_none, owns, List.mapM_cons, List.mapM_nil, List.set_cons_zero, List.set_cons_succ, gv_0, gv_1, gv_2, gv_3, gv_4, gv_5, gv_6, gv_7, gv_8, gv_9, gv_10, gv_11, gv_12, gv_13, ev_pure, ev_bind, wipeE, dI0, resP, resM, resF, dCmp, dGt, dLt, dLe, dGe, ix30, ix31, ix32, List.length_cons, List.length_nil, Nat.zero_add, Nat.reduceAdd, List.set_cons_zero, Bool.true_eq_false, Bool.false_eq_true, if_true, if_false, ite_true, ite_false, decide_true, decide_false, dInt, sz0, sz1, sz2, sz3, sz4, sz5, sz6, sz7]) ?_
    refine wp_st [some (.dict [(.none, .list (ns.map PyData.int))]), none, none, none, none, none, some (.list [.tuple [.int 0, .int 4], .tuple [.int 3, .int 6], .tuple [.int 5, .int 9], .tuple [.int 8, .int 9], .tuple [.int 20, .int 20]]), some (.list [.int 2, .int 3, .int 3, .int 0])] (by
      simp only [fSeq, fNext, sIf, sIfP, sAsg, sAsgP, sDrop, sPar, sPar3, sAug, sRet, sRetP, sRetO, sForget, sAsgF, sMut, sSetI, setAt, fIxO, fIxP, dAt, fFlat, gCallM, gPop, f2, g2, f1, fNil, fCons, gNilE, gConsE, fCall, gCall, fLst, fTup, gLstE, gTupE, fTest, gTest, fAnd, fOr, fNot, gAnd, gOr, gNot, fIf, gIf, fAndV, fOrV, fNotV, fChain, fRev, tgTup, tgCons, tgNil, up, asB, asL, asT, asI, asS, enumA, zipA, setE, Option.bind_some, Option.bind_none, Option.map_some, Option.map_none, owns, List.mapM_cons, List.mapM_nil, List.set_cons_zero, List.set_cons_succ, gv_0, gv_1, gv_2, gv_3, gv_4, gv_5, gv_6, gv_7, gv_8, gv_9, gv_10, gv_11, gv_12, gv_13, ev_pure, ev_bind, wipeE, dI0, resP, resM, resF, dCmp, dGt, dLt, dLe, dGe, ix30, ix31, ix32, List.length_cons, List.length_nil, Nat.zero_add, Nat.reduceAdd, List.set_cons_zero, Bool.true_eq_false, Bool.false_eq_true, if_true, if_false, ite_true, ite_false, decide_true, decide_false, dInt, sz0, sz1, sz2, sz3, sz4, sz5, sz6, sz7, a1, a2, a3, er, c4]
      rfl) ?_
    have e1 : dEq false (.list [.int 2, .int 3, .int 3, .int 0]) (.list [.int 2, .int 3, .int 3, .int 0]) = some (.bool true) := dEq_same (shaped_ints [2, 3, 3, 0])
    have e2 : dEq false (.int 2) (.int 2) = some (.bool true) := by rw [dEq_eqi]; rfl
    have en : dNeg (.int 7) = some (.int (-7)) := rfl
    exact Wp.of (a := .rt (.bool true) []) (by simp only [fSeq, fNext, sIf, sIfP, sAsg, sAsgP, sDrop, sPar, sPar3, sAug, sRet, sRetP, sRetO, sForget, sAsgF, sMut, sSetI, setAt, fIxO, fIxP, dAt, fFlat, gCallM, gPop, f2, g2, f1, fNil, fCons, gNilE, gConsE, fCall, gCall, fLst, fTup, gLstE, gTupE, fTest, gTest, fAnd, fOr, fNot, gAnd, gOr, gNot, fIf, gIf, fAndV, fOrV, fNotV, fChain, fRev, tgTup, tgCons, tgNil, up, asB, asL, asT, asI, asS, enumA, zipA, setE, Option.bind_some, Option.bind_none, Option.map_some, Option.map_none, owns, List.mapM_cons, List.mapM_nil, List.set_cons_zero, List.set_cons_succ, gv_0, gv_1, gv_2, gv_3, gv_4, gv_5, gv_6, gv_7, gv_8, gv_9, gv_10, gv_11, gv_12, gv_13, ev_pure, ev_bind, wipeE, dI0, resP, resM, resF, dCmp, dGt, dLt, dLe, dGe, ix30, ix31, ix32, List.length_cons, List.length_nil, Nat.zero_add, Nat.reduceAdd, List.set_cons_zero, Bool.true_eq_false, Bool.false_eq_true, if_true, if_false, ite_true, ite_false, decide_true, decide_false, dInt, sz0, sz1, sz2, sz3, sz4, sz5, sz6, sz7, e1, en, b2, e2]) rfl
end CSk60

open PySem PySem.W PyProof.Rows
set_option maxHeartbeats 0 in
theorem PySem.Challenge.cw_clashsize_k60_depths_and_pairs_of_ranges_holds : PySem.Challenge.rw_clashsize_k60_depths_and_pairs_of_ranges.Holds := by
  w_on; o_law; k_head; (case hw => w_witness2)
  k_fill
  refine CS.walk_ofG (l := PySem.Challenge.rw_clashsize_k60_depths_and_pairs_of_ranges) (n := 63) (k := 6) (x := "script") (CX := fun _ => L2.CX0) (sp := fun w => CS.spP _ CSk60.g_law) rfl (by decide) rfl ⟨rfl, by decide, by decide⟩ (fun w h Y => PySem.W.kIn_of Y) ?F (fun w H a ns hl hb hz hS => CS.law_end (CSk60.g_law_true ns hl hb) hz hS) (fun _ _ _ _ _ h => h)
  case F =>
    intro w mg fa h KX G hmg
    refine' CSk60.all_mk KX G hmg ?a0 ?l0 ?c0 ?k0 ?a1 ?l1 ?c1 ?k1 ?a2 ?l2 ?c2 ?k2 ?a3 ?l3 ?c3 ?k3 ?a4 ?l4 ?c4 ?k4 ?a5 ?l5 ?c5 ?k5 ?a6 ?l6 ?c6 ?k6 ?a7 ?l7 ?c7 ?k7 ?a8 ?l8 ?c8 ?k8 ?a9 ?l9 ?c9 ?k9 ?a10 ?l10 ?c10 ?k10 ?a11 ?l11 ?c11 ?k11 ?a12 ?l12 ?c12 ?k12 ?a13 ?l13 ?c13 ?k13 ?a14 ?l14 ?c14 ?k14 ?z0 ?z1 ?z2 ?z3 ?z4 ?z5 ?z6 ?z7 ?z8 ?z9 ?z10 ?z11 ?z12 ?z13 ?cst0
    (case a0 => k_is); (case l0 => k_is); (case c0 => k_is); (case k0 => k_is); (case a1 => k_is); (case l1 => k_is); (case c1 => k_is); (case k1 => k_is); (case a2 => k_is); (case l2 => k_is); (case c2 => k_is); (case k2 => k_is); (case a3 => k_is); (case l3 => k_is); (case c3 => k_is); (case k3 => k_is); (case a4 => k_is); (case l4 => k_is); (case c4 => k_is); (case k4 => k_is); (case a5 => k_is); (case l5 => k_is); (case c5 => k_is); (case k5 => k_is); (case a6 => k_is); (case l6 => k_is); (case c6 => k_is); (case k6 => k_is); (case a7 => k_is); (case l7 => k_is); (case c7 => k_is); (case k7 => k_is); (case a8 => k_is); (case l8 => k_is); (case c8 => k_is); (case k8 => k_is); (case a9 => k_is); (case l9 => k_is); (case c9 => k_is); (case k9 => k_is); (case a10 => k_is); (case l10 => k_is); (case c10 => k_is); (case k10 => k_is); (case a11 => k_is); (case l11 => k_is); (case c11 => k_is); (case k11 => k_is); (case a12 => k_is); (case l12 => k_is); (case c12 => k_is); (case k12 => k_is); (case a13 => k_is); (case l13 => k_is); (case c13 => k_is); (case k13 => k_is); (case a14 => k_is); (case l14 => k_is); (case c14 => k_is); (case k14 => k_is); (case z0 => k_is); (case z1 => k_is); (case z2 => k_is); (case z3 => k_is); (case z4 => k_is); (case z5 => k_is); (case z6 => k_is); (case z7 => k_is); (case z8 => k_is); (case z9 => k_is); (case z10 => k_is); (case z11 => k_is); (case z12 => k_is); (case z13 => k_is); (case cst0 => k_is)
