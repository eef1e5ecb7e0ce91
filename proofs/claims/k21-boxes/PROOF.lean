import PyProof.Rows.All
import Wide.All
import OpenK.AllK
import Wide.FinOn
import PySem.Challenge.RW_clashsize_k21_boxes_and_one_kind_more
import HandS.Conv
import HandS.Deep
import HandS.Defaults
import HandS.EndBits
import HandS.Evl
import HandS.ForMost
import HandS.IsInst
import HandS.RaiseMore
import HandS.Remove
import HandS.SetFor
import HandS.Sort
import HandS.SortInts
import HandS.SortKw
import HandS.SortRule
import HandS.Star
import HandS.Style
import HandS.TupAny
import HandS.TupMul
import HandS.TupSets
import HandS.Walk
import HandS.Wide
import HandS.Zip
import KE.IntBitsLaws
import KE.SortData
import PyProof.ReprLen
import PyProof.ReprRoads
import PyProof.Rows.ReprItems
set_option Elab.async false
set_option linter.all false
set_option maxRecDepth 100000
set_option maxHeartbeats 4000000
/-! CsA: data for values, shared heaps, owned lists, the meaning of readings by data. -/
namespace CS
open PySem PySem.Spec PyProof.Rows L2
open Evl (Ex ex_l ex_t)

abbrev D := PyData
abbrev SL := L2.St
abbrev En := List (Option D)

/-! ### a value stands for data -/
mutual
inductive Rp (K : PySem.W.Frag) (H : Hp) : V → D → Prop
  | non : Rp K H .non .none
  | bl (b : Bool) : Rp K H (.bl b) (.bool b)
  | int (i : Int) : Rp K H (.int i) (.int i)
  | str (x : Str) : Rp K H (.str x) (.str x)
  | lst {a : Addr} {xs : List V} {ds : List D} : H a = some (.lst xs) → RpAll K H xs ds → Rp K H (.ref a) (.list ds)
  | tup {a : Addr} {xs : List V} {ds : List D} : H a = some (.tup xs) → RpAll K H xs ds → Rp K H (.ref a) (.tuple ds)
  | scr {a : Addr} {ns : List Int} : SqL K H a (ns.map V.int) → Rp K H (.ref a) (.dict [(.none, .list (ns.map PyData.int))])
inductive RpAll (K : PySem.W.Frag) (H : Hp) : List V → List D → Prop
  | nil : RpAll K H [] []
  | cons {v : V} {vs : List V} {d : D} {ds : List D} : Rp K H v d → RpAll K H vs ds → RpAll K H (v :: vs) (d :: ds)
end
section
variable {K : PySem.W.Frag} {H H' : Hp}
mutual
theorem Rp.mono' (e : Ex H H') : ∀ (d : D) (v : V), Rp K H v d → Rp K H' v d
  | .none, _, h => by cases h; exact .non
  | .bool b, _, h => by cases h; exact .bl b
  | .int i, _, h => by cases h; exact .int i
  | .str x, _, h => by cases h; exact .str x
  | .list ds, _, h => by
    cases h with
    | lst hs ha => exact .lst (e _ _ hs) (RpAll.mono' e ds _ ha)
  | .tuple ds, _, h => by
    cases h with
    | tup hs ha => exact .tup (e _ _ hs) (RpAll.mono' e ds _ ha)
  | .dict _, _, h => by
    cases h with
    | scr hs => exact .scr (ex_l e hs)
theorem RpAll.mono' (e : Ex H H') : ∀ (ds : List D) (vs : List V), RpAll K H vs ds → RpAll K H' vs ds
  | [], _, h => by cases h; exact .nil
  | d :: ds, _, h => by
    cases h with
    | cons h1 h2 => exact .cons (Rp.mono' e d _ h1) (RpAll.mono' e ds _ h2)
end
theorem Rp.mono {v : V} {d : D} (h : Rp K H v d) (e : Ex H H') : Rp K H' v d := Rp.mono' e d v h
theorem RpAll.mono {vs : List V} {ds : List D} (h : RpAll K H vs ds) (e : Ex H H') : RpAll K H' vs ds := RpAll.mono' e ds vs h
mutual
theorem Rp.dp' : ∀ (d : D) (v : V), d.canLay0 = true → Rp K H v d → Dp K H v d
  | .none, _, _, h => by cases h; exact .non
  | .bool b, _, _, h => by cases h; exact .bl b
  | .int i, _, _, h => by cases h; exact .int i
  | .str x, _, _, h => by cases h; exact .str x
  | .list ds, _, l, h => by
    cases h with
    | lst hs ha => exact .lst (SqL.of hs) (RpAll.dp' ds _ (by simpa [PyData.canLay0] using l) ha)
  | .tuple ds, _, l, h => by
    cases h with
    | tup hs ha => exact .tup (SqT.of hs) (RpAll.dp' ds _ (by simpa [PyData.canLay0] using l) ha)
  | .dict _, _, l, h => by simp [PyData.canLay0] at l
theorem RpAll.dp' : ∀ (ds : List D) (vs : List V), PyData.canLayAll0 ds = true → RpAll K H vs ds → DpAll K H vs ds
  | [], _, _, h => by cases h; exact .nil
  | d :: ds, _, l, h => by
    cases h with
    | cons h1 h2 =>
      simp only [PyData.canLayAll0, Bool.and_eq_true] at l
      exact .cons (Rp.dp' d _ l.1 h1) (RpAll.dp' ds _ l.2 h2)
end
theorem Rp.dp {v : V} {d : D} (l : d.canLay0 = true) (h : Rp K H v d) : Dp K H v d := Rp.dp' d v l h
theorem RpAll.length : ∀ {vs : List V} {ds : List D}, RpAll K H vs ds → vs.length = ds.length
  | _, _, .nil => rfl
  | _, _, .cons _ t => congrArg (· + 1) (RpAll.length t)
theorem RpAll.append : ∀ {vs ws : List V} {ds es : List D}, RpAll K H vs ds → RpAll K H ws es → RpAll K H (vs ++ ws) (ds ++ es)
  | _, _, _, _, .nil, h => h
  | _, _, _, _, .cons a t, h => .cons a (RpAll.append t h)
theorem RpAll.get : ∀ {vs : List V} {ds : List D} {i : Nat} {v : V}, RpAll K H vs ds → vs[i]? = some v → ∃ d, ds[i]? = some d ∧ Rp K H v d
  | _, _, _, _, .nil, e => by simp at e
  | _, _, 0, _, .cons a _, e => by simp at e; subst e; exact ⟨_, rfl, a⟩
  | _, _, i + 1, v, .cons _ t, e => by
    obtain ⟨d, h1, h2⟩ := RpAll.get (i := i) (v := v) t (by simpa using e)
    exact ⟨d, by simpa using h1, h2⟩
theorem RpAll.get' : ∀ {vs : List V} {ds : List D} {i : Nat} {d : D}, RpAll K H vs ds → ds[i]? = some d → ∃ v, vs[i]? = some v ∧ Rp K H v d
  | _, _, _, _, .nil, e => by simp at e
  | _, _, 0, _, .cons a _, e => by simp at e; subst e; exact ⟨_, rfl, a⟩
  | _, _, i + 1, d, .cons _ t, e => by
    obtain ⟨v, h1, h2⟩ := RpAll.get' (i := i) (d := d) t (by simpa using e)
    exact ⟨v, by simpa using h1, h2⟩
theorem RpAll.take : ∀ {vs : List V} {ds : List D} (n : Nat), RpAll K H vs ds → RpAll K H (vs.take n) (ds.take n)
  | _, _, 0, _ => .nil
  | _, _, _ + 1, .nil => .nil
  | _, _, n + 1, .cons a t => .cons a (RpAll.take n t)
theorem RpAll.drop : ∀ {vs : List V} {ds : List D} (n : Nat), RpAll K H vs ds → RpAll K H (vs.drop n) (ds.drop n)
  | _, _, 0, h => h
  | _, _, _ + 1, .nil => .nil
  | _, _, n + 1, .cons _ t => RpAll.drop n t
theorem RpAll.set {v : V} {d : D} (r : Rp K H v d) : ∀ {vs : List V} {ds : List D} (i : Nat), RpAll K H vs ds → RpAll K H (vs.set i v) (ds.set i d)
  | _, _, _, .nil => .nil
  | _, _, 0, .cons _ t => .cons r t
  | _, _, i + 1, .cons a t => .cons a (RpAll.set r i t)
theorem RpAll.reverse : ∀ {vs : List V} {ds : List D}, RpAll K H vs ds → RpAll K H vs.reverse ds.reverse
  | _, _, .nil => .nil
  | _, _, .cons a t => by
    rw [List.reverse_cons, List.reverse_cons]
    exact (RpAll.reverse t).append (.cons a .nil)
theorem RpAll.of_get : ∀ {vs : List V} {ds : List D}, vs.length = ds.length → (∀ (i : Nat) (v : V) (d : D), vs[i]? = some v → ds[i]? = some d → Rp K H v d) → RpAll K H vs ds
  | [], [], _, _ => .nil
  | v :: vs, d :: ds, hl, h => .cons (h 0 v d rfl rfl) (RpAll.of_get (by simpa using hl) fun i w e h1 h2 => h (i + 1) w e h1 h2)
  | [], _ :: _, hl, _ => by simp at hl
  | _ :: _, [], hl, _ => by simp at hl
theorem RpAll.ints : ∀ (ns : List Int), RpAll K H (ns.map V.int) (ns.map PyData.int)
  | [] => .nil
  | n :: ns => .cons (.int n) (RpAll.ints ns)
theorem Rp.int_inv {v : V} {i : Int} (h : Rp K H v (.int i)) : v = .int i := by cases h; rfl
theorem Rp.bool_inv {v : V} {b : Bool} (h : Rp K H v (.bool b)) : v = .bl b := by cases h; rfl
theorem Rp.none_inv {v : V} (h : Rp K H v .none) : v = .non := by cases h; rfl
theorem Rp.str_inv {v : V} {x : Str} (h : Rp K H v (.str x)) : v = .str x := by cases h; rfl
theorem Rp.list_inv {v : V} {ds : List D} (h : Rp K H v (.list ds)) : ∃ a xs, v = .ref a ∧ H a = some (.lst xs) ∧ RpAll K H xs ds := by
  cases h with
  | lst hs ha => exact ⟨_, _, rfl, hs, ha⟩
theorem Rp.tuple_inv {v : V} {ds : List D} (h : Rp K H v (.tuple ds)) : ∃ a xs, v = .ref a ∧ H a = some (.tup xs) ∧ RpAll K H xs ds := by
  cases h with
  | tup hs ha => exact ⟨_, _, rfl, hs, ha⟩
theorem RpAll.ints_inv : ∀ {vs : List V} {ns : List Int}, RpAll K H vs (ns.map PyData.int) → vs = ns.map V.int
  | _, [], h => by cases h; rfl
  | _, n :: ns, h => by
    cases h with
    | cons h1 h2 => rw [h1.int_inv, RpAll.ints_inv h2]; rfl
theorem RpAll.bools_inv : ∀ {vs : List V} {bs : List Bool}, RpAll K H vs (bs.map PyData.bool) → vs = bs.map V.bl
  | _, [], h => by cases h; rfl
  | _, n :: ns, h => by
    cases h with
    | cons h1 h2 => rw [h1.bool_inv, RpAll.bools_inv h2]; rfl
end

/-- data without a heap -/
def flat : D → Bool
  | .none => true
  | .bool _ => true
  | .int _ => true
  | .str _ => true
  | _ => false
theorem Rp.flat {K : PySem.W.Frag} {H H' : Hp} {v : V} {d : D} (h : Rp K H v d) (f : flat d = true) : Rp K H' v d := by
  cases h with
  | non => exact .non
  | bl b => exact .bl b
  | int i => exact .int i
  | str x => exact .str x
  | lst _ _ => cases f
  | tup _ _ => cases f
  | scr _ => cases f

/-! ### sizes -/
def szO : HO → Prop
  | .lst xs => xs.length ≤ sizeLine
  | .tup xs => xs.length ≤ sizeLine
  | .frz _ u => szO u
  | _ => True
def SzH (H : Hp) : Prop := ∀ a o, H a = some o → szO o
theorem SzH.upd {H : Hp} {p : Addr} {o : HO} (z : SzH H) (h : szO o) : SzH (upd H p o) := fun a u e => by
  by_cases c : a = p
  · subst c; rw [upd_same] at e; cases e; exact h
  · rw [upd_ne c] at e; exact z a u e
theorem SzH.list {K : PySem.W.Frag} {H : Hp} {a : Addr} {xs : List V} (z : SzH H) (h : SqL K H a xs) : xs.length ≤ sizeLine := by
  rcases h with (h | ⟨o, h⟩) | ⟨o, its, n, _, _, _, _, hz, r⟩
  · exact z a _ h
  · exact z a _ h
  · have := r.length; simp only [Array.length_toList] at this; omega
theorem SzH.tup {K : PySem.W.Frag} {H : Hp} {a : Addr} {xs : List V} (z : SzH H) (h : SqT K H a xs) : xs.length ≤ sizeLine := by
  rcases h with (h | ⟨o, h⟩) | ⟨o, its, n, _, _, _, hz, r⟩
  · exact z a _ h
  · exact z a _ h
  · have := r.length; simp only [Array.length_toList] at this; omega

/-! ### growing heaps: S what is shared, H all that is tracked -/
structure Gz (S H S' H' : Hp) : Prop where
  s : Ex S S'
  h : Ex H H'
  n : ∀ a, H a ≠ none → S' a = S a
  x : Ex S' H'
  z : SzH H'
theorem Gz.refl {S H : Hp} (x : Ex S H) (z : SzH H) : Gz S H S H := ⟨Ex.refl S, Ex.refl H, fun _ _ => rfl, x, z⟩
theorem ex_some {H H' : Hp} (e : Ex H H') {a : Addr} (h : H a ≠ none) : H' a ≠ none := by
  cases q : H a with
  | none => exact absurd q h
  | some o => rw [e a o q]; simp
theorem Gz.trans {S H S1 H1 S2 H2 : Hp} (a : Gz S H S1 H1) (b : Gz S1 H1 S2 H2) : Gz S H S2 H2 :=
  ⟨a.s.trans b.s, a.h.trans b.h, fun c hc => (b.n c (ex_some a.h hc)).trans (a.n c hc), b.x, b.z⟩
theorem ex_free {S H : Hp} (x : Ex S H) {p : Addr} (h : H p = none) : S p = none := Evl.fresh_back x h
theorem Gz.new {S H : Hp} {p : Addr} {o : HO} (x : Ex S H) (z : SzH H) (h : H p = none) (ho : szO o) : Gz S H (upd S p o) (upd H p o) :=
  ⟨Ex.new (ex_free x h), Ex.new h, fun a ha => by
    have : a ≠ p := fun e => ha (e ▸ h)
    rw [upd_ne this], fun a u e => by
    by_cases c : a = p
    · subst c; rw [upd_same] at e ⊢; exact e
    · rw [upd_ne c] at e ⊢; exact x a u e, z.upd ho⟩

/-! ### environments -/
def Own (m : List Nat) (σ : SL) (a : Addr) : Prop := ∃ i, i ∈ m ∧ σ[i]? = some (some (.ref a))
structure Rel (K : PySem.W.Frag) (m : List Nat) (env : En) (σ : SL) (S H : Hp) : Prop where
  ex : Ex S H
  sz : SzH H
  len : env.length = σ.length
  sh : ∀ i d, i ∉ m → env[i]? = some (some d) → ∃ v, σ[i]? = some (some v) ∧ Rp K S v d
  ow : ∀ i, i ∈ m → ∃ p vs ds, env[i]? = some (some (.list ds)) ∧ σ[i]? = some (some (.ref p)) ∧ S p = none ∧ H p = some (.lst vs) ∧ RpAll K S vs ds
  inj : ∀ i j p, i ∈ m → j ∈ m → σ[i]? = some (some (.ref p)) → σ[j]? = some (some (.ref p)) → i = j
section
variable {K : PySem.W.Frag} {m : List Nat} {env : En} {σ : SL} {S H S' H' : Hp}
theorem Rel.gz (R : Rel K m env σ S H) (g : Gz S H S' H') : Rel K m env σ S' H' :=
  ⟨g.x, g.z, R.len, fun i d hi e => let ⟨v, h1, h2⟩ := R.sh i d hi e; ⟨v, h1, h2.mono g.s⟩, fun i hi =>
    let ⟨p, vs, ds, h1, h2, h3, h4, h5⟩ := R.ow i hi
    ⟨p, vs, ds, h1, h2, (g.n p (by rw [h4]; simp)).trans h3, g.h p _ h4, h5.mono g.s⟩, R.inj⟩
end
/-- what a mutating step may do -/
structure Gm (O : Addr → Prop) (S H S' H' : Hp) : Prop where
  s : Ex S S'
  h : ∀ a o, H a = some o → ¬ O a → H' a = some o
  n : ∀ a, ¬ O a → H a ≠ none → S' a = S a
  d : ∀ a, H a ≠ none → H' a ≠ none
theorem Gz.gm {O : Addr → Prop} {S H S' H' : Hp} (g : Gz S H S' H') : Gm O S H S' H' := ⟨g.s, fun a o e _ => g.h a o e, fun a _ ha => g.n a ha, fun _ ha => ex_some g.h ha⟩
theorem Gm.refl {O : Addr → Prop} {S H : Hp} : Gm O S H S H := ⟨Ex.refl S, fun _ _ e _ => e, fun _ _ _ => rfl, fun _ h => h⟩
theorem Gm.trans {O : Addr → Prop} {S H S1 H1 S2 H2 : Hp} (a : Gm O S H S1 H1) (b : Gm O S1 H1 S2 H2) : Gm O S H S2 H2 :=
  ⟨a.s.trans b.s, fun c o e n => b.h c o (a.h c o e n) n, fun c n hc => (b.n c n (a.d c hc)).trans (a.n c n hc), fun c hc => b.d c (a.d c hc)⟩
theorem Gm.mono {O O' : Addr → Prop} {S H S' H' : Hp} (g : Gm O S H S' H') (h : ∀ a, O a → O' a) : Gm O' S H S' H' :=
  ⟨g.s, fun a o e n => g.h a o e fun z => n (h a z), fun a n => g.n a fun z => n (h a z), g.d⟩
/-- .. where the owned ones may be others behind: old ones or new -/
theorem Gm.then {O O1 : Addr → Prop} {S H S1 H1 S2 H2 : Hp} (a : Gm O S H S1 H1) (o : ∀ c, O1 c → O c ∨ H c = none) (b : Gm O1 S1 H1 S2 H2) : Gm O S H S2 H2 :=
  ⟨a.s.trans b.s, fun c u e n => b.h c u (a.h c u e n) (fun z => Or.elim (o c z) n (fun q => by rw [q] at e; cases e)),
    fun c n hc => (b.n c (fun z => Or.elim (o c z) n hc) (a.d c hc)).trans (a.n c n hc), fun c hc => b.d c (a.d c hc)⟩

/-! ### the meaning of readings -/
def SemP (K : PySem.W.Frag) (m : List Nat) (t : TE) (F : En → Option D) : Prop := ∀ env σ S H, Rel K m env σ S H → ∀ d, F env = some d →
  ∀ Q : VK, (∀ v S' H', Gz S H S' H' → Rp K S' v d → Q v H') → t σ H Q
def SemPT (K : PySem.W.Frag) (m : List Nat) (t : TT) (F : En → Option Bool) : Prop := ∀ env σ S H, Rel K m env σ S H → ∀ d, F env = some d →
  ∀ Q : Bool → Hp → Prop, (∀ S' H', Gz S H S' H' → Q d H') → t σ H Q
def SemPA (K : PySem.W.Frag) (m : List Nat) (t : TA) (F : En → Option (List D)) : Prop := ∀ env σ S H, Rel K m env σ S H → ∀ d, F env = some d →
  ∀ Q : List V → Hp → Prop, (∀ v S' H', Gz S H S' H' → RpAll K S' v d → Q v H') → t σ H Q
def Sem (K : PySem.W.Frag) (m : List Nat) (t : TE) (G : En → Option (D × En)) : Prop := ∀ env σ S H, Rel K m env σ S H → ∀ d env', G env = some (d, env') →
  ∀ Q : VK, (∀ v S' H', Gm (Own m σ) S H S' H' → Rel K m env' σ S' H' → Rp K S' v d → Q v H') → t σ H Q
def SemT (K : PySem.W.Frag) (m : List Nat) (t : TT) (G : En → Option (Bool × En)) : Prop := ∀ env σ S H, Rel K m env σ S H → ∀ d env', G env = some (d, env') →
  ∀ Q : Bool → Hp → Prop, (∀ S' H', Gm (Own m σ) S H S' H' → Rel K m env' σ S' H' → Q d H') → t σ H Q
def SemA (K : PySem.W.Frag) (m : List Nat) (t : TA) (G : En → Option (List D × En)) : Prop := ∀ env σ S H, Rel K m env σ S H → ∀ d env', G env = some (d, env') →
  ∀ Q : List V → Hp → Prop, (∀ v S' H', Gm (Own m σ) S H S' H' → Rel K m env' σ S' H' → RpAll K S' v d → Q v H') → t σ H Q
/-- a pure function among the mutating ones -/
def up {α : Type} (F : En → Option α) : En → Option (α × En) := fun env => (F env).map fun d => (d, env)
theorem up_some {α : Type} {F : En → Option α} {env env' : En} {d : α} (h : up F env = some (d, env')) : F env = some d ∧ env' = env := by
  unfold up at h
  cases q : F env with
  | none => rw [q] at h; cases h
  | some x => rw [q] at h; cases h; exact ⟨rfl, rfl⟩
section
variable {K : PySem.W.Frag} {m : List Nat}
theorem SemP.up {t : TE} {F : En → Option D} (h : SemP K m t F) : Sem K m t (up F) := fun env σ S H R d env' e Q q => by
  obtain ⟨e1, rfl⟩ := up_some e
  exact h env' σ S H R d e1 Q fun v S' H' g r => q v S' H' g.gm (R.gz g) r
theorem SemPT.up {t : TT} {F : En → Option Bool} (h : SemPT K m t F) : SemT K m t (up F) := fun env σ S H R d env' e Q q => by
  obtain ⟨e1, rfl⟩ := up_some e
  exact h env' σ S H R d e1 Q fun S' H' g => q S' H' g.gm (R.gz g)
theorem SemPA.up {t : TA} {F : En → Option (List D)} (h : SemPA K m t F) : SemA K m t (up F) := fun env σ S H R d env' e Q q => by
  obtain ⟨e1, rfl⟩ := up_some e
  exact h env' σ S H R d e1 Q fun v S' H' g r => q v S' H' g.gm (R.gz g) r
end
/-- what an operation on values is worth, by data -/
def OpD (K : PySem.W.Frag) (r : R2) (g : D → D → Option D) : Prop := ∀ S H x y a b d, Ex S H → SzH H → Rp K S x a → Rp K S y b → g a b = some d →
  ∀ Q : VK, (∀ v S' H', Gz S H S' H' → Rp K S' v d → Q v H') → r x y H Q
def UnD (K : PySem.W.Frag) (r : V → Hp → VK → Prop) (g : D → Option D) : Prop := ∀ S H x a d, Ex S H → SzH H → Rp K S x a → g a = some d →
  ∀ Q : VK, (∀ v S' H', Gz S H S' H' → Rp K S' v d → Q v H') → r x H Q
def CallD (K : PySem.W.Frag) (r : List V → Hp → VK → Prop) (g : List D → Option D) : Prop := ∀ S H xs as d, Ex S H → SzH H → RpAll K S xs as → g as = some d →
  ∀ Q : VK, (∀ v S' H', Gz S H S' H' → Rp K S' v d → Q v H') → r xs H Q
theorem bind_some {α β : Type} {x : Option α} {f : α → Option β} {b : β} (h : x.bind f = some b) : ∃ a, x = some a ∧ f a = some b := by
  cases x with
  | none => cases h
  | some a => exact ⟨a, rfl, h⟩
/-! the data functions of composite expressions -/
def f2 (g : D → D → Option D) (Fa Fb : En → Option D) : En → Option D := fun env => (Fa env).bind fun a => (Fb env).bind fun b => g a b
def g2 (g : D → D → Option D) (Ga Gb : En → Option (D × En)) : En → Option (D × En) := fun env => (Ga env).bind fun a => (Gb a.2).bind fun b => (g a.1 b.1).map fun d => (d, b.2)
def f1 (g : D → Option D) (Fa : En → Option D) : En → Option D := fun env => (Fa env).bind g
def g1 (g : D → Option D) (Ga : En → Option (D × En)) : En → Option (D × En) := fun env => (Ga env).bind fun a => (g a.1).map fun d => (d, a.2)
def fNil : En → Option (List D) := fun _ => some []
def fCons (Fa : En → Option D) (Fr : En → Option (List D)) : En → Option (List D) := fun env => (Fa env).bind fun a => (Fr env).bind fun r => some (a :: r)
def gNilE : En → Option (List D × En) := fun env => some ([], env)
def gConsE (Ga : En → Option (D × En)) (Gr : En → Option (List D × En)) : En → Option (List D × En) := fun env => (Ga env).bind fun a => (Gr a.2).bind fun r => some (a.1 :: r.1, r.2)
def fCall (g : List D → Option D) (Fa : En → Option (List D)) : En → Option D := fun env => (Fa env).bind g
def gCall (g : List D → Option D) (Ga : En → Option (List D × En)) : En → Option (D × En) := fun env => (Ga env).bind fun a => (g a.1).map fun d => (d, a.2)
def gv (j : Nat) : En → Option D := fun env => match env[j]? with
  | some (some d) => some d
  | _ => none
section
variable {K : PySem.W.Frag} {m : List Nat} {ta tb : TE} {Fa Fb : En → Option D} {Ga Gb : En → Option (D × En)} {r : R2} {g : D → D → Option D}
theorem semP_op (ho : OpD K r g) (ha : SemP K m ta Fa) (hb : SemP K m tb Fb) : SemP K m (tOp r ta tb) (f2 g Fa Fb) := fun env σ S H R d e Q q => by
  obtain ⟨a, ea, e⟩ := bind_some e
  obtain ⟨b, eb, e⟩ := bind_some e
  exact ha env σ S H R a ea _ fun x S1 H1 k1 rx => hb env σ S1 H1 (R.gz k1) b eb _ fun y S2 H2 k2 ry =>
    ho S2 H2 x y a b d k2.x k2.z (rx.mono k2.s) ry e Q fun v S3 H3 k3 rv => q v S3 H3 ((k1.trans k2).trans k3) rv
theorem sem_op (ho : OpD K r g) (ha : Sem K m ta Ga) (hb : Sem K m tb Gb) : Sem K m (tOp r ta tb) (g2 g Ga Gb) := fun env σ S H R d env' e Q q => by
  obtain ⟨⟨a, e1⟩, ea, e⟩ := bind_some e
  obtain ⟨⟨b, e2⟩, eb, e⟩ := bind_some e
  cases ez : g a b with
  | none => simp [ez] at e
  | some z =>
    simp [ez] at e
    obtain ⟨rfl, rfl⟩ := e
    exact ha env σ S H R a e1 ea _ fun x S1 H1 k1 R1 rx => hb e1 σ S1 H1 R1 b e2 eb _ fun y S2 H2 k2 R2 ry =>
      ho S2 H2 x y a b z R2.ex R2.sz (rx.mono k2.s) ry ez Q fun v S3 H3 k3 rv => q v S3 H3 ((k1.trans k2).trans k3.gm) (R2.gz k3) rv
theorem semP_un {r : V → Hp → VK → Prop} {g : D → Option D} (ho : UnD K r g) (ha : SemP K m ta Fa) : SemP K m (tUn r ta) (f1 g Fa) := fun env σ S H R d e Q q => by
  obtain ⟨a, ea, e⟩ := bind_some e
  exact ha env σ S H R a ea _ fun x S1 H1 k1 rx => ho S1 H1 x a d k1.x k1.z rx e Q fun v S3 H3 k3 rv => q v S3 H3 (k1.trans k3) rv
theorem semPA_nil : SemPA K m tNil fNil := fun env σ S H R d e Q q => by
  cases e
  exact q [] S H (Gz.refl R.ex R.sz) .nil
theorem semPA_cons {tr : TA} {Fr : En → Option (List D)} (ha : SemP K m ta Fa) (hr : SemPA K m tr Fr) : SemPA K m (tCons ta tr) (fCons Fa Fr) := fun env σ S H R d e Q q => by
  obtain ⟨a, ea, e⟩ := bind_some e
  obtain ⟨b, eb, e⟩ := bind_some e
  cases e
  exact ha env σ S H R a ea _ fun x S1 H1 k1 rx => hr env σ S1 H1 (R.gz k1) b eb _ fun y S2 H2 k2 ry => q _ S2 H2 (k1.trans k2) (.cons (rx.mono k2.s) ry)
theorem semA_nil : SemA K m tNil gNilE := fun env σ S H R d env' e Q q => by
  cases e
  exact q [] S H Gm.refl R .nil
theorem semA_cons {tr : TA} {Gr : En → Option (List D × En)} (ha : Sem K m ta Ga) (hr : SemA K m tr Gr) : SemA K m (tCons ta tr) (gConsE Ga Gr) := fun env σ S H R d env' e Q q => by
  obtain ⟨⟨a, e1⟩, ea, e⟩ := bind_some e
  obtain ⟨⟨b, e2⟩, eb, e⟩ := bind_some e
  cases e
  exact ha env σ S H R a e1 ea _ fun x S1 H1 k1 R1 rx => hr e1 σ S1 H1 R1 b e2 eb _ fun y S2 H2 k2 R2 ry => q _ S2 H2 (k1.trans k2) R2 (.cons (rx.mono k2.s) ry)
theorem semP_call {r : List V → Hp → VK → Prop} {g : List D → Option D} {t : TA} {Fa : En → Option (List D)} (ho : CallD K r g) (ha : SemPA K m t Fa) : SemP K m (tCB r t) (fCall g Fa) := fun env σ S H R d e Q q => by
  obtain ⟨a, ea, e⟩ := bind_some e
  exact ha env σ S H R a ea _ fun x S1 H1 k1 rx => ho S1 H1 x a d k1.x k1.z rx e Q fun v S3 H3 k3 rv => q v S3 H3 (k1.trans k3) rv
theorem sem_call {r : List V → Hp → VK → Prop} {g : List D → Option D} {t : TA} {Ga : En → Option (List D × En)} (ho : CallD K r g) (ha : SemA K m t Ga) : Sem K m (tCB r t) (gCall g Ga) := fun env σ S H R d env' e Q q => by
  obtain ⟨⟨a, e1⟩, ea, e⟩ := bind_some e
  cases ez : g a with
  | none => simp [ez] at e
  | some z =>
    simp [ez] at e
    obtain ⟨rfl, rfl⟩ := e
    exact ha env σ S H R a e1 ea _ fun x S1 H1 k1 R1 rx => ho S1 H1 x a z R1.ex R1.sz rx ez Q fun v S3 H3 k3 rv => q v S3 H3 (k1.trans k3.gm) (R1.gz k3) rv
theorem semP_var {j : Nat} (hj : j ∉ m) : SemP K m (tVar j) (gv j) := fun env σ S H R d e Q q => by
  unfold gv at e
  split at e
  · rename_i x hx
    cases e
    obtain ⟨v, h1, h2⟩ := R.sh j d hj hx
    exact ⟨v, h1, q v S H (Gz.refl R.ex R.sz) h2⟩
  · cases e
theorem semP_c {v : V} {d : D} (h : ∀ S, Rp K S v d) : SemP K m (tC v) (fun _ => some d) := fun env σ S H R d' e Q q => by
  cases e
  exact q v S H (Gz.refl R.ex R.sz) (h S)
end
/-! displays -/
def sized (ds : List D) : Option (List D) := if ds.length ≤ sizeLine then some ds else none
theorem sized_some {ds es : List D} (h : sized ds = some es) : es = ds ∧ ds.length ≤ sizeLine := by
  unfold sized at h
  split at h
  · cases h; exact ⟨rfl, by assumption⟩
  · cases h
section
variable {K : PySem.W.Frag} {m : List Nat} {t : TA} {Fa : En → Option (List D)} {Ga : En → Option (List D × En)}
theorem rp_newL {S H : Hp} {p : Addr} {xs : List V} {ds : List D} (x : Ex S H) (h : H p = none) (r : RpAll K S xs ds) : Rp K (upd S p (.lst xs)) (.ref p) (.list ds) :=
  .lst upd_same (r.mono (Ex.new (ex_free x h)))
theorem rp_newT {S H : Hp} {p : Addr} {xs : List V} {ds : List D} (x : Ex S H) (h : H p = none) (r : RpAll K S xs ds) : Rp K (upd S p (.tup xs)) (.ref p) (.tuple ds) :=
  .tup upd_same (r.mono (Ex.new (ex_free x h)))
def fLst (Fa : En → Option (List D)) : En → Option D := fun env => ((Fa env).bind sized).map .list
def fTup (Fa : En → Option (List D)) : En → Option D := fun env => ((Fa env).bind sized).map .tuple
def gLstE (Ga : En → Option (List D × En)) : En → Option (D × En) := fun env => (Ga env).bind fun a => (sized a.1).map fun ds => (.list ds, a.2)
def gTupE (Ga : En → Option (List D × En)) : En → Option (D × En) := fun env => (Ga env).bind fun a => (sized a.1).map fun ds => (.tuple ds, a.2)
theorem map_some {α β : Type} {x : Option α} {f : α → β} {b : β} (h : x.map f = some b) : ∃ a, x = some a ∧ f a = b := by
  cases x with
  | none => cases h
  | some a => exact ⟨a, rfl, by simpa using h⟩
theorem semP_lst (ha : SemPA K m t Fa) : SemP K m (tLst t) (fLst Fa) := fun env σ S H R d e Q q => by
  obtain ⟨a, ea, rfl⟩ := map_some e
  obtain ⟨b, eb, e⟩ := bind_some ea
  obtain ⟨rfl, hz⟩ := sized_some e
  exact ha env σ S H R a eb _ fun xs S1 H1 k1 rx => ⟨by rw [rx.length]; exact hz, fun p hp => q _ _ _ (k1.trans (Gz.new k1.x k1.z hp (by show xs.length ≤ sizeLine; rw [rx.length]; exact hz))) (rp_newL k1.x hp rx)⟩
theorem semP_tup (ha : SemPA K m t Fa) : SemP K m (tTup t) (fTup Fa) := fun env σ S H R d e Q q => by
  obtain ⟨a, ea, rfl⟩ := map_some e
  obtain ⟨b, eb, e⟩ := bind_some ea
  obtain ⟨rfl, hz⟩ := sized_some e
  exact ha env σ S H R a eb _ fun xs S1 H1 k1 rx => ⟨by rw [rx.length]; exact hz, fun p hp => q _ _ _ (k1.trans (Gz.new k1.x k1.z hp (by show xs.length ≤ sizeLine; rw [rx.length]; exact hz))) (rp_newT k1.x hp rx)⟩
theorem sem_lst (ha : SemA K m t Ga) : Sem K m (tLst t) (gLstE Ga) := fun env σ S H R d env' e Q q => by
  obtain ⟨⟨a, e1⟩, ea, e⟩ := bind_some e
  obtain ⟨b, eb, e⟩ := map_some e
  obtain ⟨rfl, hz⟩ := sized_some eb
  cases e
  exact ha env σ S H R _ _ ea _ fun xs S1 H1 k1 R1 rx => ⟨by rw [rx.length]; exact hz, fun p hp => by
    have k2 := Gz.new (p := p) (o := .lst xs) R1.ex R1.sz hp (by show xs.length ≤ sizeLine; rw [rx.length]; exact hz)
    exact q _ _ _ (k1.trans k2.gm) (R1.gz k2) (rp_newL R1.ex hp rx)⟩
theorem sem_tup (ha : SemA K m t Ga) : Sem K m (tTup t) (gTupE Ga) := fun env σ S H R d env' e Q q => by
  obtain ⟨⟨a, e1⟩, ea, e⟩ := bind_some e
  obtain ⟨b, eb, e⟩ := map_some e
  obtain ⟨rfl, hz⟩ := sized_some eb
  cases e
  exact ha env σ S H R _ _ ea _ fun xs S1 H1 k1 R1 rx => ⟨by rw [rx.length]; exact hz, fun p hp => by
    have k2 := Gz.new (p := p) (o := .tup xs) R1.ex R1.sz hp (by show xs.length ≤ sizeLine; rw [rx.length]; exact hz)
    exact q _ _ _ (k1.trans k2.gm) (R1.gz k2) (rp_newT R1.ex hp rx)⟩
end
/-! tests -/
def asB : D → Option Bool
  | .bool b => some b
  | _ => none
def fTest (F : En → Option D) : En → Option Bool := fun env => (F env).bind asB
def gTest (G : En → Option (D × En)) : En → Option (Bool × En) := fun env => (G env).bind fun a => (asB a.1).map fun b => (b, a.2)
def fAnd (Fa Fb : En → Option Bool) : En → Option Bool := fun env => (Fa env).bind fun a => if a = true then Fb env else some false
def fOr (Fa Fb : En → Option Bool) : En → Option Bool := fun env => (Fa env).bind fun a => if a = true then some true else Fb env
def fNot (Fa : En → Option Bool) : En → Option Bool := fun env => (Fa env).map fun a => !a
def gAnd (Fa Fb : En → Option (Bool × En)) : En → Option (Bool × En) := fun env => (Fa env).bind fun a => if a.1 = true then Fb a.2 else some (false, a.2)
def gOr (Fa Fb : En → Option (Bool × En)) : En → Option (Bool × En) := fun env => (Fa env).bind fun a => if a.1 = true then some (true, a.2) else Fb a.2
def gNot (Fa : En → Option (Bool × En)) : En → Option (Bool × En) := fun env => (Fa env).map fun a => (!a.1, a.2)
def fIf (Ft : En → Option Bool) (Fa Fb : En → Option D) : En → Option D := fun env => (Ft env).bind fun a => if a = true then Fa env else Fb env
def gIf (Ft : En → Option (Bool × En)) (Fa Fb : En → Option (D × En)) : En → Option (D × En) := fun env => (Ft env).bind fun a => if a.1 = true then Fa a.2 else Fb a.2
theorem asB_some {d : D} {b : Bool} (h : asB d = some b) : d = .bool b := by
  unfold asB at h
  split at h
  · cases h; rfl
  · cases h
section
variable {K : PySem.W.Frag} {m : List Nat} {te ta tb : TE} {t u : TT} {F : En → Option D} {Ft Fu : En → Option Bool} {G : En → Option (D × En)} {Gt Gu : En → Option (Bool × En)}
theorem semPT_test (h : SemP K m te F) : SemPT K m (tTest te) (fTest F) := fun env σ S H R d e Q q => by
  obtain ⟨a, ea, e⟩ := bind_some e
  cases asB_some e
  exact h env σ S H R _ ea _ fun v S1 H1 k r => ⟨d, r.bool_inv, q S1 H1 k⟩
theorem semPT_B (h : SemP K m te F) : SemPT K m (tB te) (fTest F) := fun env σ S H R d e Q q => by
  obtain ⟨a, ea, e⟩ := bind_some e
  cases asB_some e
  exact h env σ S H R _ ea _ fun v S1 H1 k r => ⟨d, r.bool_inv, q S1 H1 k⟩
theorem semT_test (h : Sem K m te G) : SemT K m (tTest te) (gTest G) := fun env σ S H R d env' e Q q => by
  obtain ⟨⟨a, e1⟩, ea, e⟩ := bind_some e
  obtain ⟨b, eb, e⟩ := map_some e
  cases e
  have := asB_some eb
  subst this
  exact h env σ S H R _ _ ea _ fun v S1 H1 k R1 r => ⟨d, r.bool_inv, q S1 H1 k R1⟩
theorem semT_B (h : Sem K m te G) : SemT K m (tB te) (gTest G) := fun env σ S H R d env' e Q q => by
  obtain ⟨⟨a, e1⟩, ea, e⟩ := bind_some e
  obtain ⟨b, eb, e⟩ := map_some e
  cases e
  have := asB_some eb
  subst this
  exact h env σ S H R _ _ ea _ fun v S1 H1 k R1 r => ⟨d, r.bool_inv, q S1 H1 k R1⟩
theorem semPT_and (h1 : SemPT K m t Ft) (h2 : SemPT K m u Fu) : SemPT K m (tAnd t u) (fAnd Ft Fu) := fun env σ S H R d e Q q => by
  obtain ⟨a, ea, e⟩ := bind_some e
  refine h1 env σ S H R a ea _ fun S1 H1 k1 => ?_
  cases a with
  | true => exact h2 env σ S1 H1 (R.gz k1) d e Q fun S2 H2 k2 => q S2 H2 (k1.trans k2)
  | false => cases e; exact q S1 H1 k1
theorem semPT_or (h1 : SemPT K m t Ft) (h2 : SemPT K m u Fu) : SemPT K m (tOr t u) (fOr Ft Fu) := fun env σ S H R d e Q q => by
  obtain ⟨a, ea, e⟩ := bind_some e
  refine h1 env σ S H R a ea _ fun S1 H1 k1 => ?_
  cases a with
  | false => exact h2 env σ S1 H1 (R.gz k1) d e Q fun S2 H2 k2 => q S2 H2 (k1.trans k2)
  | true => cases e; exact q S1 H1 k1
theorem semPT_not (h1 : SemPT K m t Ft) : SemPT K m (tNot t) (fNot Ft) := fun env σ S H R d e Q q => by
  obtain ⟨a, ea, rfl⟩ := map_some e
  exact h1 env σ S H R a ea _ fun S1 H1 k1 => q S1 H1 k1
theorem semT_and (h1 : SemT K m t Gt) (h2 : SemT K m u Gu) : SemT K m (tAnd t u) (gAnd Gt Gu) := fun env σ S H R d env' e Q q => by
  obtain ⟨⟨a, e1⟩, ea, e⟩ := bind_some e
  refine h1 env σ S H R a e1 ea _ fun S1 H1 k1 R1 => ?_
  cases a with
  | true => exact h2 e1 σ S1 H1 R1 d env' e Q fun S2 H2 k2 R2 => q S2 H2 (k1.trans k2) R2
  | false => cases e; exact q S1 H1 k1 R1
theorem semT_or (h1 : SemT K m t Gt) (h2 : SemT K m u Gu) : SemT K m (tOr t u) (gOr Gt Gu) := fun env σ S H R d env' e Q q => by
  obtain ⟨⟨a, e1⟩, ea, e⟩ := bind_some e
  refine h1 env σ S H R a e1 ea _ fun S1 H1 k1 R1 => ?_
  cases a with
  | false => exact h2 e1 σ S1 H1 R1 d env' e Q fun S2 H2 k2 R2 => q S2 H2 (k1.trans k2) R2
  | true => cases e; exact q S1 H1 k1 R1
theorem semT_not (h1 : SemT K m t Gt) : SemT K m (tNot t) (gNot Gt) := fun env σ S H R d env' e Q q => by
  obtain ⟨⟨a, e1⟩, ea, e⟩ := map_some e
  cases e
  exact h1 env σ S H R a _ ea _ fun S1 H1 k1 R1 => q S1 H1 k1 R1
theorem semP_if {Fa Fb : En → Option D} (h : SemPT K m t Ft) (ha : SemP K m ta Fa) (hb : SemP K m tb Fb) : SemP K m (tIf t ta tb) (fIf Ft Fa Fb) := fun env σ S H R d e Q q => by
  obtain ⟨a, ea, e⟩ := bind_some e
  refine h env σ S H R a ea _ fun S1 H1 k1 => ?_
  cases a with
  | true => exact ha env σ S1 H1 (R.gz k1) d e Q fun v S2 H2 k2 r => q v S2 H2 (k1.trans k2) r
  | false => exact hb env σ S1 H1 (R.gz k1) d e Q fun v S2 H2 k2 r => q v S2 H2 (k1.trans k2) r
theorem sem_if {Fa Fb : En → Option (D × En)} (h : SemT K m t Gt) (ha : Sem K m ta Fa) (hb : Sem K m tb Fb) : Sem K m (tIf t ta tb) (gIf Gt Fa Fb) := fun env σ S H R d env' e Q q => by
  obtain ⟨⟨a, e1⟩, ea, e⟩ := bind_some e
  refine h env σ S H R a e1 ea _ fun S1 H1 k1 R1 => ?_
  cases a with
  | true => exact ha e1 σ S1 H1 R1 d env' e Q fun v S2 H2 k2 R2 r => q v S2 H2 (k1.trans k2) R2 r
  | false => exact hb e1 σ S1 H1 R1 d env' e Q fun v S2 H2 k2 R2 r => q v S2 H2 (k1.trans k2) R2 r
/-- and, or of bools as values -/
def fAndV (Fa Fb : En → Option D) : En → Option D := fun env => ((Fa env).bind asB).bind fun a => if a = true then Fb env else some (.bool false)
def fOrV (Fa Fb : En → Option D) : En → Option D := fun env => ((Fa env).bind asB).bind fun a => if a = true then some (.bool true) else Fb env
theorem semP_andV {Fa Fb : En → Option D} (ha : SemP K m ta Fa) (hb : SemP K m tb Fb) : SemP K m (tAndV ta tb) (fAndV Fa Fb) := fun env σ S H R d e Q q => by
  obtain ⟨b, eb, e⟩ := bind_some e
  obtain ⟨a, ea, eb⟩ := bind_some eb
  cases asB_some eb
  refine ha env σ S H R _ ea _ fun v S1 H1 k1 r => ⟨b, r.bool_inv, ?_⟩
  cases b with
  | true => exact hb env σ S1 H1 (R.gz k1) d e Q fun v S2 H2 k2 r => q v S2 H2 (k1.trans k2) r
  | false => cases e; exact q _ S1 H1 k1 (.bl false)
theorem semP_orV {Fa Fb : En → Option D} (ha : SemP K m ta Fa) (hb : SemP K m tb Fb) : SemP K m (tOrV ta tb) (fOrV Fa Fb) := fun env σ S H R d e Q q => by
  obtain ⟨b, eb, e⟩ := bind_some e
  obtain ⟨a, ea, eb⟩ := bind_some eb
  cases asB_some eb
  refine ha env σ S H R _ ea _ fun v S1 H1 k1 r => ⟨b, r.bool_inv, ?_⟩
  cases b with
  | false => exact hb env σ S1 H1 (R.gz k1) d e Q fun v S2 H2 k2 r => q v S2 H2 (k1.trans k2) r
  | true => cases e; exact q _ S1 H1 k1 (.bl true)
def fNotV (Fa : En → Option D) : En → Option D := fun env => ((Fa env).bind asB).map fun a => .bool (!a)
theorem semP_notV {Fa : En → Option D} (ha : SemP K m ta Fa) : SemP K m (tNotV ta) (fNotV Fa) := fun env σ S H R d e Q q => by
  obtain ⟨b, eb, rfl⟩ := map_some e
  obtain ⟨a, ea, eb⟩ := bind_some eb
  cases asB_some eb
  exact ha env σ S H R _ ea _ fun v S1 H1 k1 r => ⟨b, r.bool_inv, q _ S1 H1 k1 (.bl _)⟩
/-- a op1 b op2 c -/
def fChain (g g' : D → D → Option D) (Fa Fb Fc : En → Option D) : En → Option D := fun env => (Fa env).bind fun a => (Fb env).bind fun b => ((g a b).bind asB).bind fun k =>
  if k = true then (Fc env).bind fun c => g' b c else some (.bool false)
theorem semP_chain {r r' : R2} {g g' : D → D → Option D} {tc : TE} {Fa Fb Fc : En → Option D} (ho : OpD K r g) (ho' : OpD K r' g') (ha : SemP K m ta Fa) (hb : SemP K m tb Fb) (hc : SemP K m tc Fc) :
    SemP K m (tChain r r' ta tb tc) (fChain g g' Fa Fb Fc) := fun env σ S H R d e Q q => by
  obtain ⟨a, ea, e⟩ := bind_some e
  obtain ⟨b, eb, e⟩ := bind_some e
  obtain ⟨k, ek, e⟩ := bind_some e
  obtain ⟨z, ez, ek⟩ := bind_some ek
  cases asB_some ek
  refine ha env σ S H R a ea _ fun x S1 H1 k1 rx => hb env σ S1 H1 (R.gz k1) b eb _ fun y S2 H2 k2 ry => ?_
  refine ho S2 H2 x y a b _ k2.x k2.z (rx.mono k2.s) ry ez _ fun w S3 H3 k3 rw' => ⟨k, rw'.bool_inv, ?_⟩
  have k13 := (k1.trans k2).trans k3
  cases k with
  | true =>
    obtain ⟨c, ec, e⟩ := bind_some e
    exact hc env σ S3 H3 (R.gz k13) c ec _ fun u S4 H4 k4 ru => ho' S4 H4 y u b c d k4.x k4.z (ry.mono (k3.s.trans k4.s)) ru e Q fun v S5 H5 k5 rv => q v S5 H5 ((k13.trans k4).trans k5) rv
  | false => cases e; exact q _ S3 H3 k13 (.bl false)
end
end CS

/-! CsB: what is walked, targets, comprehensions. -/
namespace CS
open PySem PySem.Spec PyProof.Rows L2
open Evl (Ex ex_l ex_t)
/-- J walks the data ds, while S stands -/
def WalkD (K : PySem.W.Frag) (S : Hp) (ds : List D) (J : It) : Prop := ∃ (G : Hp → Prop) (Y : Nat → Hp → V → Hp → Prop), Walk J ds.length G Y ∧ (∀ H, Ex S H → G H) ∧
  ∀ (i : Nat) (S2 H2 : Hp) (x : V) (H3 : Hp) (d : D), ds[i]? = some d → Ex S S2 → Ex S2 H2 → SzH H2 → Y i H2 x H3 → ∃ S3, Gz S2 H2 S3 H3 ∧ Rp K S3 x d
def SemPI (K : PySem.W.Frag) (m : List Nat) (wi : TI) (F : En → Option (List D)) : Prop := ∀ env σ S H, Rel K m env σ S H → ∀ ds, F env = some ds →
  ∀ R : It → Hp → Prop, (∀ J S' H', Gz S H S' H' → ds.length ≤ sizeLine → WalkD K S' ds J → R J H') → wi σ H R
def SemI (K : PySem.W.Frag) (m : List Nat) (wi : TI) (G : En → Option (List D × En)) : Prop := ∀ env σ S H, Rel K m env σ S H → ∀ ds env', G env = some (ds, env') →
  ∀ R : It → Hp → Prop, (∀ J S' H', Gm (Own m σ) S H S' H' → Rel K m env' σ S' H' → ds.length ≤ sizeLine → WalkD K S' ds J → R J H') → wi σ H R
theorem SemPI.up {K : PySem.W.Frag} {m : List Nat} {wi : TI} {F : En → Option (List D)} (h : SemPI K m wi F) : SemI K m wi (up F) := fun env σ S H R d env' e Q q => by
  obtain ⟨e1, rfl⟩ := up_some e
  exact h env' σ S H R d e1 Q fun J S' H' g hl r => q J S' H' g.gm (R.gz g) hl r
def asL : D → Option (List D)
  | .list ds => some ds
  | _ => none
def asT : D → Option (List D)
  | .tuple ds => some ds
  | _ => none
def asI : D → Option Int
  | .int i => some i
  | _ => none
theorem asL_some {d : D} {ds : List D} (h : asL d = some ds) : d = .list ds := by
  unfold asL at h; split at h
  · cases h; rfl
  · cases h
theorem asT_some {d : D} {ds : List D} (h : asT d = some ds) : d = .tuple ds := by
  unfold asT at h; split at h
  · cases h; rfl
  · cases h
theorem asI_some {d : D} {i : Int} (h : asI d = some i) : d = .int i := by
  unfold asI at h; split at h
  · cases h; rfl
  · cases h
section
variable {K : PySem.W.Frag} {m : List Nat} {te : TE} {F : En → Option D} {G : En → Option (D × En)}
theorem walkD_list {S : Hp} {a : Addr} {xs : List V} {ds : List D} (hs : SqL K S a xs) (ha : RpAll K S xs ds) : WalkD K S ds (Itl K a) := by
  have hl := ha.length
  refine ⟨_, _, hl ▸ walk_list (K := K) (a := a) (xs := xs), fun H e => ex_l e hs, fun i S2 H2 x H3 d hd e1 e2 z y => ?_⟩
  obtain ⟨rfl, hx⟩ := y
  obtain ⟨d', h1, h2⟩ := ha.get hx
  rw [hd] at h1; cases h1
  exact ⟨S2, Gz.refl e2 z, h2.mono e1⟩
theorem walkD_tup {S : Hp} {a : Addr} {xs : List V} {ds : List D} (hs : SqT K S a xs) (ha : RpAll K S xs ds) : WalkD K S ds (Itt K a) := by
  have hl := ha.length
  refine ⟨_, _, hl ▸ walk_tup (K := K) (a := a) (xs := xs), fun H e => ex_t e hs, fun i S2 H2 x H3 d hd e1 e2 z y => ?_⟩
  obtain ⟨rfl, hx⟩ := y
  obtain ⟨d', h1, h2⟩ := ha.get hx
  rw [hd] at h1; cases h1
  exact ⟨S2, Gz.refl e2 z, h2.mono e1⟩
def rangeD (lo : Int) (n : Nat) : List D := (List.range n).map fun i => .int (lo + (i : Nat))
theorem rangeD_length (lo : Int) (n : Nat) : (rangeD lo n).length = n := by simp [rangeD]
theorem rangeD_get {lo : Int} {n i : Nat} {d : D} (h : (rangeD lo n)[i]? = some d) : i < n ∧ d = .int (lo + (i : Nat)) := by
  unfold rangeD at h
  rw [List.getElem?_map] at h
  obtain ⟨j, h1, rfl⟩ := map_some h
  obtain ⟨h2, h3⟩ := List.getElem?_eq_some_iff.mp h1
  simp at h2 h3
  exact ⟨h2, by rw [← h3]⟩
theorem walkD_range {S : Hp} {lo : Int} {n : Nat} : WalkD K S (rangeD lo n) (Itr lo n) := by
  refine ⟨_, _, (by rw [rangeD_length]; exact walk_range (lo := lo) (n := n) : Walk (Itr lo n) (rangeD lo n).length (fun _ => True) (YFn fun i => .int (lo + i))), fun _ _ => trivial, fun i S2 H2 x H3 d hd e1 e2 z y => ?_⟩
  obtain ⟨rfl, rfl⟩ := y
  obtain ⟨_, rfl⟩ := rangeD_get hd
  exact ⟨S2, Gz.refl e2 z, .int _⟩
/-- pairs: enumerate, zip -/
def enumD (ds : List D) : List D := (ds.zipIdx).map fun p => .tuple [.int (p.2 : Nat), p.1]
theorem enumD_length (ds : List D) : (enumD ds).length = ds.length := by simp [enumD]
theorem enumD_get {ds : List D} {i : Nat} {d : D} (h : (enumD ds)[i]? = some d) : ∃ x, ds[i]? = some x ∧ d = .tuple [.int (i : Nat), x] := by
  unfold enumD at h
  rw [List.getElem?_map] at h
  obtain ⟨p, h1, rfl⟩ := map_some h
  rw [List.getElem?_zipIdx] at h1
  obtain ⟨x, h2, rfl⟩ := map_some h1
  exact ⟨x, h2, by simp⟩
def zipD (as bs : List D) : List D := List.zipWith (fun a b => .tuple [a, b]) as bs
theorem zipD_length (as bs : List D) : (zipD as bs).length = min as.length bs.length := by simp [zipD]
theorem zipD_get {as bs : List D} {i : Nat} {d : D} (h : (zipD as bs)[i]? = some d) : ∃ x y, as[i]? = some x ∧ bs[i]? = some y ∧ d = .tuple [x, y] := by
  unfold zipD at h
  rw [List.getElem?_zipWith] at h
  cases ha : as[i]? with
  | none => rw [ha] at h; cases h
  | some x =>
    cases hb : bs[i]? with
    | none => rw [ha, hb] at h; cases h
    | some y => rw [ha, hb] at h; cases h; exact ⟨x, y, rfl, rfl, rfl⟩
theorem pair_step {S2 H2 : Hp} {T : Addr} {x y : V} {a b : D} (e2 : Ex S2 H2) (z : SzH H2) (nT : H2 T = none) (ra : Rp K S2 x a) (rb : Rp K S2 y b) :
    ∃ S3, Gz S2 H2 S3 (upd H2 T (.tup [x, y])) ∧ Rp K S3 (.ref T) (.tuple [a, b]) :=
  ⟨_, Gz.new (o := .tup [x, y]) e2 z nT (by show 2 ≤ sizeLine; decide), rp_newT e2 nT (.cons ra (.cons rb .nil))⟩
theorem walkD_enum {S : Hp} {a : Addr} {xs : List V} {ds : List D} (hs : SqL K S a xs) (ha : RpAll K S xs ds) : WalkD K S (enumD ds) (Ite K a) := by
  have hl : xs.length = (enumD ds).length := by rw [enumD_length]; exact ha.length
  refine ⟨_, _, hl ▸ walk_enum (K := K) (a := a) (xs := xs), fun H e => ex_l e hs, fun i S2 H2 x H3 d hd e1 e2 z y => ?_⟩
  obtain ⟨T, x1, x2, rfl, nT, rfl, f1, f2⟩ := y
  obtain ⟨c, hc, rfl⟩ := enumD_get hd
  cases f1
  obtain ⟨d', h1, h2⟩ := ha.get f2
  rw [hc] at h1; cases h1
  exact pair_step e2 z nT (.int _) (h2.mono e1)
theorem walkD_zip {S : Hp} {a b : Addr} {xs ys : List V} {ds es : List D} (hs : SqL K S a xs) (ha : RpAll K S xs ds) (hs' : SqL K S b ys) (hb : RpAll K S ys es) : WalkD K S (zipD ds es) (Itz K a b) := by
  have hl : (zipD ds es).length = min xs.length ys.length := by rw [zipD_length, ha.length, hb.length]
  refine ⟨_, _, walk_zip (K := K) (a := a) (b := b) (xs := xs) (ys := ys) hl, fun H e => ⟨ex_l e hs, ex_l e hs'⟩, fun i S2 H2 x H3 d hd e1 e2 z y => ?_⟩
  obtain ⟨T, x1, x2, rfl, nT, rfl, f1, f2⟩ := y
  obtain ⟨c, c', hc, hc', rfl⟩ := zipD_get hd
  obtain ⟨d1, h1, h2⟩ := ha.get f1
  obtain ⟨d2, h3, h4⟩ := hb.get f2
  rw [hc] at h1; cases h1
  rw [hc'] at h3; cases h3
  exact pair_step e2 z nT (h2.mono e1) (h4.mono e1)
theorem semPI_list (h : SemP K m te F) : SemPI K m (iList K te) (fun env => (F env).bind asL) := fun env σ S H R ds e Q q => by
  obtain ⟨a, ea, e⟩ := bind_some e
  cases asL_some e
  refine h env σ S H R _ ea _ fun v S1 H1 k r => ?_
  obtain ⟨p, xs, rfl, hs0, ha⟩ := r.list_inv
  have hs : SqL K S1 p xs := SqL.of hs0
  exact ⟨p, rfl, ⟨xs, ex_l k.x hs⟩, q _ S1 H1 k (by rw [← ha.length]; exact k.z.list (ex_l k.x hs)) (walkD_list hs ha)⟩
theorem semPI_tup (h : SemP K m te F) : SemPI K m (iTup K te) (fun env => (F env).bind asT) := fun env σ S H R ds e Q q => by
  obtain ⟨a, ea, e⟩ := bind_some e
  cases asT_some e
  refine h env σ S H R _ ea _ fun v S1 H1 k r => ?_
  obtain ⟨p, xs, rfl, hs0, ha⟩ := r.tuple_inv
  have hs : SqT K S1 p xs := SqT.of hs0
  exact ⟨p, rfl, ⟨xs, ex_t k.x hs⟩, q _ S1 H1 k (by rw [← ha.length]; exact k.z.tup (ex_t k.x hs)) (walkD_tup hs ha)⟩
/-- range(n), range(a, b): bounded ends -/
def rng1 : List D → Option (List D)
  | [.int j] => if j ≤ sizeLine ∧ -(2 ^ 62) ≤ j then some (rangeD 0 j.toNat) else none
  | _ => none
def rng2 : List D → Option (List D)
  | [.int i, .int j] => if -(2 ^ 62) ≤ i ∧ i < 2 ^ 62 ∧ -(2 ^ 62) ≤ j ∧ j < 2 ^ 62 ∧ j - i ≤ sizeLine then some (rangeD i (j - i).toNat) else none
  | _ => none
theorem RpAll.one_inv {K : PySem.W.Frag} {H : Hp} {vs : List V} {d : D} (h : RpAll K H vs [d]) : ∃ v, vs = [v] ∧ Rp K H v d := by
  cases h with
  | cons a t => cases t; exact ⟨_, rfl, a⟩
theorem RpAll.two_inv {K : PySem.W.Frag} {H : Hp} {vs : List V} {d e : D} (h : RpAll K H vs [d, e]) : ∃ v w, vs = [v, w] ∧ Rp K H v d ∧ Rp K H w e := by
  cases h with
  | cons a t =>
    obtain ⟨w, rfl, b⟩ := t.one_inv
    exact ⟨_, w, rfl, a, b⟩
theorem semPI_rng1 {t : TA} {Fa : En → Option (List D)} (h : SemPA K m t Fa) : SemPI K m (iRng1 t) (fun env => (Fa env).bind rng1) := fun env σ S H R ds e Q q => by
  obtain ⟨a, ea, e⟩ := bind_some e
  unfold rng1 at e
  split at e
  · rename_i j
    split at e
    · rename_i hj
      cases e
      refine h env σ S H R _ ea _ fun v S1 H1 k r => ?_
      obtain ⟨w, rfl, r1⟩ := r.one_inv
      have hz : (sizeLine : Nat) = 16777216 := sizeLine_eq
      refine ⟨j, by rw [r1.int_inv], hj.2, by have := hj.1; omega, q _ S1 H1 k (by rw [rangeD_length]; have := hj.1; omega) walkD_range⟩
    · cases e
  · cases e
theorem semPI_rng2 {t : TA} {Fa : En → Option (List D)} (h : SemPA K m t Fa) : SemPI K m (iRng2 t) (fun env => (Fa env).bind rng2) := fun env σ S H R ds e Q q => by
  obtain ⟨a, ea, e⟩ := bind_some e
  unfold rng2 at e
  split at e
  · rename_i i j
    split at e
    · rename_i hj
      cases e
      refine h env σ S H R _ ea _ fun v S1 H1 k r => ?_
      obtain ⟨w, w', rfl, r1, r2⟩ := r.two_inv
      refine ⟨i, j, by rw [r1.int_inv, r2.int_inv], ⟨hj.1, hj.2.1, hj.2.2.1, hj.2.2.2.1⟩, q _ S1 H1 k (by rw [rangeD_length]; have := hj.2.2.2.2; omega) walkD_range⟩
    · cases e
  · cases e
end
/-! ### targets -/
/-- a target stores a value of data d: the slots ts alone change -/
def SemG (K : PySem.W.Frag) (m : List Nat) (ts : List Nat) (g : TG) (Gt : D → En → Option En) : Prop := ∀ env σ S H, Rel K m env σ S H → ∀ v d env', Rp K S v d → Gt d env = some env' →
  ∀ Q : SL → Hp → Prop, (∀ σ', σ'.length = σ.length → (∀ i, i ∉ ts → σ'[i]? = σ[i]?) → (∀ i, i ∈ m → σ'[i]? = σ[i]?) → Rel K m env' σ' S H → Q σ' H) → g v σ H Q
def SemGs (K : PySem.W.Frag) (m : List Nat) (ts : List Nat) (g : TGs) (Gt : List D → En → Option En) : Prop := ∀ env σ S H, Rel K m env σ S H → ∀ vs ds env', RpAll K S vs ds → Gt ds env = some env' →
  ∀ Q : SL → Hp → Prop, (∀ σ', σ'.length = σ.length → (∀ i, i ∉ ts → σ'[i]? = σ[i]?) → (∀ i, i ∈ m → σ'[i]? = σ[i]?) → Rel K m env' σ' S H → Q σ' H) → g vs σ H Q
def setE (j : Nat) (d : D) (env : En) : En := env.set j (some d)
theorem Rel.set {K : PySem.W.Frag} {m : List Nat} {env : En} {σ : SL} {S H : Hp} {j : Nat} {v : V} {d : D} (R : Rel K m env σ S H) (hj : j ∉ m) (r : Rp K S v d) : Rel K m (env.set j (some d)) (σ.set j (some v)) S H := by
  have ne : ∀ i, i ∈ m → j ≠ i := fun i hi e => hj (e ▸ hi)
  refine ⟨R.ex, R.sz, by simp [R.len], fun i d' hi e => ?_, fun i hi => ?_, fun i k p hi hk e1 e2 => ?_⟩
  · by_cases c : j = i
    · subst c
      rw [List.getElem?_set] at e
      simp at e
      obtain ⟨h1, rfl⟩ := e
      exact ⟨v, by rw [List.getElem?_set]; simp [← R.len, h1], r⟩
    · rw [List.getElem?_set_ne c] at e ⊢
      exact R.sh i d' hi e
  · rw [List.getElem?_set_ne (ne i hi), List.getElem?_set_ne (ne i hi)]
    exact R.ow i hi
  · rw [List.getElem?_set_ne (ne i hi)] at e1
    rw [List.getElem?_set_ne (ne k hk)] at e2
    exact R.inj i k p hi hk e1 e2
section
variable {K : PySem.W.Frag} {m : List Nat}
theorem semG_name {j : Nat} (hj : j ∉ m) : SemG K m [j] (gName j) (fun d env => some (setE j d env)) := fun env σ S H R v d env' r e Q q => by
  cases e
  refine q _ (by simp) (fun i hi => ?_) (fun i hi => ?_) (R.set hj r)
  · rw [List.getElem?_set_ne]
    intro e; exact hi (by simp [e])
  · rw [List.getElem?_set_ne]
    intro e; exact hj (e ▸ hi)
def tgNil : List D → En → Option En
  | [], env => some env
  | _, _ => none
def tgCons (G : D → En → Option En) (Gs : List D → En → Option En) : List D → En → Option En
  | d :: ds, env => (G d env).bind fun e => Gs ds e
  | [], _ => none
theorem semGs_nil : SemGs K m [] gNil tgNil := fun env σ S H R vs ds env' r e Q q => by
  cases ds with
  | cons _ _ => cases e
  | nil =>
    cases r
    cases e
    exact ⟨rfl, q σ rfl (fun _ _ => rfl) (fun _ _ => rfl) R⟩
theorem semGs_cons {ts us : List Nat} {g : TG} {gs : TGs} {G : D → En → Option En} {Gs : List D → En → Option En} (h1 : SemG K m ts g G) (h2 : SemGs K m us gs Gs) : SemGs K m (ts ++ us) (gCons g gs) (tgCons G Gs) := fun env σ S H R vs ds env' r e Q q => by
  cases ds with
  | nil => cases e
  | cons d ds =>
    obtain ⟨e1, he, e⟩ := bind_some e
    cases r with
    | cons ra rt =>
      refine ⟨_, _, rfl, h1 env σ S H R _ _ e1 ra he _ fun σ1 l1 f1 k1 R1 => h2 e1 σ1 S H R1 _ _ env' rt e Q fun σ2 l2 f2 k2 R2 => q σ2 (l2.trans l1) (fun i hi => ?_) (fun i hi => (k2 i hi).trans (k1 i hi)) R2⟩
      exact (f2 i fun z => hi (List.mem_append_right _ z)).trans (f1 i fun z => hi (List.mem_append_left _ z))
def tgTup (Gs : List D → En → Option En) : D → En → Option En := fun d env => (asT d).bind fun ds => Gs ds env
theorem semG_tup {ts : List Nat} {gs : TGs} {Gs : List D → En → Option En} {n : Nat} (h : SemGs K m ts gs Gs) (hn : ∀ ds env e, Gs ds env = some e → ds.length = n) : SemG K m ts (gTup K n gs) (tgTup Gs) := fun env σ S H R v d env' r e Q q => by
  obtain ⟨ds, ed, e⟩ := bind_some e
  cases asT_some ed
  obtain ⟨p, xs, rfl, hs, ha⟩ := r.tuple_inv
  exact ⟨p, xs, rfl, SqT.of (R.ex _ _ hs), ha.length.trans (hn _ _ _ e), h env σ S H R xs ds env' ha e Q q⟩
theorem tg_len0 : ∀ (ds : List D) env e, tgNil ds env = some e → ds.length = 0 := fun ds env e h => by
  cases ds with
  | nil => rfl
  | cons _ _ => cases h
theorem tg_lenS {G : D → En → Option En} {Gs : List D → En → Option En} {n : Nat} (hn : ∀ (ds : List D) env e, Gs ds env = some e → ds.length = n) : ∀ (ds : List D) env e, tgCons G Gs ds env = some e → ds.length = n + 1 := fun ds env e h => by
  cases ds with
  | nil => cases h
  | cons d ds =>
    obtain ⟨e1, _, h2⟩ := bind_some h
    exact congrArg (· + 1) (hn ds e1 e h2)
end
/-! ### comprehensions -/
def wipeE (env : En) : List Nat → En
  | [] => env
  | v :: vs => (wipeE env vs).set v none
theorem wipeE_length (env : En) : ∀ vs, (wipeE env vs).length = env.length
  | [] => rfl
  | v :: vs => by unfold wipeE; rw [List.length_set, wipeE_length env vs]
theorem wipeE_out {env : En} {i : Nat} : ∀ {vs : List Nat}, i ∉ vs → (wipeE env vs)[i]? = env[i]?
  | [], _ => rfl
  | v :: vs, h => by
    unfold wipeE
    rw [List.getElem?_set_ne (fun e => h (by simp [e])), wipeE_out fun z => h (List.mem_cons_of_mem _ z)]
theorem wipeE_some {env : En} {i : Nat} {x : D} : ∀ {vs : List Nat}, (wipeE env vs)[i]? = some (some x) → env[i]? = some (some x) ∧ i ∉ vs
  | [], h => ⟨h, by simp⟩
  | v :: vs, h => by
    unfold wipeE at h
    by_cases c : v = i
    · subst c
      rw [List.getElem?_set] at h
      simp at h
    · rw [List.getElem?_set_ne c] at h
      obtain ⟨h1, h2⟩ := wipeE_some h
      exact ⟨h1, by simp only [List.mem_cons, not_or]; exact ⟨fun e => c e.symm, h2⟩⟩
theorem wipe_in {σ : SL} {i : Nat} : ∀ {vs : List Nat}, i ∈ vs → i < σ.length → (wipe σ vs)[i]? = some none
  | [], h, _ => by simp at h
  | v :: vs, h, hl => by
    unfold wipe
    by_cases c : v = i
    · subst c
      rw [List.getElem?_set_self (by rw [wipe_length]; exact hl)]
    · rw [List.getElem?_set_ne c]
      exact wipe_in (by simp at h; rcases h with h | h; exact absurd h.symm c; exact h) hl
theorem wipe_eq {σ τ : SL} {vs : List Nat} (hl : τ.length = σ.length) (h : ∀ i, i ∉ vs → τ[i]? = σ[i]?) : wipe τ vs = wipe σ vs := by
  apply List.ext_getElem?
  intro i
  by_cases c : i ∈ vs
  · by_cases d : i < σ.length
    · rw [wipe_in c d, wipe_in c (by omega)]
    · rw [List.getElem?_eq_none (by rw [wipe_length]; omega), List.getElem?_eq_none (by rw [wipe_length]; omega)]
  · rw [wipe_out c, wipe_out c]
    exact h i c
theorem Rel.wipe {K : PySem.W.Frag} {m : List Nat} {env : En} {σ : SL} {S H : Hp} (R : Rel K m env σ S H) {vs : List Nat} (hv : ∀ i, i ∈ m → i ∉ vs) : Rel K m (wipeE env vs) (wipe σ vs) S H := by
  refine ⟨R.ex, R.sz, by rw [wipeE_length, wipe_length, R.len], fun i d hi e => ?_, fun i hi => ?_, fun i k p hi hk e1 e2 => ?_⟩
  · obtain ⟨e1, hn⟩ := wipeE_some e
    rw [wipe_out hn]
    exact R.sh i d hi e1
  · rw [wipeE_out (hv i hi), wipe_out (hv i hi)]
    exact R.ow i hi
  · rw [wipe_out (hv i hi)] at e1
    rw [wipe_out (hv k hk)] at e2
    exact R.inj i k p hi hk e1 e2
/-- the items that a comprehension gives -/
def compD (f : D → Option (Option D)) : List D → Option (List D)
  | [] => some []
  | x :: xs => (f x).bind fun r => (compD f xs).map fun ys => r.toList ++ ys
theorem compD_append {f : D → Option (Option D)} : ∀ xs ys, compD f (xs ++ ys) = (compD f xs).bind fun a => (compD f ys).map fun b => a ++ b
  | [], ys => by simp [compD]
  | x :: xs, ys => by
    simp only [List.cons_append, compD]
    rw [compD_append xs ys]
    cases f x with
    | none => rfl
    | some r =>
      cases compD f xs with
      | none => rfl
      | some a =>
        cases compD f ys with
        | none => rfl
        | some b => simp
theorem compD_take {f : D → Option (Option D)} {xs : List D} {r : List D} (h : compD f xs = some r) {i : Nat} {x : D} (hx : xs[i]? = some x) : ∃ a y, compD f (xs.take i) = some a ∧ f x = some y ∧ compD f (xs.take (i + 1)) = some (a ++ y.toList) := by
  have hi := (List.getElem?_eq_some_iff.mp hx).1
  have e1 : xs = xs.take (i + 1) ++ xs.drop (i + 1) := (List.take_append_drop _ _).symm
  rw [e1, compD_append] at h
  obtain ⟨a1, h1, _⟩ := bind_some h
  have e2 : xs.take (i + 1) = xs.take i ++ [x] := by rw [List.take_add_one, hx]; rfl
  rw [e2, compD_append] at h1 ⊢
  obtain ⟨a, ha, h2⟩ := bind_some h1
  obtain ⟨b, hb, rfl⟩ := map_some h2
  simp only [compD] at hb
  obtain ⟨y, hy, hb⟩ := bind_some hb
  simp at hb
  refine ⟨a, y, ha, hy, ?_⟩
  rw [ha]
  simp [compD, hy]
theorem compD_len {f : D → Option (Option D)} : ∀ {xs r : List D}, compD f xs = some r → r.length ≤ xs.length
  | [], r, h => by cases h; simp
  | x :: xs, r, h => by
    simp only [compD] at h
    obtain ⟨y, _, h⟩ := bind_some h
    obtain ⟨ys, h2, rfl⟩ := map_some h
    have := compD_len h2
    cases y <;> simp <;> omega
def lcF (vs : List Nat) (Fi : En → Option (List D)) (Gt : D → En → Option En) (Ft : En → Option Bool) (Fe : En → Option D) : En → Option D := fun env => (Fi env).bind fun ds =>
  (compD (fun d => (Gt d (wipeE env vs)).bind fun e => (Ft e).bind fun b => if b = true then (Fe e).map some else some none) ds).map .list
section
variable {K : PySem.W.Frag} {m : List Nat}
theorem semPT_yes : SemPT K m tYes (fun _ => some true) := fun env σ S H R d e Q q => by
  cases e
  exact q S H (Gz.refl R.ex R.sz)
theorem semP_lc {wi : TI} {g : TG} {tt : TT} {te : TE} {vs ts : List Nat} {Fi : En → Option (List D)} {Gt : D → En → Option En} {Ft : En → Option Bool} {Fe : En → Option D}
    (hi : SemPI K m wi Fi) (hg : SemG K m ts g Gt) (ht : SemPT K m tt Ft) (he : SemP K m te Fe) (hv : ∀ i, i ∈ m → i ∉ vs) (hts : ∀ i, i ∈ ts → i ∈ vs) : SemP K m (tLc wi g tt te vs) (lcF vs Fi Gt Ft Fe) := fun env σ S H R d e Q q => by
  obtain ⟨ds, eds, e⟩ := bind_some e
  obtain ⟨res, hres, rfl⟩ := map_some e
  refine hi env σ S H R ds eds _ fun J S1 H1 k1 hsz hw Dl hD => ?_
  obtain ⟨G, Y, W, hG, hY⟩ := hw
  have hS : S1 Dl = none := ex_free k1.x hD
  refine lc_it W (fun i H' => ∃ S' acc as, Gz S1 H1 S' H' ∧ S' Dl = none ∧ H' Dl = some (.lst acc) ∧ RpAll K S' acc as ∧ compD (fun d => (Gt d (wipeE env vs)).bind fun e => (Ft e).bind fun b => if b = true then (Fe e).map some else some none) (ds.take i) = some as)
    ⟨S1, [], [], ⟨Ex.refl _, Ex.new hD, fun _ _ => rfl, fun a o e => by
      rw [upd_ne (ne_of_none e hS)]
      exact k1.x a o e, k1.z.upd (by show 0 ≤ sizeLine; omega)⟩, hS, upd_same, .nil, rfl⟩ (fun i H' _ p => ?_) (fun i x H2 H3 hlt p y => ?_) (fun H' p => ?_)
  · obtain ⟨S', acc, as, g1, _⟩ := p
    exact hG H' (g1.s.trans g1.x)
  · obtain ⟨S2, acc, as, g1, h2, h3, h4, h5⟩ := p
    have hx : ds[i]? = some ds[i] := List.getElem?_eq_getElem hlt
    obtain ⟨a', y', c1, c2, c3⟩ := compD_take hres hx
    rw [h5] at c1; cases c1
    obtain ⟨S3, g3, r3⟩ := hY i S2 H2 x H3 _ hx g1.s g1.x g1.z y
    obtain ⟨e2, ge, c2⟩ := bind_some c2
    obtain ⟨b, tb, c2⟩ := bind_some c2
    have R3 := ((R.gz k1).gz (g1.trans g3)).wipe hv
    refine hg _ _ S3 H3 R3 x _ e2 r3 ge _ fun σ2 hl2 hf2 _ R2 => ⟨?_, ?_⟩
    · rw [wipe_eq (σ := wipe σ vs) hl2 fun i hi => hf2 i fun z => hi (hts i z)]
      exact wipe_eq (wipe_length _ _) fun i hi => wipe_out hi
    · refine ht e2 σ2 S3 H3 R2 b tb _ fun S4 H4 k4 => ?_
      have g4 := (g1.trans g3).trans k4
      have hD4 : H4 Dl = some (.lst acc) := k4.h _ _ (g3.h _ _ h3)
      have hS4 : S4 Dl = none := by
        rw [k4.n Dl (by rw [g3.h _ _ h3]; simp), g3.n Dl (by rw [h3]; simp)]
        exact h2
      cases b with
      | false =>
        simp at c2
        subst c2
        exact ⟨S4, acc, as, g4, hS4, hD4, h4.mono (g3.s.trans k4.s), by simpa using c3⟩
      | true =>
        simp only [if_true] at c2 ⊢
        obtain ⟨z, ez, rfl⟩ := map_some c2
        refine he e2 σ2 S4 H4 (R2.gz k4) z ez _ fun w S5 H5 k5 r5 => ?_
        have g5 := g4.trans k5
        have hD5 : H5 Dl = some (.lst acc) := k5.h _ _ hD4
        have hS5 : S5 Dl = none := by rw [k5.n Dl (by rw [hD4]; simp)]; exact hS4
        have hlen : acc.length < sizeLine := by
          have h6 := compD_len h5
          rw [List.length_take] at h6
          rw [h4.length]
          omega
        refine ⟨acc, hD5, hlen, S5, acc ++ [w], as ++ [z], ⟨g5.s, fun a o e => ?_, g5.n, fun a o e => ?_, g5.z.upd (by show (acc ++ [w]).length ≤ sizeLine; simp; omega)⟩, hS5, upd_same, ((h4.mono ((g3.s.trans k4.s).trans k5.s)).append (.cons r5 .nil)), by simpa using c3⟩
        · rw [upd_ne (ne_of_none e hD)]
          exact g5.h a o e
        · rw [upd_ne (ne_of_none e hS5)]
          exact g5.x a o e
  · obtain ⟨S2, acc, as, g1, h2, h3, h4, h5⟩ := p
    rw [List.take_length, hres] at h5
    cases h5
    refine q (.ref Dl) (upd S2 Dl (.lst acc)) H' (k1.trans ⟨g1.s.trans (Ex.new h2), g1.h, fun a ha => ?_, fun a o e => ?_, g1.z⟩) (.lst upd_same (h4.mono (Ex.new h2)))
    · have : a ≠ Dl := fun e => ha (e ▸ hD)
      rw [upd_ne this]
      exact g1.n a ha
    · by_cases c : a = Dl
      · subst c; rw [upd_same] at e; cases e; exact h3
      · rw [upd_ne c] at e; exact g1.x a o e
/-- the owned lists of a block, back in the outer environment -/
def back (m : List Nat) (env e : En) : En := m.foldl (fun acc i => match e[i]? with
  | some x => acc.set i x
  | none => acc) env
theorem back_length {e : En} : ∀ (m : List Nat) (env : En), (back m env e).length = env.length
  | [], _ => rfl
  | i :: m, env => by
    show (back m (match e[i]? with | some x => env.set i x | none => env) e).length = _
    rw [back_length m]
    split <;> simp
theorem back_out {e : En} {i : Nat} : ∀ {m : List Nat} {env : En}, i ∉ m → (back m env e)[i]? = env[i]?
  | [], _, _ => rfl
  | j :: m, env, h => by
    show (back m (match e[j]? with | some x => env.set j x | none => env) e)[i]? = _
    rw [back_out fun z => h (List.mem_cons_of_mem _ z)]
    split
    · rw [List.getElem?_set_ne fun z => h (by simp [z])]
    · rfl
theorem back_in {e : En} {i : Nat} : ∀ {m : List Nat} {env : En}, i ∈ m → e.length = env.length → (back m env e)[i]? = e[i]?
  | [], _, h, _ => by simp at h
  | j :: m, env, h, hl => by
    show (back m (match e[j]? with | some x => env.set j x | none => env) e)[i]? = _
    by_cases c : i ∈ m
    · exact back_in c (by split <;> simp [hl])
    · rw [back_out c]
      have : i = j := by simp at h; rcases h with h | h; exact h; exact absurd h c
      subst this
      split
      · rename_i x hx
        have := (List.getElem?_eq_some_iff.mp hx).1
        rw [List.getElem?_set_self (by omega), hx]
      · rename_i hx
        rw [List.getElem?_eq_none_iff] at hx
        rw [List.getElem?_eq_none (by omega), List.getElem?_eq_none hx]
theorem Rel.back {env e : En} {σ τ : SL} {S H S' H' : Hp} (R : Rel K m env σ S H) (R' : Rel K m e τ S' H') (hs : Ex S S') (ht : ∀ i, i ∈ m → τ[i]? = σ[i]?) (hl : τ.length = σ.length) : Rel K m (back m env e) σ S' H' := by
  refine ⟨R'.ex, R'.sz, by rw [back_length, R.len], fun i d hi e1 => ?_, fun i hi => ?_, fun i k p hi hk e1 e2 => R.inj i k p hi hk e1 e2⟩
  · rw [back_out hi] at e1
    obtain ⟨v, h1, h2⟩ := R.sh i d hi e1
    exact ⟨v, h1, h2.mono hs⟩
  · obtain ⟨p, ws, ds, h1, h2, h3⟩ := R'.ow i hi
    exact ⟨p, ws, ds, (back_in hi (by rw [R'.len, R.len, hl])).trans h1, (ht i hi).symm.trans h2, h3⟩
/-- a comprehension whose parts change owned lists -/
def compM (f : D → En → Option (Option D × En)) : List D → En → Option (List D × En)
  | [], env => some ([], env)
  | x :: xs, env => (f x env).bind fun r => (compM f xs r.2).map fun s => (r.1.toList ++ s.1, s.2)
theorem compM_append {f : D → En → Option (Option D × En)} : ∀ xs ys env, compM f (xs ++ ys) env = (compM f xs env).bind fun a => (compM f ys a.2).map fun b => (a.1 ++ b.1, b.2)
  | [], ys, env => by
    simp only [List.nil_append, compM, Option.bind_some]
    cases h : compM f ys env <;> simp
  | x :: xs, ys, env => by
    simp only [List.cons_append, compM]
    cases f x env with
    | none => rfl
    | some r =>
      simp only [Option.bind_some]
      rw [compM_append xs ys]
      cases compM f xs r.2 with
      | none => rfl
      | some a =>
        simp only [Option.bind_some, Option.map_some]
        cases compM f ys a.2 <;> simp
theorem compM_take {f : D → En → Option (Option D × En)} {xs : List D} {env : En} {r : List D × En} (h : compM f xs env = some r) {i : Nat} {x : D} (hx : xs[i]? = some x) :
    ∃ a y, compM f (xs.take i) env = some a ∧ f x a.2 = some y ∧ compM f (xs.take (i + 1)) env = some (a.1 ++ y.1.toList, y.2) := by
  have e1 : xs = xs.take (i + 1) ++ xs.drop (i + 1) := (List.take_append_drop _ _).symm
  rw [e1, compM_append] at h
  obtain ⟨a1, h1, _⟩ := bind_some h
  have e2 : xs.take (i + 1) = xs.take i ++ [x] := by rw [List.take_add_one, hx]; rfl
  rw [e2, compM_append] at h1 ⊢
  obtain ⟨a, ha, h2⟩ := bind_some h1
  obtain ⟨b, hb, rfl⟩ := map_some h2
  simp only [compM] at hb
  obtain ⟨y, hy, hb⟩ := bind_some hb
  refine ⟨a, y, ha, hy, ?_⟩
  rw [ha]
  simp [compM, hy]
theorem compM_len {f : D → En → Option (Option D × En)} : ∀ {xs : List D} {env : En} {r : List D × En}, compM f xs env = some r → r.1.length ≤ xs.length
  | [], _, r, h => by cases h; simp
  | x :: xs, env, r, h => by
    simp only [compM] at h
    obtain ⟨y, _, h⟩ := bind_some h
    obtain ⟨ys, h2, rfl⟩ := map_some h
    have := compM_len h2
    cases y.1 <;> simp <;> omega
def turnM (m vs : List Nat) (Gt : D → En → Option En) (Ft : En → Option (Bool × En)) (Fe : En → Option (D × En)) : D → En → Option (Option D × En) := fun d env => (Gt d (wipeE env vs)).bind fun e => (Ft e).bind fun b =>
  if b.1 = true then (Fe b.2).map fun r => (some r.1, back m env r.2) else some (none, back m env b.2)
def lcG (m vs : List Nat) (Fi : En → Option (List D × En)) (Gt : D → En → Option En) (Ft : En → Option (Bool × En)) (Fe : En → Option (D × En)) : En → Option (D × En) := fun env => (Fi env).bind fun ds =>
  (compM (turnM m vs Gt Ft Fe) ds.1 ds.2).map fun r => (.list r.1, r.2)
def SemF (K : PySem.W.Frag) (m : List Nat) (t : TE) (G : En → Option (D × En)) : Prop := ∀ env σ S H, Rel K m env σ S H → ∀ d env', G env = some (d, env') →
  ∀ Q : VK, (∀ p vs ds S' H', d = .list ds → Gm (Own m σ) S H S' H' → Rel K m env' σ S' H' → H p = none → S' p = none → H' p = some (.lst vs) → RpAll K S' vs ds → Q (.ref p) H') → t σ H Q
theorem Rel.pub {env : En} {σ : SL} {S H : Hp} (R : Rel K m env σ S H) {p : Addr} {vs : List V} (h1 : S p = none) (h2 : H p = some (.lst vs)) (h3 : ¬ Own m σ p) : Rel K m env σ (upd S p (.lst vs)) H :=
  ⟨fun a o e => by
    by_cases c : a = p
    · subst c; rw [upd_same] at e; cases e; exact h2
    · rw [upd_ne c] at e; exact R.ex a o e, R.sz, R.len, fun i d hi e => let ⟨v, q1, q2⟩ := R.sh i d hi e; ⟨v, q1, q2.mono (Ex.new h1)⟩, fun i hi =>
    let ⟨p', vs', ds', q1, q2, q3, q4, q5⟩ := R.ow i hi
    have hne : p' ≠ p := fun e => h3 ⟨i, hi, e ▸ q2⟩
    ⟨p', vs', ds', q1, q2, by rw [upd_ne hne]; exact q3, q4, q5.mono (Ex.new h1)⟩, R.inj⟩
theorem Rel.notOwn {env : En} {σ : SL} {S H : Hp} (R : Rel K m env σ S H) {p : Addr} (h : H p = none) : ¬ Own m σ p := fun ⟨i, hi, e⟩ => by
  obtain ⟨p', vs, ds, _, h2, _, h4, _⟩ := R.ow i hi
  rw [e] at h2; cases h2
  rw [h] at h4; cases h4
theorem Gm.pub {O : Addr → Prop} {S H S' H' : Hp} (g : Gm O S H S' H') {p : Addr} {o : HO} (h : H p = none) (h1 : S' p = none) : Gm O S H (upd S' p o) H' :=
  ⟨g.s.trans (Ex.new h1), g.h, fun a n ha => by
    have : a ≠ p := fun e => ha (e ▸ h)
    rw [upd_ne this]; exact g.n a n ha, g.d⟩
theorem SemF.sem {te : TE} {G : En → Option (D × En)} (h : SemF K m te G) : Sem K m te G := fun env σ S H R d env' e Q q => h env σ S H R d env' e Q fun p vs ds S' H' hd g R' h1 h2 h3 h4 => by
  subst hd
  exact q _ (upd S' p (.lst vs)) H' (g.pub h1 h2) (R'.pub h2 h3 (R.notOwn h1)) (.lst upd_same (h4.mono (Ex.new h2)))
theorem semF_lc {wi : TI} {g : TG} {tt : TT} {te : TE} {vs ts : List Nat} {Fi : En → Option (List D × En)} {Gt : D → En → Option En} {Ft : En → Option (Bool × En)} {Fe : En → Option (D × En)}
    (hi : SemI K m wi Fi) (hg : SemG K m ts g Gt) (ht : SemT K m tt Ft) (he : Sem K m te Fe) (hv : ∀ i, i ∈ m → i ∉ vs) (hts : ∀ i, i ∈ ts → i ∈ vs) : SemF K m (tLc wi g tt te vs) (lcG m vs Fi Gt Ft Fe) := fun env σ S H R d env' e Q q => by
  obtain ⟨⟨ds, env1⟩, eds, e⟩ := bind_some e
  obtain ⟨res, hres, e⟩ := map_some e
  cases e
  refine hi env σ S H R ds env1 eds _ fun J S1 H1 k1 R1 hsz hw Dl hD => ?_
  obtain ⟨G, Y, W, hG, hY⟩ := hw
  have hS : S1 Dl = none := ex_free R1.ex hD
  have nO : ∀ {S' H' e'}, Rel K m e' σ S' H' → S' Dl = none → H1 Dl = none → ¬ Own m σ Dl := fun {S' H' e'} R' _ _ ⟨i, hi, hp⟩ => by
    obtain ⟨p, ws, as, _, h2, _, h4, _⟩ := R1.ow i hi
    rw [hp] at h2; cases h2
    rw [hD] at h4; cases h4
  refine lc_it W (fun i H' => ∃ S' e' acc as, Gm (Own m σ) S1 H1 S' H' ∧ Rel K m e' σ S' H' ∧ S' Dl = none ∧ H' Dl = some (.lst acc) ∧ RpAll K S' acc as ∧ compM (turnM m vs Gt Ft Fe) (ds.take i) env1 = some (as, e'))
    ⟨S1, env1, [], [], ⟨Ex.refl _, fun a o e _ => by rw [upd_ne (ne_of_none e hD)]; exact e, fun _ _ _ => rfl, fun a ha => by
      have : a ≠ Dl := fun e => ha (e ▸ hD)
      rw [upd_ne this]; exact ha⟩, ?_, hS, upd_same, .nil, rfl⟩ (fun i H' _ p => ?_) (fun i x H2 H3 hlt p y => ?_) (fun H' p => ?_)
  · exact R1.gz ⟨Ex.refl _, Ex.new hD, fun _ _ => rfl, fun a o e => by
      rw [upd_ne (ne_of_none e hS)]
      exact R1.ex a o e, R1.sz.upd (by show 0 ≤ sizeLine; omega)⟩
  · obtain ⟨S', e', acc, as, g1, R', _⟩ := p
    exact hG H' (g1.s.trans R'.ex)
  · obtain ⟨S2, ee, acc, as, g1, R2, h2, h3, h4, h5⟩ := p
    have nD := nO R2 h2 hD
    have hx : ds[i]? = some ds[i] := List.getElem?_eq_getElem hlt
    obtain ⟨a', y', c1, c2, c3⟩ := compM_take hres hx
    rw [h5] at c1; cases c1
    obtain ⟨S3, g3, r3⟩ := hY i S2 H2 x H3 _ hx g1.s R2.ex R2.sz y
    obtain ⟨e2, ge, c2⟩ := bind_some c2
    obtain ⟨⟨b, eb⟩, tb, c2⟩ := bind_some c2
    have R3' := R2.gz g3
    have R3 := R3'.wipe hv
    refine hg _ _ S3 H3 R3 x _ e2 r3 ge _ fun σ2 hl2 hf2 hm2 R4 => ⟨?_, ?_⟩
    · rw [wipe_eq (σ := wipe σ vs) hl2 fun i hi => hf2 i fun z => hi (hts i z)]
      exact wipe_eq (wipe_length _ _) fun i hi => wipe_out hi
    · have hmσ : ∀ i, i ∈ m → σ2[i]? = σ[i]? := fun i hi => (hm2 i hi).trans (wipe_out (hv i hi))
      have hO : ∀ a, Own m σ2 a → Own m σ a := fun a ⟨i, hi, hp⟩ => ⟨i, hi, (hmσ i hi).symm.trans hp⟩
      have hlσ : σ2.length = σ.length := hl2.trans (wipe_length _ _)
      refine ht e2 σ2 S3 H3 R4 b eb tb _ fun S4 H4 k4' R5 => ?_
      have k4 := k4'.mono hO
      have g4 := (g1.trans g3.gm).trans k4
      have hD4 : H4 Dl = some (.lst acc) := k4.h _ _ (g3.h _ _ h3) nD
      have hS4 : S4 Dl = none := by
        rw [k4.n Dl nD (by rw [g3.h _ _ h3]; simp), g3.n Dl (by rw [h3]; simp)]
        exact h2
      cases b with
      | false =>
        simp at c2
        subst c2
        exact ⟨S4, _, acc, as, g4, R3'.back R5 k4.s hmσ hlσ, hS4, hD4, h4.mono (g3.s.trans k4.s), by simpa using c3⟩
      | true =>
        simp only [if_true] at c2 ⊢
        obtain ⟨⟨z, ez'⟩, ez, rfl⟩ := map_some c2
        refine he eb σ2 S4 H4 R5 z ez' ez _ fun w S5 H5 k5' R6 r5 => ?_
        have k5 := k5'.mono hO
        have g5 := g4.trans k5
        have hD5 : H5 Dl = some (.lst acc) := k5.h _ _ hD4 nD
        have hS5 : S5 Dl = none := by rw [k5.n Dl nD (by rw [hD4]; simp)]; exact hS4
        have hlen : acc.length < sizeLine := by
          have h6 := compM_len h5
          rw [List.length_take] at h6
          rw [h4.length]
          simp at h6
          omega
        have R7 := R3'.back R6 (k4.s.trans k5.s) hmσ hlσ
        refine ⟨acc, hD5, hlen, S5, _, acc ++ [w], as ++ [z], ⟨g5.s, fun a o e n => ?_, g5.n, fun a ha => ?_⟩, ?_, hS5, upd_same, ((h4.mono ((g3.s.trans k4.s).trans k5.s)).append (.cons r5 .nil)), by simpa using c3⟩
        · rw [upd_ne (ne_of_none e hD)]
          exact g5.h a o e n
        · have : a ≠ Dl := fun e => ha (e ▸ hD)
          rw [upd_ne this]
          exact g5.d a ha
        · refine ⟨fun a o e => ?_, R7.sz.upd (by show (acc ++ [w]).length ≤ sizeLine; simp; omega), R7.len, R7.sh, fun i hi => ?_, R7.inj⟩
          · rw [upd_ne (ne_of_none e hS5)]
            exact R7.ex a o e
          · obtain ⟨p, ws, es, q1, q2, q3, q4, q5⟩ := R7.ow i hi
            have : p ≠ Dl := fun e => nD ⟨i, hi, e ▸ q2⟩
            exact ⟨p, ws, es, q1, q2, q3, by rw [upd_ne this]; exact q4, q5⟩
  · obtain ⟨S2, ee, acc, as, g1, R2, h2, h3, h4, h5⟩ := p
    have nD := nO R2 h2 hD
    rw [List.take_length, hres] at h5
    cases h5
    refine q Dl acc _ S2 H' rfl (k1.trans g1) R2 ?_ h2 h3 h4
    cases c : H Dl with
    | none => rfl
    | some u => exact absurd hD (k1.d Dl (by rw [c]; simp))
theorem sem_lc {wi : TI} {g : TG} {tt : TT} {te : TE} {vs ts : List Nat} {Fi : En → Option (List D × En)} {Gt : D → En → Option En} {Ft : En → Option (Bool × En)} {Fe : En → Option (D × En)}
    (hi : SemI K m wi Fi) (hg : SemG K m ts g Gt) (ht : SemT K m tt Ft) (he : Sem K m te Fe) (hv : ∀ i, i ∈ m → i ∉ vs) (hts : ∀ i, i ∈ ts → i ∈ vs) : Sem K m (tLc wi g tt te vs) (lcG m vs Fi Gt Ft Fe) := SemF.sem (te := tLc wi g tt te vs) (semF_lc hi hg ht he hv hts)
end
end CS

/-! CsC: statements, loops, defs. -/
namespace CS
open PySem PySem.Spec PyProof.Rows L2
open Evl (Ex ex_l ex_t)
theorem ne_mem {m : List Nat} {i j : Nat} (hi : i ∈ m) (hj : j ∉ m) : j ≠ i := fun e => hj (e ▸ hi)
inductive Out where
  | nx (e : En)
  | rt (d : D) (own : List D)
  | bk (e : En)
  | ct (e : En)
structure Stp (pn m : List Nat) (σ : SL) (S H : Hp) (m' : List Nat) (σ' : SL) (S' H' : Hp) : Prop where
  g : Gm (Own m σ) S H S' H'
  o : ∀ a, Own m' σ' a → Own m σ a ∨ H a = none
  k : ∀ i, i ∈ pn → σ'[i]? = σ[i]?
structure RelP (K : PySem.W.Frag) (pn : List Nat) (own : List D) (σ : SL) (S H : Hp) : Prop where
  ex : Ex S H
  sz : SzH H
  len : own.length = pn.length
  ow : ∀ (k i : Nat), pn[k]? = some i → ∃ (p : Addr) (vs : List V) (ds : List D), own[k]? = some (.list ds) ∧ σ[i]? = some (some (.ref p)) ∧ S p = none ∧ H p = some (.lst vs) ∧ RpAll K S vs ds
/-- a value handed back: shared data, or (fr) a list that no one else has -/
def RetV (K : PySem.W.Frag) (fr : Bool) (pn m : List Nat) (σ : SL) (H : Hp) (σ' : SL) (S' H' : Hp) (v : V) (d : D) : Prop :=
  if fr = true then ∃ p vs ds, d = .list ds ∧ v = .ref p ∧ (Own m σ p ∨ H p = none) ∧ (∀ i, i ∈ pn → σ'[i]? ≠ some (some (.ref p))) ∧ S' p = none ∧ H' p = some (.lst vs) ∧ RpAll K S' vs ds else Rp K S' v d
def Post (K : PySem.W.Frag) (fr : Bool) (pn m ml m' : List Nat) (σ : SL) (S H : Hp) (E : Ends) : Out → Prop
  | .nx e => ∀ σ' S' H', Stp pn m σ S H m' σ' S' H' → Rel K m' e σ' S' H' → E.nx σ' H'
  | .rt d own => ∀ v σ' S' H', Gm (Own m σ) S H S' H' → (∀ i, i ∈ pn → σ'[i]? = σ[i]?) → RelP K pn own σ' S' H' → RetV K fr pn m σ H σ' S' H' v d → E.rt v H'
  | .bk e => ∀ σ' S' H', Stp pn m σ S H ml σ' S' H' → Rel K ml e σ' S' H' → E.bk σ' H'
  | .ct e => ∀ σ' S' H', Stp pn m σ S H ml σ' S' H' → Rel K ml e σ' S' H' → E.ct σ' H'
def SemS (K : PySem.W.Frag) (fr : Bool) (pn m ml m' : List Nat) (t : TS) (F : En → Option Out) : Prop := ∀ env σ S H, Rel K m env σ S H → ∀ o, F env = some o →
  ∀ E : Ends, Post K fr pn m ml m' σ S H E o → t E σ H
section
variable {K : PySem.W.Frag} {fr : Bool} {pn m m1 m' ml : List Nat} {σ σ1 σ2 : SL} {S H S1 H1 S2 H2 : Hp}
theorem Stp.refl : Stp pn m σ S H m σ S H := ⟨Gm.refl, fun _ h => .inl h, fun _ _ => rfl⟩
theorem Stp.trans (a : Stp pn m σ S H m1 σ1 S1 H1) (b : Stp pn m1 σ1 S1 H1 m' σ2 S2 H2) : Stp pn m σ S H m' σ2 S2 H2 :=
  ⟨a.g.then a.o b.g, fun c hc => (b.o c hc).elim (fun z => a.o c z) fun z => .inr (by
    cases q : H c with
    | none => rfl
    | some u => exact absurd z (a.g.d c (by rw [q]; simp))), fun i hi => (b.k i hi).trans (a.k i hi)⟩
theorem Stp.back (a : Stp pn m σ S H m1 σ1 S1 H1) (a' : H1 = H1) {c : Addr} (h : Own m1 σ1 c ∨ H1 c = none) : Own m σ c ∨ H c = none := h.elim (fun z => a.o c z) fun z => .inr (by
    cases q : H c with
    | none => rfl
    | some u => exact absurd z (a.g.d c (by rw [q]; simp)))
theorem RetV.before (a : Stp pn m σ S H m1 σ1 S1 H1) {σ' : SL} {S' H' : Hp} {v : V} {d : D} (h : RetV K fr pn m1 σ1 H1 σ' S' H' v d) : RetV K fr pn m σ H σ' S' H' v d := by
  unfold RetV at h ⊢
  cases fr with
  | false => exact h
  | true =>
    simp only [if_true] at h ⊢
    obtain ⟨p, vs, ds, h1, h2, h3, h4⟩ := h
    exact ⟨p, vs, ds, h1, h2, a.back rfl h3, h4⟩
/-- what is wanted behind a later state is what was wanted -/
theorem Post.after {E : Ends} (a : Stp pn m σ S H m1 σ1 S1 H1) {o : Out} (h : Post K fr pn m ml m' σ S H E o) : Post K fr pn m1 ml m' σ1 S1 H1 E o := by
  cases o with
  | nx e => exact fun σ' S' H' st R => h σ' S' H' (a.trans st) R
  | rt d own => exact fun v σ' S' H' g k P r => h v σ' S' H' (a.g.then a.o g) (fun i hi => (k i hi).trans (a.k i hi)) P (r.before a)
  | bk e => exact fun σ' S' H' st R => h σ' S' H' (a.trans st) R
  | ct e => exact fun σ' S' H' st R => h σ' S' H' (a.trans st) R
end
def fSeq (F1 F2 : En → Option Out) : En → Option Out := fun env => (F1 env).bind fun o => match o with
  | .nx e => F2 e
  | o => some o
def fNext : En → Option Out := fun env => some (.nx env)
section
variable {K : PySem.W.Frag} {fr : Bool} {pn m m1 m' ml : List Nat} {t u : TS} {F1 F2 : En → Option Out}
theorem semS_seq (h1 : SemS K fr pn m ml m1 t F1) (h2 : SemS K fr pn m1 ml m' u F2) : SemS K fr pn m ml m' (tSeq t u) (fSeq F1 F2) := fun env σ S H R o e E q => by
  obtain ⟨o1, e1, e⟩ := bind_some e
  refine h1 env σ S H R o1 e1 _ ?_
  cases o1 with
  | nx en => exact fun σ1 S1 H1 st R1 => h2 en σ1 S1 H1 R1 o e E (q.after st)
  | rt d own => cases e; exact q
  | bk en => cases e; exact q
  | ct en => cases e; exact q
theorem semS_next : SemS K fr pn m ml m tNext fNext := fun env σ S H R o e E q => by
  cases e
  exact q σ S H Stp.refl R
theorem semS_never : SemS K fr pn m ml m' tNever (fun _ => none) := fun env σ S H R o e E q => by cases e
theorem semS_break : SemS K fr pn m m m' tBreak (fun env => some (.bk env)) := fun env σ S H R o e E q => by
  cases e
  exact q σ S H Stp.refl R
theorem semS_cont : SemS K fr pn m m m' tCont (fun env => some (.ct env)) := fun env σ S H R o e E q => by
  cases e
  exact q σ S H Stp.refl R
/-! if -/
def sIf (Ft : En → Option (Bool × En)) (F1 F2 : En → Option Out) : En → Option Out := fun env => (Ft env).bind fun b => if b.1 = true then F1 b.2 else F2 b.2
def sIfP (Ft : En → Option Bool) (F1 F2 : En → Option Out) : En → Option Out := fun env => (Ft env).bind fun b => if b = true then F1 env else F2 env
theorem stp_e {σ : SL} {S H S' H' : Hp} (g : Gm (Own m σ) S H S' H') : Stp pn m σ S H m σ S' H' := ⟨g, fun _ h => .inl h, fun _ _ => rfl⟩
theorem semS_if {tt : TT} {Ft : En → Option (Bool × En)} (h : SemT K m tt Ft) (h1 : SemS K fr pn m ml m' t F1) (h2 : SemS K fr pn m ml m' u F2) : SemS K fr pn m ml m' (tIfS tt t u) (sIf Ft F1 F2) := fun env σ S H R o e E q => by
  obtain ⟨⟨b, e1⟩, eb, e⟩ := bind_some e
  refine h env σ S H R b e1 eb _ fun S1 H1 g R1 => ?_
  cases b with
  | true => exact h1 e1 σ S1 H1 R1 o e E (q.after (stp_e g))
  | false => exact h2 e1 σ S1 H1 R1 o e E (q.after (stp_e g))
theorem semS_ifP {tt : TT} {Ft : En → Option Bool} (h : SemPT K m tt Ft) (h1 : SemS K fr pn m ml m' t F1) (h2 : SemS K fr pn m ml m' u F2) : SemS K fr pn m ml m' (tIfS tt t u) (sIfP Ft F1 F2) := fun env σ S H R o e E q => by
  obtain ⟨b, eb, e⟩ := bind_some e
  refine h env σ S H R b eb _ fun S1 H1 g => ?_
  cases b with
  | true => exact h1 env σ S1 H1 (R.gz g) o e E (q.after (stp_e g.gm))
  | false => exact h2 env σ S1 H1 (R.gz g) o e E (q.after (stp_e g.gm))
/-! assignment -/
def sAsg (Fe : En → Option (D × En)) (Gt : D → En → Option En) : En → Option Out := fun env => (Fe env).bind fun r => (Gt r.1 r.2).map .nx
def sAsgP (Fe : En → Option D) (Gt : D → En → Option En) : En → Option Out := fun env => (Fe env).bind fun r => (Gt r env).map .nx
theorem own_same {σ σ' : SL} (h : ∀ i, i ∈ m → σ'[i]? = σ[i]?) {a : Addr} (o : Own m σ' a) : Own m σ a := let ⟨i, hi, e⟩ := o; ⟨i, hi, (h i hi).symm.trans e⟩
theorem semS_asg {te : TE} {g : TG} {Fe : En → Option (D × En)} {ts : List Nat} {Gt : D → En → Option En} (h : Sem K m te Fe) (hg : SemG K m ts g Gt) (hp : ∀ i, i ∈ pn → i ∉ ts) : SemS K fr pn m ml m (tAsg te g) (sAsg Fe Gt) := fun env σ S H R o e E q => by
  obtain ⟨⟨d, e1⟩, ed, e⟩ := bind_some e
  obtain ⟨e2, eg, rfl⟩ := map_some e
  exact h env σ S H R d e1 ed _ fun v S1 H1 g1 R1 r => hg e1 σ S1 H1 R1 v d e2 r eg _ fun σ' hl hf hm R2 => q σ' S1 H1 ⟨g1, fun a o => .inl (own_same hm o), fun i hi => hf i (hp i hi)⟩ R2
theorem semS_asgP {te : TE} {g : TG} {Fe : En → Option D} {ts : List Nat} {Gt : D → En → Option En} (h : SemP K m te Fe) (hg : SemG K m ts g Gt) (hp : ∀ i, i ∈ pn → i ∉ ts) : SemS K fr pn m ml m (tAsg te g) (sAsgP Fe Gt) := fun env σ S H R o e E q => by
  obtain ⟨d, ed, e⟩ := bind_some e
  obtain ⟨e2, eg, rfl⟩ := map_some e
  exact h env σ S H R d ed _ fun v S1 H1 g1 r => hg env σ S1 H1 (R.gz g1) v d e2 r eg _ fun σ' hl hf hm R2 => q σ' S1 H1 ⟨g1.gm, fun a o => .inl (own_same hm o), fun i hi => hf i (hp i hi)⟩ R2
/-- an expression dropped -/
def sDrop (Fe : En → Option (D × En)) : En → Option Out := fun env => (Fe env).map fun r => .nx r.2
theorem semS_drop {te : TE} {Fe : En → Option (D × En)} (h : Sem K m te Fe) : SemS K fr pn m ml m (tDrop te) (sDrop Fe) := fun env σ S H R o e E q => by
  obtain ⟨⟨d, e1⟩, ed, rfl⟩ := map_some e
  exact h env σ S H R d e1 ed _ fun v S1 H1 g1 R1 r => q σ S1 H1 (stp_e g1) R1
/-- a, b = x, y -/
def sPar (i j : Nat) (Fa : En → Option (List D × En)) : En → Option Out := fun env => (Fa env).bind fun r => match r.1 with
  | [a, b] => some (.nx (setE j b (setE i a r.2)))
  | _ => none
theorem semS_par {i j : Nat} {ta : TA} {Fa : En → Option (List D × En)} (h : SemA K m ta Fa) (hi : i ∉ m) (hj : j ∉ m) (hp : ∀ k, k ∈ pn → k ≠ i ∧ k ≠ j) : SemS K fr pn m ml m (tPar i j ta) (sPar i j Fa) := fun env σ S H R o e E q => by
  obtain ⟨⟨ds, e1⟩, ed, e⟩ := bind_some e
  refine h env σ S H R ds e1 ed _ fun vs S1 H1 g1 R1 r => ?_
  dsimp only at e
  split at e
  · rename_i a b
    cases e
    obtain ⟨v, w, rfl, ra, rb⟩ := r.two_inv
    refine ⟨v, w, rfl, q _ S1 H1 ⟨g1, fun c o => .inl (own_same (fun k hk => ?_) o), fun k hk => ?_⟩ ((R1.set hi ra).set hj rb)⟩
    · rw [List.getElem?_set_ne (ne_mem hk hj), List.getElem?_set_ne (ne_mem hk hi)]
    · rw [List.getElem?_set_ne (Ne.symm (hp k hk).2), List.getElem?_set_ne (Ne.symm (hp k hk).1)]
  · cases e
/-- x op= e -/
def sAug (i : Nat) (g : D → D → Option D) (Fe : En → Option (D × En)) : En → Option Out := fun env => (gv i env).bind fun a => (Fe env).bind fun r => (g a r.1).map fun z => .nx (setE i z r.2)
theorem gv_some {i : Nat} {env : En} {d : D} (h : gv i env = some d) : env[i]? = some (some d) := by
  unfold gv at h
  split at h
  · cases h; assumption
  · cases h
theorem semS_aug {i : Nat} {te : TE} {ti : R2} {g : D → D → Option D} {Fe : En → Option (D × En)} (ho : OpD K ti g) (h : Sem K m te Fe) (hi : i ∉ m) (hp : i ∉ pn) : SemS K fr pn m ml m (tAug i te ti) (sAug i g Fe) := fun env σ S H R o e E q => by
  obtain ⟨a, ea, e⟩ := bind_some e
  obtain ⟨⟨b, e1⟩, eb, e⟩ := bind_some e
  obtain ⟨z, ez, rfl⟩ := map_some e
  obtain ⟨v, h1, h2⟩ := R.sh i a hi (gv_some ea)
  refine ⟨v, h1, h env σ S H R b e1 eb _ fun w S1 H1 g1 R1 r => ho S1 H1 v w a b z R1.ex R1.sz (h2.mono g1.s) r ez _ fun y S2 H2 g2 r2 => q _ S2 H2 ⟨g1.trans g2.gm, fun c o => .inl (own_same (fun k hk => ?_) o), fun k hk => ?_⟩ ((R1.gz g2).set hi r2)⟩
  · rw [List.getElem?_set_ne (ne_mem hk hi)]
  · rw [List.getElem?_set_ne (ne_mem hk hp)]
/-! return -/
def owns (pn : List Nat) (env : En) : Option (List D) := pn.mapM fun i => gv i env
theorem owns_get : ∀ {pn : List Nat} {env : En} {own : List D}, owns pn env = some own → own.length = pn.length ∧ ∀ (k i : Nat), pn[k]? = some i → ∃ d, own[k]? = some d ∧ gv i env = some d
  | [], env, own, h => by
    simp [owns] at h
    subst h
    exact ⟨rfl, fun k i e => by simp at e⟩
  | j :: pn, env, own, h => by
    simp only [owns, List.mapM_cons] at h
    cases hj : gv j env with
    | none => simp [hj] at h
    | some d =>
      rw [hj] at h
      have h : (List.mapM (fun i => gv i env) pn).bind (fun r => some (d :: r)) = some own := h
      obtain ⟨r, hr, h⟩ := bind_some h
      cases h
      obtain ⟨l, f⟩ := owns_get (pn := pn) (env := env) (own := r) hr
      refine ⟨by simp [l], fun k i e => ?_⟩
      cases k with
      | zero => simp at e; subst e; exact ⟨d, by simp, hj⟩
      | succ k =>
        simp at e
        obtain ⟨z, h1, h2⟩ := f k i e
        exact ⟨z, by simpa using h1, h2⟩
theorem Rel.relP {env : En} {σ : SL} {S H : Hp} {own : List D} (R : Rel K m env σ S H) (ho : owns pn env = some own) (hp : ∀ i, i ∈ pn → i ∈ m) : RelP K pn own σ S H := by
  obtain ⟨l, f⟩ := owns_get ho
  refine ⟨R.ex, R.sz, l, fun k i e => ?_⟩
  have hi : i ∈ pn := List.mem_of_getElem? e
  obtain ⟨p, vs, ds, h1, h2, h3, h4, h5⟩ := R.ow i (hp i hi)
  obtain ⟨d, e1, e2⟩ := f k i e
  have := gv_some e2
  rw [h1] at this
  cases this
  exact ⟨p, vs, ds, e1, h2, h3, h4, h5⟩
def sRet (pn : List Nat) (Fe : En → Option (D × En)) : En → Option Out := fun env => (Fe env).bind fun r => (owns pn r.2).map fun own => .rt r.1 own
def sRetP (pn : List Nat) (Fe : En → Option D) : En → Option Out := fun env => (Fe env).bind fun r => (owns pn env).map fun own => .rt r own
theorem semS_ret {te : TE} {Fe : En → Option (D × En)} (h : Sem K m te Fe) (hp : ∀ i, i ∈ pn → i ∈ m) : SemS K false pn m ml m' (tRet te) (sRet pn Fe) := fun env σ S H R o e E q => by
  obtain ⟨⟨d, e1⟩, ed, e⟩ := bind_some e
  obtain ⟨own, eo, rfl⟩ := map_some e
  exact h env σ S H R d e1 ed _ fun v S1 H1 g1 R1 r => q v σ S1 H1 g1 (fun _ _ => rfl) (R1.relP eo hp) (by unfold RetV; simpa using r)
theorem semS_retP {te : TE} {Fe : En → Option D} (h : SemP K m te Fe) (hp : ∀ i, i ∈ pn → i ∈ m) : SemS K false pn m ml m' (tRet te) (sRetP pn Fe) := fun env σ S H R o e E q => by
  obtain ⟨d, ed, e⟩ := bind_some e
  obtain ⟨own, eo, rfl⟩ := map_some e
  exact h env σ S H R d ed _ fun v S1 H1 g1 r => q v σ S1 H1 g1.gm (fun _ _ => rfl) ((R.gz g1).relP eo hp) (by unfold RetV; simpa using r)
theorem semS_retN (hp : ∀ i, i ∈ pn → i ∈ m) : SemS K false pn m ml m' tRetN (fun env => (owns pn env).map fun own => .rt .none own) := fun env σ S H R o e E q => by
  obtain ⟨own, eo, rfl⟩ := map_some e
  exact q .non σ S H Gm.refl (fun _ _ => rfl) (R.relP eo hp) (by unfold RetV; simpa using Rp.non)
/-- return of an owned list -/
def sRetO (pn : List Nat) (j : Nat) : En → Option Out := fun env => (gv j env).bind fun d => (owns pn env).map fun own => .rt d own
theorem semS_retO {j : Nat} (hj : j ∈ m) (hjp : j ∉ pn) (hp : ∀ i, i ∈ pn → i ∈ m) : SemS K true pn m ml m' (tRet (tVar j)) (sRetO pn j) := fun env σ S H R o e E q => by
  obtain ⟨d, ed, e⟩ := bind_some e
  obtain ⟨own, eo, rfl⟩ := map_some e
  obtain ⟨p, vs, ds, h1, h2, h3, h4, h5⟩ := R.ow j hj
  have := gv_some ed
  rw [h1] at this
  cases this
  refine ⟨.ref p, h2, q (.ref p) σ S H Gm.refl (fun _ _ => rfl) (R.relP eo hp) ?_⟩
  unfold RetV
  rw [if_pos rfl]
  exact ⟨p, vs, ds, rfl, rfl, .inl ⟨j, hj, h2⟩, fun i hi e => hjp (R.inj j i p hj (hp i hi) h2 e ▸ hi), h3, h4, h5⟩
/-! an owned list becomes shared -/
theorem Rel.share {env : En} {σ : SL} {S H : Hp} (R : Rel K m env σ S H) {j : Nat} (hj : j ∈ m) : ∃ S', Gm (Own m σ) S H S' H ∧ (∀ a, S' a ≠ S a → σ[j]? = some (some (.ref a))) ∧ Rel K (m.filter (· ≠ j)) env σ S' H := by
  obtain ⟨p, vs, ds, h1, h2, h3, h4, h5⟩ := R.ow j hj
  have mem : ∀ i, i ∈ m.filter (· ≠ j) ↔ i ∈ m ∧ i ≠ j := fun i => by simp
  refine ⟨upd S p (.lst vs), ⟨Ex.new h3, fun _ _ e _ => e, fun a n ha => ?_, fun _ h => h⟩, fun a ha => ?_, ⟨fun a o e => ?_, R.sz, R.len, fun i d hi e => ?_, fun i hi => ?_, fun i k q hi hk => R.inj i k q ((mem i).mp hi).1 ((mem k).mp hk).1⟩⟩
  · have : a ≠ p := fun e => n ⟨j, hj, e ▸ h2⟩
    rw [upd_ne this]
  · by_cases c : a = p
    · rw [c]; exact h2
    · rw [upd_ne c] at ha; exact absurd rfl ha
  · by_cases c : a = p
    · subst c; rw [upd_same] at e; cases e; exact h4
    · rw [upd_ne c] at e; exact R.ex a o e
  · by_cases c : i = j
    · subst c
      rw [h1] at e; cases e
      exact ⟨.ref p, h2, .lst upd_same (h5.mono (Ex.new h3))⟩
    · obtain ⟨v, q1, q2⟩ := R.sh i d (fun z => hi ((mem i).mpr ⟨z, c⟩)) e
      exact ⟨v, q1, q2.mono (Ex.new h3)⟩
  · obtain ⟨hi1, hi2⟩ := (mem i).mp hi
    obtain ⟨p', vs', ds', q1, q2, q3, q4, q5⟩ := R.ow i hi1
    have : p' ≠ p := fun e => hi2 (R.inj i j p hi1 hj (e ▸ q2) h2)
    exact ⟨p', vs', ds', q1, q2, by rw [upd_ne this]; exact q3, q4, q5.mono (Ex.new h3)⟩
theorem Rel.stpShare {env : En} {σ : SL} {S H : Hp} (R : Rel K m env σ S H) {j : Nat} (hj : j ∈ m) : ∃ S', Stp pn m σ S H (m.filter (· ≠ j)) σ S' H ∧ Rel K (m.filter (· ≠ j)) env σ S' H := by
  obtain ⟨S', g, _, R'⟩ := R.share hj
  exact ⟨S', ⟨g, fun a ⟨i, hi, e⟩ => .inl ⟨i, (List.mem_filter.mp hi).1, e⟩, fun _ _ => rfl⟩, R'⟩
/-- behind a statement slot j is shared from now on -/
theorem semS_share {j : Nat} {m2 : List Nat} {F : En → Option Out} (h : SemS K fr pn m ml m' t F) (hj : j ∈ m') (hm : m2 = m'.filter (· ≠ j)) : SemS K fr pn m ml m2 t F := fun env σ S H R o e E q => by
  subst hm
  refine h env σ S H R o e E ?_
  cases o with
  | nx en =>
    intro σ1 S1 H1 st R1
    obtain ⟨S2, st2, R2⟩ := R1.stpShare (pn := pn) hj
    exact q σ1 S2 H1 (st.trans st2) R2
  | rt d own => exact q
  | bk en => exact q
  | ct en => exact q
/-- ahead of a statement -/
theorem semS_shareA {j : Nat} {m2 : List Nat} {F : En → Option Out} (h : SemS K fr pn m2 ml m' t F) (hj : j ∈ m) (hm : m2 = m.filter (· ≠ j)) : SemS K fr pn m ml m' t F := fun env σ S H R o e E q => by
  subst hm
  obtain ⟨S2, st2, R2⟩ := R.stpShare (pn := pn) hj
  exact h env σ S2 H R2 o e E (q.after st2)
/-- a slot is forgotten behind a statement -/
theorem Rel.forget {env : En} {σ : SL} {S H : Hp} (R : Rel K m env σ S H) {vs : List Nat} (hv : ∀ i, i ∈ m → i ∉ vs) : Rel K m (wipeE env vs) σ S H :=
  ⟨R.ex, R.sz, by rw [wipeE_length, R.len], fun i d hi e => R.sh i d hi (wipeE_some e).1, fun i hi => by
    rw [wipeE_out (hv i hi)]
    exact R.ow i hi, R.inj⟩
def sForget (vs : List Nat) (F : En → Option Out) : En → Option Out := fun env => (F env).map fun o => match o with
  | .nx e => .nx (wipeE e vs)
  | .ct e => .ct (wipeE e vs)
  | o => o
theorem semS_forget {vs : List Nat} {F : En → Option Out} (h : SemS K fr pn m ml m' t F) (h1 : ∀ i, i ∈ m' → i ∉ vs) (h2 : ∀ i, i ∈ ml → i ∉ vs) : SemS K fr pn m ml m' t (sForget vs F) := fun env σ S H R o e E q => by
  obtain ⟨o1, e1, rfl⟩ := map_some e
  refine h env σ S H R o1 e1 E ?_
  cases o1 with
  | nx en => exact fun σ1 S1 H1 st R1 => q σ1 S1 H1 st (R1.forget h1)
  | rt d own => exact q
  | bk en => exact q
  | ct en => exact fun σ1 S1 H1 st R1 => q σ1 S1 H1 st (R1.forget h2)
/-! loops -/
def forD (f : D → En → Option Out) : List D → En → Option Out
  | [], env => some (.nx env)
  | x :: xs, env => (f x env).bind fun o => match o with
    | .nx e => forD f xs e
    | .ct e => forD f xs e
    | .bk e => some (.nx e)
    | .rt d own => some (.rt d own)
def sFor (Fi : En → Option (List D × En)) (Gt : D → En → Option En) (Fb : En → Option Out) : En → Option Out := fun env => (Fi env).bind fun r => forD (fun x e => (Gt x e).bind Fb) r.1 r.2
theorem semS_for {wi : TI} {g : TG} {tb : TS} {ts : List Nat} {Fi : En → Option (List D × En)} {Gt : D → En → Option En} {Fb : En → Option Out} (hi : SemI K m wi Fi) (hg : SemG K m ts g Gt) (hb : SemS K fr pn m m m tb Fb) (hp : ∀ i, i ∈ pn → i ∉ ts) :
    SemS K fr pn m ml m (tFor wi g tb) (sFor Fi Gt Fb) := fun env σ S H R o e E q => by
  obtain ⟨⟨ds, env1⟩, eds, e⟩ := bind_some e
  refine hi env σ S H R ds env1 eds _ fun J S1 H1 k1 R1 hsz hw => ?_
  obtain ⟨G, Y, W, hG, hY⟩ := hw
  have st1 := stp_e (pn := pn) k1
  have q1 := q.after st1
  refine for_it W (fun i σ' H' => ∃ S' e', Stp pn m σ S1 H1 m σ' S' H' ∧ Rel K m e' σ' S' H' ∧ forD (fun x e => (Gt x e).bind Fb) (ds.drop i) e' = some o) ⟨S1, env1, Stp.refl, R1, e⟩ (fun i σ' H' _ p => ?_) (fun i x σ' H2 H3 hlt p y => ?_) (fun σ' H' p => ?_)
  · obtain ⟨S', e', st, R', _⟩ := p
    exact hG H' (st.g.s.trans R'.ex)
  · obtain ⟨S2, e2, st, R2, ho⟩ := p
    have hx : ds[i]? = some ds[i] := List.getElem?_eq_getElem hlt
    obtain ⟨S3, g3, r3⟩ := hY i S2 H2 x H3 _ hx st.g.s R2.ex R2.sz y
    rw [List.drop_eq_getElem_cons hlt] at ho
    simp only [forD] at ho
    obtain ⟨o1, ho1, ho⟩ := bind_some ho
    obtain ⟨e3, eg, eb⟩ := bind_some ho1
    have R3 := R2.gz g3
    refine hg e2 σ' S3 H3 R3 x _ e3 r3 eg _ fun σ2 hl hf hm R4 => ?_
    have st3 : Stp pn m σ S1 H1 m σ2 S3 H3 := st.trans ⟨g3.gm, fun a o => .inl (own_same hm o), fun i hi => hf i (hp i hi)⟩
    refine hb e3 σ2 S3 H3 R4 o1 eb _ ?_
    cases o1 with
    | nx e4 => exact fun σ5 S5 H5 st5 R5 => ⟨S5, e4, st3.trans st5, R5, ho⟩
    | ct e4 => exact fun σ5 S5 H5 st5 R5 => ⟨S5, e4, st3.trans st5, R5, ho⟩
    | bk e4 => cases ho; exact fun σ5 S5 H5 st5 R5 => q1 σ5 S5 H5 (st3.trans st5) R5
    | rt d own => cases ho; exact Post.after (K := K) (fr := fr) (ml := m) (m' := m) (E := E) st3 (o := .rt d own) q1
  · obtain ⟨S2, e2, st, R2, ho⟩ := p
    rw [List.drop_length] at ho
    cases ho
    exact q1 σ' S2 H' st R2
def whileD (Ft : En → Option (Bool × En)) (Fb : En → Option Out) : Nat → En → Option Out
  | 0, _ => none
  | n + 1, env => (Ft env).bind fun b => if b.1 = true then (Fb b.2).bind fun o => match o with
      | .nx e => whileD Ft Fb n e
      | .ct e => whileD Ft Fb n e
      | .bk e => some (.nx e)
      | .rt d own => some (.rt d own)
    else some (.nx b.2)
open Classical in
noncomputable def sWhile (Ft : En → Option (Bool × En)) (Fb : En → Option Out) : En → Option Out := fun env => if h : ∃ n o, whileD Ft Fb n env = some o then whileD Ft Fb (choose h) env else none
theorem whileD_mono {Ft : En → Option (Bool × En)} {Fb : En → Option Out} : ∀ (n : Nat) (env : En) (o : Out), whileD Ft Fb n env = some o → ∀ k, n ≤ k → whileD Ft Fb k env = some o
  | 0, _, _, h, _, _ => by cases h
  | n + 1, env, o, h, 0, hk => by omega
  | n + 1, env, o, h, k + 1, hk => by
    simp only [whileD] at h ⊢
    obtain ⟨b, hb, h⟩ := bind_some h
    rw [hb]
    simp only [Option.bind_some]
    by_cases c : b.1 = true
    · rw [if_pos c] at h ⊢
      obtain ⟨o1, h1, h⟩ := bind_some h
      rw [h1]
      simp only [Option.bind_some]
      cases o1 with
      | nx e => exact whileD_mono n e o h k (by omega)
      | ct e => exact whileD_mono n e o h k (by omega)
      | bk e => exact h
      | rt d own => exact h
    · rw [if_neg c] at h ⊢
      exact h
theorem sWhile_of {Ft : En → Option (Bool × En)} {Fb : En → Option Out} {n : Nat} {env : En} {o : Out} (h : whileD Ft Fb n env = some o) : sWhile Ft Fb env = some o := by
  have hx : ∃ n o, whileD Ft Fb n env = some o := ⟨n, o, h⟩
  unfold sWhile
  rw [dif_pos hx]
  obtain ⟨o', h'⟩ := Classical.choose_spec hx
  have a := whileD_mono _ _ _ h' (max n (Classical.choose hx)) (Nat.le_max_right _ _)
  have b := whileD_mono _ _ _ h (max n (Classical.choose hx)) (Nat.le_max_left _ _)
  rw [a] at b
  rw [h', b]
theorem sWhile_some {Ft : En → Option (Bool × En)} {Fb : En → Option Out} {env : En} {o : Out} (h : sWhile Ft Fb env = some o) : ∃ n, whileD Ft Fb n env = some o := by
  unfold sWhile at h
  split at h
  · exact ⟨_, h⟩
  · cases h
theorem semS_while {tt : TT} {tb : TS} {Ft : En → Option (Bool × En)} {Fb : En → Option Out} (ht : SemT K m tt Ft) (hb : SemS K fr pn m m m tb Fb) : SemS K fr pn m ml m (tWhile tt tb) (sWhile Ft Fb) := fun env σ S H R o e E q => by
  obtain ⟨n0, e⟩ := sWhile_some e
  refine ⟨fun n σ' H' => ∃ S' e', Stp pn m σ S H m σ' S' H' ∧ Rel K m e' σ' S' H' ∧ whileD Ft Fb n e' = some o, ⟨n0, S, env, Stp.refl, R, e⟩, fun n σ' H' p => ?_⟩
  obtain ⟨S2, e2, st, R2, ho⟩ := p
  cases n with
  | zero => cases ho
  | succ n =>
    simp only [whileD] at ho
    obtain ⟨⟨b, e3⟩, hb1, ho⟩ := bind_some ho
    refine ht e2 σ' S2 H' R2 b e3 hb1 _ fun S3 H3 g3 R3 => ?_
    have st3 := st.trans (stp_e (pn := pn) g3)
    cases b with
    | false =>
      simp at ho
      subst ho
      exact q σ' S3 H3 st3 R3
    | true =>
      simp only [if_true] at ho ⊢
      obtain ⟨o1, ho1, ho⟩ := bind_some ho
      refine ⟨fun σ4 H4 => ∃ S4 e4, Stp pn m σ S H m σ4 S4 H4 ∧ Rel K m e4 σ4 S4 H4 ∧ whileD Ft Fb n e4 = some o, fun σ4 H4 h4 => ⟨n, Nat.lt_succ_self n, h4⟩, hb e3 σ' S3 H3 R3 o1 ho1 _ ?_⟩
      cases o1 with
      | nx e4 => exact fun σ5 S5 H5 st5 R5 => ⟨S5, e4, st3.trans st5, R5, ho⟩
      | ct e4 => exact fun σ5 S5 H5 st5 R5 => ⟨S5, e4, st3.trans st5, R5, ho⟩
      | bk e4 => cases ho; exact fun σ5 S5 H5 st5 R5 => q σ5 S5 H5 (st3.trans st5) R5
      | rt d own => cases ho; exact Post.after (K := K) (fr := fr) (ml := m) (m' := m) (E := E) st3 (o := .rt d own) q
end
/-! ### fresh lists -/
section
variable {K : PySem.W.Frag} {fr : Bool} {pn m m1 m' ml : List Nat} {te : TE} {G : En → Option (D × En)}
/-- x = a fresh list: x owns it -/
def sAsgF (j : Nat) (G : En → Option (D × En)) : En → Option Out := fun env => (G env).bind fun r => if j < r.2.length then some (.nx (setE j r.1 r.2)) else none
theorem Rel.own {env : En} {σ : SL} {S H : Hp} (R : Rel K m env σ S H) {j : Nat} {p : Addr} {vs : List V} {ds : List D} (hj : j ∉ m) (hl : j < σ.length) (h2 : S p = none) (h3 : H p = some (.lst vs)) (h4 : RpAll K S vs ds) (hn : ¬ Own m σ p) :
    Rel K (j :: m) (env.set j (some (.list ds))) (σ.set j (some (.ref p))) S H := by
  have ne : ∀ i, i ∈ m → j ≠ i := fun i hi e => hj (e ▸ hi)
  refine ⟨R.ex, R.sz, by simp [R.len], fun i d hi e => ?_, fun i hi => ?_, fun i k q hi hk e1 e2 => ?_⟩
  · have h5 : j ≠ i := fun e => hi (by simp [e])
    rw [List.getElem?_set_ne h5] at e ⊢
    exact R.sh i d (fun z => hi (List.mem_cons_of_mem _ z)) e
  · by_cases c : j = i
    · subst c
      exact ⟨p, vs, ds, by rw [List.getElem?_set_self (by rw [R.len]; exact hl)], by rw [List.getElem?_set_self hl], h2, h3, h4⟩
    · rw [List.getElem?_set_ne c, List.getElem?_set_ne c]
      simp at hi
      rcases hi with hi | hi
      · exact absurd hi.symm c
      · exact R.ow i hi
  · by_cases ci : j = i
    · subst ci
      rw [List.getElem?_set_self hl] at e1
      cases e1
      by_cases ck : j = k
      · exact ck
      · rw [List.getElem?_set_ne ck] at e2
        simp at hk
        rcases hk with hk | hk
        · exact absurd hk.symm ck
        · exact absurd ⟨k, hk, e2⟩ hn
    · rw [List.getElem?_set_ne ci] at e1
      have hi' : i ∈ m := by simp at hi; rcases hi with hi | hi; exact absurd hi.symm ci; exact hi
      by_cases ck : j = k
      · subst ck
        rw [List.getElem?_set_self hl] at e2
        cases e2
        exact absurd ⟨i, hi', e1⟩ hn
      · rw [List.getElem?_set_ne ck] at e2
        have hk' : k ∈ m := by simp at hk; rcases hk with hk | hk; exact absurd hk.symm ck; exact hk
        exact R.inj i k q hi' hk' e1 e2
theorem semS_asgF {j : Nat} (h : SemF K m te G) (hj : j ∉ m) (hp : j ∉ pn) : SemS K fr pn m ml (j :: m) (tAsg te (gName j)) (sAsgF j G) := fun env σ S H R o e E q => by
  obtain ⟨⟨d, e1⟩, ed, e⟩ := bind_some e
  dsimp only at e
  split at e <;> cases e
  rename_i hlt
  refine h env σ S H R d e1 ed _ fun p vs ds S1 H1 hd g R1 h1 h2 h3 h4 => ?_
  subst hd
  have hn : j < σ.length := by have := R1.len; omega
  refine q _ S1 H1 ⟨g, fun a ⟨i, hi, ea⟩ => ?_, fun i hi => ?_⟩ (R1.own hj (hn) h2 h3 h4 (R.notOwn h1))
  · by_cases c : j = i
    · subst c
      rw [List.getElem?_set_self (hn)] at ea
      cases ea
      exact .inr h1
    · rw [List.getElem?_set_ne c] at ea
      simp at hi
      rcases hi with hi | hi
      · exact absurd hi.symm c
      · exact .inl ⟨i, hi, ea⟩
  · rw [List.getElem?_set_ne (ne_mem hi hp)]
theorem semF_lst {t : TA} {Ga : En → Option (List D × En)} (ha : SemA K m t Ga) : SemF K m (tLst t) (gLstE Ga) := fun env σ S H R d env' e Q q => by
  obtain ⟨⟨a, e1⟩, ea, e⟩ := bind_some e
  obtain ⟨b, eb, e⟩ := map_some e
  obtain ⟨rfl, hz⟩ := sized_some eb
  cases e
  refine ha env σ S H R _ _ ea _ fun xs S1 H1 k1 R1 rx => ⟨by rw [rx.length]; exact hz, fun p hp => ?_⟩
  have hS := ex_free R1.ex hp
  have h0 : H p = none := by
    cases c : H p with
    | none => rfl
    | some u => exact absurd hp (k1.d p (by rw [c]; simp))
  refine q p xs b S1 (upd H1 p (.lst xs)) rfl ⟨k1.s, fun a o e n => ?_, k1.n, fun a ha => ?_⟩ ?_ h0 hS upd_same rx
  · rw [upd_ne (ne_of_none e h0)]; exact k1.h a o e n
  · have : a ≠ p := fun e => ha (e ▸ h0)
    rw [upd_ne this]; exact k1.d a ha
  · exact R1.gz ⟨Ex.refl _, Ex.new hp, fun _ _ => rfl, fun a o e => by
      rw [upd_ne (ne_of_none e hS)]; exact R1.ex a o e, R1.sz.upd (by show xs.length ≤ sizeLine; rw [rx.length]; exact hz)⟩
/-- return of a fresh list -/
theorem semS_retF (h : SemF K m te G) (hp : ∀ i, i ∈ pn → i ∈ m) : SemS K true pn m ml m' (tRet te) (sRet pn G) := fun env σ S H R o e E q => by
  obtain ⟨⟨d, e1⟩, ed, e⟩ := bind_some e
  obtain ⟨own, eo, rfl⟩ := map_some e
  refine h env σ S H R d e1 ed _ fun p vs ds S1 H1 hd g R1 h1 h2 h3 h4 => q (.ref p) σ S1 H1 g (fun _ _ => rfl) (R1.relP eo hp) ?_
  unfold RetV
  rw [if_pos rfl]
  exact ⟨p, vs, ds, hd, rfl, .inr h1, fun i hi e => R.notOwn h1 ⟨i, hp i hi, e⟩, h2, h3, h4⟩
end
end CS

/-! CsD: owned lists changed in place, calls of own defs, a def's promise by its body. -/
namespace CS
open PySem PySem.Spec PyProof.Rows L2
open Evl (Ex ex_l ex_t)
section
variable {K : PySem.W.Frag} {fr : Bool} {pn m m1 m' ml : List Nat} {te : TE}
theorem Rel.mut {env : En} {σ : SL} {S H : Hp} (R : Rel K m env σ S H) {j : Nat} {p : Addr} {vs vs' : List V} {ds' : List D} (hj : j ∈ m) (hp : σ[j]? = some (some (.ref p))) (h4 : H p = some (.lst vs)) (z : vs'.length ≤ sizeLine) (r : RpAll K S vs' ds') :
    Gm (Own m σ) S H S (upd H p (.lst vs')) ∧ Rel K m (env.set j (some (.list ds'))) σ S (upd H p (.lst vs')) := by
  obtain ⟨p0, vs0, ds0, h1, h2, h3, h40, h5⟩ := R.ow j hj
  rw [hp] at h2; cases h2
  refine ⟨⟨Ex.refl S, fun a o e n => ?_, fun _ _ _ => rfl, fun a ha => ?_⟩, ⟨fun a o e => ?_, R.sz.upd z, by simp [R.len], fun i d hi e => ?_, fun i hi => ?_, R.inj⟩⟩
  · have : a ≠ p := fun e => n ⟨j, hj, e ▸ hp⟩
    rw [upd_ne this]; exact e
  · by_cases c : a = p
    · subst c; rw [upd_same]; simp
    · rw [upd_ne c]; exact ha
  · have : a ≠ p := fun c => by subst c; rw [h3] at e; cases e
    rw [upd_ne this]; exact R.ex a o e
  · rw [List.getElem?_set_ne (ne_mem hj hi).symm] at e
    exact R.sh i d hi e
  · by_cases c : i = j
    · subst c
      exact ⟨p, vs', ds', by rw [List.getElem?_set_self (List.getElem?_eq_some_iff.mp h1).1], hp, h3, upd_same, r⟩
    · obtain ⟨p', ws, es, q1, q2, q3, q4, q5⟩ := R.ow i hi
      have : p' ≠ p := fun e => c (R.inj i j p hi hj (e ▸ q2) hp)
      exact ⟨p', ws, es, by rw [List.getElem?_set_ne (fun e => c e.symm)]; exact q1, q2, q3, by rw [upd_ne this]; exact q4, q5⟩
/-- a method that changes its list: what it makes of the items -/
def MutR (K : PySem.W.Frag) (r : V → List V → Hp → VK → Prop) (g : List D → D → Option (List D)) : Prop := ∀ S H p vs ds y d ds', Ex S H → SzH H → S p = none → H p = some (.lst vs) → RpAll K S vs ds → Rp K S y d → g ds d = some ds' →
  ∀ Q : VK, (∀ vs', vs'.length ≤ sizeLine → RpAll K S vs' ds' → Q .non (upd H p (.lst vs'))) → r (.ref p) [y] H Q
def gAppend : List D → D → Option (List D) := fun ds d => if ds.length < sizeLine then some (ds ++ [d]) else none
def gExtend : List D → D → Option (List D) := fun ds d => (asL d).bind fun es => if ds.length + es.length ≤ sizeLine then some (ds ++ es) else none
theorem mut_append : MutR K rAppend gAppend := fun S H p vs ds y d ds' x z hS hp ra r e Q q => by
  unfold gAppend at e
  split at e
  · rename_i hl
    cases e
    have h1 := ra.length
    exact ⟨p, vs, y, rfl, rfl, hp, by omega, q _ (by simp; omega) (ra.append (.cons r .nil))⟩
  · cases e
theorem gExtend_some {ds ds' : List D} {d : D} (h : gExtend ds d = some ds') : ∃ es : List D, d = .list es ∧ ds.length + es.length ≤ sizeLine ∧ ds' = ds ++ es := by
  unfold gExtend at h
  obtain ⟨es, ee, h⟩ := bind_some h
  refine ⟨es, asL_some ee, ?_⟩
  split at h
  · cases h
    exact ⟨by assumption, rfl⟩
  · cases h
theorem mut_extend : MutR K rExtend gExtend := fun S H p vs ds y d ds' x z hS hp ra r e Q q => by
  obtain ⟨es, rfl, hl, rfl⟩ := gExtend_some e
  obtain ⟨b, zs, rfl, hs, hb⟩ := r.list_inv
  have h1 := ra.length
  have h2 := hb.length
  exact ⟨p, b, vs, zs, rfl, rfl, hp, x _ _ hs, by omega, q _ (by simp; omega) (ra.append hb)⟩
def sMut (j : Nat) (g : List D → D → Option (List D)) (Fe : En → Option (D × En)) : En → Option Out := fun env => (Fe env).bind fun r => ((gv j r.2).bind asL).bind fun ds => (g ds r.1).map fun ds' => .nx (setE j (.list ds') r.2)
theorem semS_mut {j : Nat} {r : V → List V → Hp → VK → Prop} {g : List D → D → Option (List D)} {Fe : En → Option (D × En)} (hr : MutR K r g) (h : Sem K m te Fe) (hj : j ∈ m) : SemS K fr pn m ml m (tDrop (tBM K "list" r (tVar j) (tCons te tNil))) (sMut j g Fe) := fun env σ S H R o e E q => by
  obtain ⟨⟨d, e1⟩, ed, e⟩ := bind_some e
  obtain ⟨ds, eds, e⟩ := bind_some e
  obtain ⟨d0, ed0, eds⟩ := bind_some eds
  cases asL_some eds
  obtain ⟨ds', eg, rfl⟩ := map_some e
  obtain ⟨p, vs, as, h1, h2, h3, h4, h5⟩ := R.ow j hj
  refine ⟨.ref p, h2, .inl ⟨rfl, _, .inl (.inl h4)⟩, h env σ S H R d e1 ed _ fun y S1 H1 g1 R1 ry => ?_⟩
  obtain ⟨p1, vs1, as1, k1, k2, k3, k4, k5⟩ := R1.ow j hj
  rw [h2] at k2; cases k2
  have := gv_some ed0
  rw [k1] at this; cases this
  refine hr S1 H1 p vs1 _ y d ds' R1.ex R1.sz k3 k4 k5 ry eg _ fun vs' z r' => ?_
  obtain ⟨g2, R2⟩ := R1.mut hj h2 k4 z r'
  exact q σ S1 _ (stp_e (g1.trans g2)) R2
/-- xs[i] = e -/
def setAt (ds : List D) (i : Int) (d : D) : Option (List D) := (ixN ds.length i).map fun k => ds.set k d
def sSetI (j : Nat) (Fe Fi : En → Option (D × En)) : En → Option Out := fun env => (Fe env).bind fun r => (Fi r.2).bind fun s => ((gv j s.2).bind asL).bind fun ds => (asI s.1).bind fun i => (setAt ds i r.1).map fun ds' => .nx (setE j (.list ds') s.2)
theorem semS_setI {j : Nat} {ti : TE} {Fe Fi : En → Option (D × En)} (h : Sem K m te Fe) (hi : Sem K m ti Fi) (hj : j ∈ m) : SemS K fr pn m ml m (tAsg te (gSub (tVar j) ti rSetL)) (sSetI j Fe Fi) := fun env σ S H R o e E q => by
  obtain ⟨⟨d, e1⟩, ed, e⟩ := bind_some e
  obtain ⟨⟨i, e2⟩, ei, e⟩ := bind_some e
  obtain ⟨ds, eds, e⟩ := bind_some e
  obtain ⟨d0, ed0, eds⟩ := bind_some eds
  cases asL_some eds
  obtain ⟨n, en, e⟩ := bind_some e
  cases asI_some en
  obtain ⟨ds', eg, rfl⟩ := map_some e
  obtain ⟨k, ek, rfl⟩ := map_some eg
  refine h env σ S H R d e1 ed _ fun y S1 H1 g1 R1 ry => ?_
  obtain ⟨p, vs, as, h1, h2, h3, h4, h5⟩ := R1.ow j hj
  refine ⟨.ref p, h2, hi e1 σ S1 H1 R1 _ e2 ei _ fun w S2 H2 g2 R2 rw' => ?_⟩
  obtain ⟨p1, vs1, as1, k1, k2, k3, k4, k5⟩ := R2.ow j hj
  rw [h2] at k2; cases k2
  have := gv_some ed0
  rw [k1] at this; cases this
  obtain ⟨g3, R3⟩ := R2.mut hj h2 k4 (vs' := vs1.set k y) (by rw [List.length_set]; exact R2.sz p _ k4) (k5.set (ry.mono g2.s) k)
  exact ⟨p, vs1, n, k, rfl, rw'.int_inv, k4, by rw [k5.length]; exact ek, q σ S2 _ (stp_e ((g1.trans g2).trans g3)) R3⟩
/-- xs.pop() as a value -/
def gPop (j : Nat) : En → Option (D × En) := fun env => ((gv j env).bind asL).bind fun ds => (ds[ds.length - 1]?).map fun d => (d, setE j (.list ds.dropLast) env)
theorem RpAll.dropLast {H : Hp} : ∀ {vs : List V} {ds : List D}, RpAll K H vs ds → RpAll K H vs.dropLast ds.dropLast := fun {vs ds} h => by
  rw [List.dropLast_eq_take, List.dropLast_eq_take, h.length]
  exact h.take _
theorem sem_pop {j : Nat} (hj : j ∈ m) : Sem K m (tBM0 K "list" rPop (tVar j)) (gPop j) := fun env σ S H R d env' e Q q => by
  obtain ⟨ds, eds, e⟩ := bind_some e
  obtain ⟨d0, ed0, eds⟩ := bind_some eds
  cases asL_some eds
  obtain ⟨z, ez, e⟩ := map_some e
  cases e
  obtain ⟨p, vs, as, h1, h2, h3, h4, h5⟩ := R.ow j hj
  have := gv_some ed0
  rw [h1] at this; cases this
  obtain ⟨y, hy, ry⟩ := h5.get' ez
  obtain ⟨g1, R1⟩ := R.mut hj h2 h4 (vs' := vs.dropLast) (by have := R.sz p _ h4; have h6 : vs.length ≤ sizeLine := this; rw [List.length_dropLast]; omega) h5.dropLast
  exact ⟨.ref p, h2, .inl ⟨rfl, _, .inl (.inl h4)⟩, p, vs, y, rfl, rfl, h4, by rw [h5.length]; exact hy, q y S _ g1 R1 ry⟩
/-- xs.remove(k), ints -/
def asInts : List D → Option (List Int)
  | [] => some []
  | .int i :: r => (asInts r).map fun s => i :: s
  | _ => none
theorem asInts_some : ∀ {ds : List D} {ns : List Int}, asInts ds = some ns → ds = ns.map PyData.int
  | [], ns, h => by cases h; rfl
  | .int i :: r, ns, h => by
    obtain ⟨s, hs, rfl⟩ := map_some h
    rw [asInts_some hs]; rfl
  | .none :: _, _, h => by cases h
  | .bool _ :: _, _, h => by cases h
  | .str _ :: _, _, h => by cases h
  | .list _ :: _, _, h => by cases h
  | .tuple _ :: _, _, h => by cases h
  | .dict _ :: _, _, h => by cases h
theorem asInts_map : ∀ ns : List Int, asInts (ns.map PyData.int) = some ns
  | [] => rfl
  | n :: ns => by simp [asInts, asInts_map ns]
def gRemove : List D → D → Option (List D) := fun ds d => (asInts ds).bind fun ns => (asI d).bind fun k => if k ∈ ns then some ((ns.erase k).map .int) else none
theorem gRemove_some {ds ds' : List D} {d : D} (h : gRemove ds d = some ds') : ∃ (ns : List Int) (k : Int), ds = ns.map PyData.int ∧ d = .int k ∧ k ∈ ns ∧ ds' = (ns.erase k).map PyData.int := by
  unfold gRemove at h
  obtain ⟨ns, en, h⟩ := bind_some h
  obtain ⟨k, ek, h⟩ := bind_some h
  refine ⟨ns, k, asInts_some en, asI_some ek, ?_⟩
  split at h
  · cases h
    exact ⟨by assumption, rfl⟩
  · cases h
theorem semS_remove {j : Nat} {W : WX} {Fe : En → Option (D × En)} (h : Sem K m te Fe) (hj : j ∈ m) : SemS K fr pn m ml m (tDrop (tRemX K W (tVar j) te)) (sMut j gRemove Fe) := fun env σ S H R o e E q => by
  obtain ⟨⟨d, e1⟩, ed, e⟩ := bind_some e
  obtain ⟨ds, eds, e⟩ := bind_some e
  obtain ⟨d0, ed0, eds⟩ := bind_some eds
  cases asL_some eds
  obtain ⟨ds', eg, rfl⟩ := map_some e
  obtain ⟨ns, k, hds, hd, hk, rfl⟩ := gRemove_some eg
  subst hds
  dsimp only at hd
  subst hd
  obtain ⟨p, vs, as, h1, h2, h3, h4, h5⟩ := R.ow j hj
  refine ⟨.ref p, h2, .inl ⟨rfl, _, .inl (.inl h4)⟩, h env σ S H R _ e1 ed _ fun y S1 H1 g1 R1 ry => ?_⟩
  obtain ⟨p1, vs1, as1, k1, k2, k3, k4, k5⟩ := R1.ow j hj
  rw [h2] at k2; cases k2
  have := gv_some ed0
  rw [k1] at this; cases this
  have hv := k5.ints_inv
  subst hv
  obtain ⟨g2, R2⟩ := R1.mut hj h2 k4 (vs' := (ns.erase k).map V.int) (by
    have h6 : (ns.map V.int).length ≤ sizeLine := R1.sz p _ k4
    have := List.length_erase_le (a := k) (l := ns)
    rw [List.length_map] at h6 ⊢
    omega) (RpAll.ints _)
  exact ⟨p, ns, k, rfl, ry.int_inv, k4, fun _ => q σ S1 _ (stp_e (g1.trans g2)) R2, fun z => absurd hk z⟩
/-- an expression that reads an owned list, its value flat -/
def fFlat (F : En → Option D) : En → Option D := fun env => (F env).bind fun d => if flat d = true then some d else none
theorem semP_flat {j : Nat} {m2 : List Nat} {F : En → Option D} (h : SemP K m2 te F) (hj : j ∈ m) (hm : m2 = m.filter (· ≠ j)) : SemP K m te (fFlat F) := fun env σ S H R d e Q q => by
  subst hm
  obtain ⟨d1, ed, e⟩ := bind_some e
  split at e
  · rename_i hf
    cases e
    obtain ⟨S2, g2, hs2, R2⟩ := R.share hj
    obtain ⟨p, vs, as, h1, h2, h3, h4, h5⟩ := R.ow j hj
    refine h env σ S2 H R2 d ed Q fun v S3 H3 k3 r3 => ?_
    -- take the owned list out again
    refine q v (fun a => if a = p then none else S3 a) H3 ⟨fun a o e => ?_, k3.h, fun a ha => ?_, fun a o e => ?_, k3.z⟩ (r3.flat hf)
    · have : a ≠ p := fun c => by subst c; rw [h3] at e; cases e
      show (if a = p then none else S3 a) = some o
      rw [if_neg this]
      exact k3.s a o (g2.s a o e)
    · show (if a = p then none else S3 a) = S a
      by_cases c : a = p
      · subst c; rw [if_pos rfl, h3]
      · rw [if_neg c, k3.n a ha]
        by_cases cc : S2 a = S a
        · exact cc
        · have := hs2 a cc
          rw [h2] at this
          injection this with this
          injection this with this
          exact absurd (by injection this with this; exact this.symm) c
    · by_cases c : a = p
      · subst c
        have e' : (if a = a then none else S3 a) = some o := e
        rw [if_pos rfl] at e'; cases e'
      · have e' : (if a = p then none else S3 a) = some o := e
        rw [if_neg c] at e'
        exact k3.x a o e'
  · cases e
/-- xs[i] of an owned list -/
def dAt (ds : List D) (i : Int) : Option D := atI ds i
theorem RpAll.atI {H : Hp} {vs : List V} {ds : List D} {i : Int} {d : D} (h : RpAll K H vs ds) (e : L2.atI ds i = some d) : ∃ v, L2.atI vs i = some v ∧ Rp K H v d := by
  unfold L2.atI at e ⊢
  obtain ⟨k, hk, e⟩ := bind_some e
  obtain ⟨v, h1, h2⟩ := h.get' e
  exact ⟨v, by rw [h.length, hk]; exact h1, h2⟩
def fIxO (j : Nat) (Fi : En → Option (D × En)) : En → Option (D × En) := fun env => (Fi env).bind fun r => ((gv j r.2).bind asL).bind fun ds => (asI r.1).bind fun i => (dAt ds i).map fun d => (d, r.2)
theorem sem_ixO {j : Nat} {ti : TE} {Fi : En → Option (D × En)} (hi : Sem K m ti Fi) (hj : j ∈ m) : Sem K m (tOp (rIxL K) (tVar j) ti) (fIxO j Fi) := fun env σ S H R d env' e Q q => by
  obtain ⟨⟨i, e1⟩, ei, e⟩ := bind_some e
  obtain ⟨ds, eds, e⟩ := bind_some e
  obtain ⟨d0, ed0, eds⟩ := bind_some eds
  cases asL_some eds
  obtain ⟨n, en, e⟩ := bind_some e
  cases asI_some en
  obtain ⟨z, ez, e⟩ := map_some e
  cases e
  obtain ⟨p, vs, as, h1, h2, h3, h4, h5⟩ := R.ow j hj
  refine ⟨.ref p, h2, hi env σ S H R _ e1 ei _ fun w S1 H1 g1 R1 r1 => ?_⟩
  obtain ⟨p1, vs1, as1, k1, k2, k3, k4, k5⟩ := R1.ow j hj
  rw [h2] at k2; cases k2
  have := gv_some ed0
  rw [k1] at this; cases this
  obtain ⟨v, hv, rv⟩ := k5.atI ez
  exact ⟨p, vs1, n, v, rfl, r1.int_inv, SqL.of k4, hv, q v S1 H1 g1 R1 rv⟩
/-- an owned list is walked by a comprehension that changes nothing -/
theorem semP_lcO {g : TG} {tt : TT} {vs ts : List Nat} {j : Nat} {m2 : List Nat} {Gt : D → En → Option En} {Ft : En → Option Bool} {Fe : En → Option D} {te : TE}
    (hg : SemG K m ts g Gt) (ht : SemPT K m tt Ft) (he : SemP K m te Fe) (hv : ∀ i, i ∈ m → i ∉ vs) (hts : ∀ i, i ∈ ts → i ∈ vs) (hj : j ∈ m) : SemP K m (tLc (iList K (tVar j)) g tt te vs) (lcF vs (fun env => (gv j env).bind asL) Gt Ft Fe) := fun env σ S H R d e Q q => by
  obtain ⟨ds, eds, e⟩ := bind_some e
  obtain ⟨res, hres, rfl⟩ := map_some e
  obtain ⟨d0, ed0, eds⟩ := bind_some eds
  cases asL_some eds
  obtain ⟨p, xs, as, h1, h2, h3, h4, h5⟩ := R.ow j hj
  have := gv_some ed0
  rw [h1] at this; cases this
  refine ⟨.ref p, h2, p, rfl, ⟨xs, SqL.of h4⟩, fun Dl hD => ?_⟩
  have hS : S Dl = none := ex_free R.ex hD
  have hsz : xs.length ≤ sizeLine := R.sz p _ h4
  have k1 : Gz S H S H := Gz.refl R.ex R.sz
  refine lc_it (walk_list (K := K) (a := p) (xs := xs)) (fun i H' => ∃ S' acc as, Gz S H S' H' ∧ S' Dl = none ∧ H' Dl = some (.lst acc) ∧ RpAll K S' acc as ∧ compD (fun d => (Gt d (wipeE env vs)).bind fun e => (Ft e).bind fun b => if b = true then (Fe e).map some else some none) (ds.take i) = some as)
    ⟨S, [], [], ⟨Ex.refl _, Ex.new hD, fun _ _ => rfl, fun a o e => by
      rw [upd_ne (ne_of_none e hS)]
      exact k1.x a o e, k1.z.upd (by show 0 ≤ sizeLine; omega)⟩, hS, upd_same, .nil, rfl⟩ (fun i H' _ pp => ?_) (fun i x H2 H3 hlt pp y => ?_) (fun H' pp => ?_)
  · obtain ⟨S', acc, as, g1, _⟩ := pp
    exact SqL.of (g1.h _ _ h4)
  · obtain ⟨S2, acc, as, g1, h22, h33, h44, h55⟩ := pp
    obtain ⟨rfl, hx'⟩ := y
    obtain ⟨dd, hx, rx⟩ := h5.get hx'
    obtain ⟨a', y', c1, c2, c3⟩ := compD_take hres hx
    rw [h55] at c1; cases c1
    obtain ⟨e2, ge, c2⟩ := bind_some c2
    obtain ⟨b, tb, c2⟩ := bind_some c2
    have R3 := ((R.gz k1).gz g1).wipe hv
    refine hg _ _ S2 H3 R3 x _ e2 (rx.mono g1.s) ge _ fun σ2 hl2 hf2 _ R2 => ⟨?_, ?_⟩
    · rw [wipe_eq (σ := wipe σ vs) hl2 fun i hi => hf2 i fun z => hi (hts i z)]
      exact wipe_eq (wipe_length _ _) fun i hi => wipe_out hi
    · refine ht e2 σ2 S2 H3 R2 b tb _ fun S4 H4 k4 => ?_
      have g4 := g1.trans k4
      have hD4 : H4 Dl = some (.lst acc) := k4.h _ _ h33
      have hS4 : S4 Dl = none := by
        rw [k4.n Dl (by rw [h33]; simp)]
        exact h22
      cases b with
      | false =>
        simp at c2
        subst c2
        exact ⟨S4, acc, as, g4, hS4, hD4, h44.mono k4.s, by simpa using c3⟩
      | true =>
        simp only [if_true] at c2 ⊢
        obtain ⟨z, ez, rfl⟩ := map_some c2
        refine he e2 σ2 S4 H4 (R2.gz k4) z ez _ fun w S5 H5 k5 r5 => ?_
        have g5 := g4.trans k5
        have hD5 : H5 Dl = some (.lst acc) := k5.h _ _ hD4
        have hS5 : S5 Dl = none := by rw [k5.n Dl (by rw [hD4]; simp)]; exact hS4
        have hlen : acc.length < sizeLine := by
          have h6 := compD_len h55
          rw [List.length_take] at h6
          rw [h44.length]
          omega
        refine ⟨acc, hD5, hlen, S5, acc ++ [w], as ++ [z], ⟨g5.s, fun a o e => ?_, g5.n, fun a o e => ?_, g5.z.upd (by show (acc ++ [w]).length ≤ sizeLine; simp; omega)⟩, hS5, upd_same, ((h44.mono (k4.s.trans k5.s)).append (.cons r5 .nil)), by simpa using c3⟩
        · rw [upd_ne (ne_of_none e hD)]
          exact g5.h a o e
        · rw [upd_ne (ne_of_none e hS5)]
          exact g5.x a o e
  · obtain ⟨S2, acc, as, g1, h22, h33, h44, h55⟩ := pp
    have : xs.length = ds.length := h5.length
    rw [this, List.take_length, hres] at h55
    cases h55
    refine q (.ref Dl) (upd S2 Dl (.lst acc)) H' (k1.trans ⟨g1.s.trans (Ex.new h22), g1.h, fun a ha => ?_, fun a o e => ?_, g1.z⟩) (.lst upd_same (h44.mono (Ex.new h22)))
    · have : a ≠ Dl := fun e => ha (e ▸ hD)
      rw [upd_ne this]
      exact g1.n a ha
    · by_cases c : a = Dl
      · subst c; rw [upd_same] at e; cases e; exact h33
      · rw [upd_ne c] at e; exact g1.x a o e
end
/-! ### promises -/
/-- hands back the data g tells -/
def spP (K : PySem.W.Frag) (g : List D → Option D) : Sp := fun vs H Q _ => ∃ S ds r, Ex S H ∧ SzH H ∧ RpAll K S vs ds ∧ g ds = some r ∧ ∀ v S' H', Gz S H S' H' → Rp K S' v r → Q v H'
/-- .. a list of its own -/
def spF (K : PySem.W.Frag) (g : List D → Option D) : Sp := fun vs H Q _ => ∃ S ds r, Ex S H ∧ SzH H ∧ RpAll K S vs ds ∧ g ds = some r ∧
  ∀ p xs es S' H', r = .list es → Gz S H S' H' → H p = none → S' p = none → H' p = some (.lst xs) → RpAll K S' xs es → Q (.ref p) H'
/-- changes the list of its first parameter -/
def spM (K : PySem.W.Frag) (g : List D → List D → Option (D × List D)) : Sp := fun vs H Q _ => ∃ S p xs ds ws as r ds', vs = .ref p :: ws ∧ Ex S H ∧ SzH H ∧ S p = none ∧ H p = some (.lst xs) ∧ RpAll K S xs ds ∧ RpAll K S ws as ∧ g ds as = some (r, ds') ∧
  ∀ v S' H' xs', Gm (· = p) S H S' H' → Ex S' H' → SzH H' → S' p = none → H' p = some (.lst xs') → RpAll K S' xs' ds' → Rp K S' v r → Q v H'
section
variable {K : PySem.W.Frag} {fr : Bool} {pn m m1 m' ml : List Nat} {ta : TA}
theorem semP_callP {g : List D → Option D} {Fa : En → Option (List D)} {E : XK} (ha : SemPA K m ta Fa) : SemP K m (tCall (spP K g) [] E ta) (fCall g Fa) := fun env σ S H R d e Q q => by
  obtain ⟨as, ea, e⟩ := bind_some e
  refine ha env σ S H R as ea _ fun vs S1 H1 k1 r1 => ?_
  rw [List.append_nil]
  exact ⟨S1, as, d, k1.x, k1.z, r1, e, fun v S2 H2 k2 r2 => q v S2 H2 (k1.trans k2) r2⟩
theorem sem_callP {g : List D → Option D} {Ga : En → Option (List D × En)} {E : XK} (ha : SemA K m ta Ga) : Sem K m (tCall (spP K g) [] E ta) (gCall g Ga) := fun env σ S H R d env' e Q q => by
  obtain ⟨⟨as, e1⟩, ea, e⟩ := bind_some e
  obtain ⟨z, ez, e⟩ := map_some e
  cases e
  refine ha env σ S H R as _ ea _ fun vs S1 H1 k1 R1 r1 => ?_
  rw [List.append_nil]
  exact ⟨S1, as, d, R1.ex, R1.sz, r1, ez, fun v S2 H2 k2 r2 => q v S2 H2 (k1.trans k2.gm) (R1.gz k2) r2⟩
theorem semF_callF {g : List D → Option D} {Ga : En → Option (List D × En)} {E : XK} (ha : SemA K m ta Ga) : SemF K m (tCall (spF K g) [] E ta) (gCall g Ga) := fun env σ S H R d env' e Q q => by
  obtain ⟨⟨as, e1⟩, ea, e⟩ := bind_some e
  obtain ⟨z, ez, e⟩ := map_some e
  cases e
  refine ha env σ S H R as _ ea _ fun vs S1 H1 k1 R1 r1 => ?_
  rw [List.append_nil]
  refine ⟨S1, as, d, R1.ex, R1.sz, r1, ez, fun p xs es S2 H2 hd k2 h1 h2 h3 h4 => q p xs es S2 H2 hd (k1.trans k2.gm) (R1.gz k2) ?_ h2 h3 h4⟩
  cases c : H p with
  | none => rfl
  | some u => exact absurd h1 (k1.d p (by rw [c]; simp))
theorem semP_callF {g : List D → Option D} {Fa : En → Option (List D)} {E : XK} (ha : SemPA K m ta Fa) : SemP K m (tCall (spF K g) [] E ta) (fCall g Fa) := fun env σ S H R d e Q q => by
  obtain ⟨as, ea, e⟩ := bind_some e
  refine ha env σ S H R as ea _ fun vs S1 H1 k1 r1 => ?_
  rw [List.append_nil]
  refine ⟨S1, as, d, k1.x, k1.z, r1, e, fun p xs es S2 H2 hd k2 h1 h2 h3 h4 => ?_⟩
  subst hd
  have k3 : Gz S1 H1 (upd S2 p (.lst xs)) H2 := ⟨k2.s.trans (Ex.new h2), k2.h, fun a ha => by
    have : a ≠ p := fun c => ha (c ▸ h1)
    rw [upd_ne this]; exact k2.n a ha, fun a o e => by
    by_cases c : a = p
    · subst c; rw [upd_same] at e; cases e; exact h3
    · rw [upd_ne c] at e; exact k2.x a o e, k2.z⟩
  exact q _ _ H2 (k1.trans k3) (.lst upd_same (h4.mono (Ex.new h2)))
/-- f(x, ..), x an owned list that f changes -/
def gCallM (j : Nat) (g : List D → List D → Option (D × List D)) (Ga : En → Option (List D × En)) : En → Option (D × En) := fun env => (Ga env).bind fun a => ((gv j a.2).bind asL).bind fun ds => (g ds a.1).map fun r => (r.1, setE j (.list r.2) a.2)
theorem sem_callM {j : Nat} {g : List D → List D → Option (D × List D)} {Ga : En → Option (List D × En)} {E : XK} (ha : SemA K m ta Ga) (hj : j ∈ m) : Sem K m (tCall (spM K g) [] E (tCons (tVar j) ta)) (gCallM j g Ga) := fun env σ S H R d env' e Q q => by
  obtain ⟨⟨as, e1⟩, ea, e⟩ := bind_some e
  obtain ⟨ds, eds, e⟩ := bind_some e
  obtain ⟨d0, ed0, eds⟩ := bind_some eds
  cases asL_some eds
  obtain ⟨⟨z, ds'⟩, ez, e⟩ := map_some e
  cases e
  obtain ⟨p, vs, as0, h1, h2, h3, h4, h5⟩ := R.ow j hj
  refine ⟨.ref p, h2, ha env σ S H R as e1 ea _ fun ws S1 H1 k1 R1 r1 => ?_⟩
  show spM K g ((V.ref p :: ws) ++ []) H1 Q E
  rw [List.append_nil]
  obtain ⟨p1, vs1, as1, q1, q2, q3, q4, q5⟩ := R1.ow j hj
  rw [h2] at q2; cases q2
  have := gv_some ed0
  rw [q1] at this; cases this
  refine ⟨S1, p, vs1, ds, ws, as, _, ds', rfl, R1.ex, R1.sz, q3, q4, q5, r1, ez, fun v S2 H2 xs' g2 x2 z2 hS2 hH2 r2 rv => ?_⟩
  have own_p : ∀ a, a = p → Own m σ a := fun a e => ⟨j, hj, e ▸ h2⟩
  refine q v S2 H2 (k1.trans (g2.mono own_p)) ?_ rv
  refine ⟨x2, z2, by rw [setE, List.length_set, R1.len], fun i d hi e => ?_, fun i hi => ?_, R1.inj⟩
  · rw [setE, List.getElem?_set_ne (ne_mem hj hi).symm] at e
    obtain ⟨w, w1, w2⟩ := R1.sh i d hi e
    exact ⟨w, w1, w2.mono g2.s⟩
  · by_cases c : i = j
    · subst c
      exact ⟨p, xs', ds', by rw [setE, List.getElem?_set_self (List.getElem?_eq_some_iff.mp q1).1], h2, hS2, hH2, r2⟩
    · obtain ⟨p', ws', es, w1, w2, w3, w4, w5⟩ := R1.ow i hi
      have hne : p' ≠ p := fun e => c (R1.inj i j p hi hj (e ▸ w2) h2)
      exact ⟨p', ws', es, by rw [setE, List.getElem?_set_ne (fun e => c e.symm)]; exact w1, w2, (g2.n p' hne (by rw [w4]; simp)).trans w3, g2.h p' _ w4 hne, w5.mono g2.s⟩
end
/-! ### a def's body -/
def env0 (N : List Str) (ds : List D) : En := ds.map some ++ List.replicate (N.length - ds.length) none
theorem map_some_get {α : Type} {l : List α} {i : Nat} {k : Nat} {x : α} (h : (l.map some ++ List.replicate k none)[i]? = some (some x)) : l[i]? = some x := by
  by_cases c : i < l.length
  · rw [List.getElem?_append_left (by simpa using c), List.getElem?_map] at h
    obtain ⟨y, h1, h2⟩ := map_some h
    cases h2
    exact h1
  · rw [List.getElem?_append_right (by simpa using c)] at h
    rw [List.getElem?_replicate] at h
    split at h <;> cases h
theorem map_some_of {α : Type} {l : List α} {i : Nat} {k : Nat} {x : α} (h : l[i]? = some x) : (l.map some ++ List.replicate k none)[i]? = some (some x) := by
  have c := (List.getElem?_eq_some_iff.mp h).1
  rw [List.getElem?_append_left (by simpa using c), List.getElem?_map, h]; rfl
section
variable {K : PySem.W.Frag} {N ps : List Str}
theorem rel_start {vs : List V} {ds : List D} {S H : Hp} (x : Ex S H) (z : SzH H) (r : RpAll K S vs ds) : Rel K [] (env0 N ds) (L2.start N vs) S H :=
  ⟨x, z, by simp [env0, L2.start, r.length], fun i d _ e => by
    obtain ⟨v, h1, h2⟩ := r.get' (map_some_get e)
    exact ⟨v, map_some_of h1, h2⟩, fun i hi => by simp at hi, fun i j p hi => by simp at hi⟩
theorem rel_startM {p : Addr} {xs ws : List V} {ds as : List D} {S H : Hp} (x : Ex S H) (z : SzH H) (h1 : S p = none) (h2 : H p = some (.lst xs)) (ra : RpAll K S xs ds) (r : RpAll K S ws as) : Rel K [0] (env0 N (.list ds :: as)) (L2.start N (.ref p :: ws)) S H :=
  ⟨x, z, by simp [env0, L2.start, r.length], fun i d hi e => by
    have h3 := map_some_get e
    cases i with
    | zero => simp at hi
    | succ i =>
      obtain ⟨v, h4, h5⟩ := r.get' (i := i) (by simpa using h3)
      exact ⟨v, map_some_of (by simpa using h4), h5⟩, fun i hi => by
    simp at hi
    subst hi
    exact ⟨p, xs, ds, map_some_of (by simp), map_some_of (by simp), h1, h2, ra⟩, fun i j q hi hj _ _ => by simp at hi hj; omega⟩
end
def resP : Out → Option D
  | .rt d _ => some d
  | .nx _ => some .none
  | _ => none
def resM : Out → Option (D × List D)
  | .rt d [.list ds] => some (d, ds)
  | .nx e => ((gv 0 e).bind asL).map fun ds => (.none, ds)
  | _ => none
end CS

/-! CsG: promises that may use that no repr runs. -/
namespace CS
open PySem PySem.Spec PyProof.Rows L2
open Evl (Ex ex_l ex_t)
/-- a def keeps its promise wherever no repr runs -/
structure FnG (P : Program) (w : World) (K : PySem.W.Frag) (mg : Str → Option Value) (base : Heap) (CX : CXT) (k : Nat) (f : Addr) (fd : FuncData) (ps : List Str) (sp : Sp) : Prop where
  len : ∀ vs H Q E, sp vs H Q E → vs.length = ps.length
  go : ∀ (A : Around), Room k A → A.guards = some [] → ∀ (outer : List PySem.Env) (s : Shared) (H : Hp), Env0 P w K mg base A outer s H →
    ∀ (args : Args) (us : List Value) (vs : List V), BindsTo s fd args (ps.zip us) → Vals vs us →
      ∀ (Q : VK) (E : XK), sp vs H Q E → codeAny (model P w) A (.call (.ref f) args) (CR CX outer P w H s Q E) s
theorem FnG.mono {P : Program} {w : World} {K : PySem.W.Frag} {mg : Str → Option Value} {base : Heap} {CX : CXT} {j k : Nat} {f : Addr} {fd : FuncData} {ps : List Str} {sp : Sp}
    (F : FnG P w K mg base CX j f fd ps sp) (h : j ≤ k) : FnG P w K mg base CX k f fd ps sp :=
  ⟨F.len, fun A hr => F.go A (hr.mono h)⟩
theorem FnG.imp {P : Program} {w : World} {K : PySem.W.Frag} {mg : Str → Option Value} {base : Heap} {CX : CXT} {k : Nat} {f : Addr} {fd : FuncData} {ps : List Str} {sp sp' : Sp}
    (F : FnG P w K mg base CX k f fd ps sp) (h : ∀ vs H Q E, sp' vs H Q E → sp vs H Q E) : FnG P w K mg base CX k f fd ps sp' :=
  ⟨fun vs H Q E q => F.len vs H Q E (h _ _ _ _ q), fun A hr g outer s H e0 args us vs hb hv Q E q => F.go A hr g outer s H e0 args us vs hb hv Q E (h _ _ _ _ q)⟩
section
variable {P : Program} {w : World} {K : PySem.W.Frag} {mg : Str → Option Value} {base : Heap} {CX : CXT} {N ps : List Str} {k : Nat} {f : Addr} {fd : FuncData} {sp : Sp}
theorem Fun.okG {x qual : Str} {st : Stmt} (Fu : Fun K x qual st f fd) (S : FnScope N ps (defScope st)) (hlen : ∀ vs H Q E, sp vs H Q E → vs.length = ps.length)
    (hbody : ∀ (cdv : Value) (A : Around) (outer : List PySem.Env) (s : Shared) (H : Hp) (vs : List V) (Q : VK) (E : XK),
      Room k (A.deeper (envOfC qual (defScope st) s.heap.objs.size f cdv)) → (A.deeper (envOfC qual (defScope st) s.heap.objs.size f cdv)).guards = some [] → sp vs H Q E →
      ∃ t, PSs (cxOf CX P w K mg base N qual (defScope st) f cdv A outer s H E) (defBody st) t ∧ t { nx := fun _ H' => Q .non H', rt := Q } (L2.start N vs) H) :
    FnG P w K mg base CX (k + 1) f fd ps sp := by
  obtain ⟨oc, od, kV, doc, pm, an, cdv, ct, osl, hfd, lk, hcd⟩ := Fu.ex
  subst hfd
  constructor
  · exact hlen
  intro A hr hg outer s H e0 args us vs hb hv Q E hsp
  have kept : ∀ b o, base.get? b = some o → s.heap.get? b = some o := fun b o e => (e0.bs b o e).1
  have kin := e0.mod.kin.keeps kept
  have nolim := e0.mod.nolimit.keeps kept
  refine codeAny_call_function hr.depth (kin _ _ lk) rfl S.co S.gen rfl (PySem.W.codeRec_of kin hcd) (hb _ _ _ _ ?_)
  have kinds : ∀ y ∈ ps.zip us, (defScope st).names.lookup y.1 = some .local ∨
      ((defScope st).names.lookup y.1 = some .cell ∧ ((cellsFrom (s.heap.objs.size + 1) (defScope st).names []).lookup y.1).isSome = true) := by
    intro y hy
    obtain ⟨n, v⟩ := y
    have hn : n ∈ ps := (List.of_mem_zip hy).1
    cases S.par n hn with
    | inl q => exact Or.inl q
    | inr q => exact Or.inr ⟨q, PySem.W.cellsFrom_some _ _ _ (Or.inl q)⟩
  refine wpAny_newFunctionEnv_cells S.kind kinds fun env he s1 hx => ?_
  subst he
  refine And.intro (nolim.keeps hx.toInCall.keep) (codeAny_func ?_)
  have hr' := hr.deeper (envOfC qual (defScope st) s.heap.objs.size f cdv)
  obtain ⟨t, ht, hq⟩ := hbody cdv A outer s H vs Q E hr' hg hsp
  have I0 := inv_start (E := E) (CX := CX) S hr.hd e0 (hlen _ _ _ _ hsp) hv hx
  have tail : ∀ {σ' : SL} {H' : Hp} {v : V} {u : Value} {s' : Shared}, Inv (cxOf CX P w K mg base N qual (defScope st) f cdv A outer s H E) [] σ' H' s' → RelV v u → Q v H' → CE outer P w H s Q u s' := by
    intro σ' H' v u s' J rv q
    exact ⟨v, H', J.os, J.bare, J.base, J.hok, rv, q⟩
  refine wpAny_mono (ht.run [] s1 (L2.start N vs) H _ I0 hq) ?_ (fun _ _ z => z)
  intro fl s' hs
  match fl, hs with
  | .ret u, ⟨v, σ', H', J, rv, q⟩ => exact tail J rv q
  | .next, ⟨σ', H', J, q⟩ => exact tail (v := .non) (u := .none) J rfl q
  | .brk, ⟨_, _, _, q⟩ => exact q.elim
  | .cont, ⟨_, _, _, q⟩ => exact q.elim
end
/-! calls -/
section
variable {X : Cx} {CX : CXT} {k : Nat} {f : Addr} {fd : FuncData} {ps ks : List Str} {sp : Sp} {E : XK} {x : Str} {p pos : Pos} {e : Expr} {es : List Expr} {kws : List Keyword} {t tk : TA}
theorem callG_end {pins : List (Addr × Obj)} {σ : SL} {H : Hp} {s : Shared} {Q : VK} {args : Args} {us : List Value} {vs : List V} (F : FnG X.prog X.w X.K X.mg X.base CX k f fd ps sp) (hr : Room k X.A) (hg : X.A.guards = some [])
    (hx : Passes CX X E) (I : Inv X pins σ H s) (hb : BindsTo s fd args (ps.zip us)) (r : Vals vs us) (h : sp vs H Q E) : wpAny (model X.prog X.w) X.A (call (.ref f) args.pos args.kw) (EP X pins σ Q) X.xe s := by
  refine wpAny_call (codeAny_mono (F.go X.A hr hg X.stack s H I.env0 args us vs hb r Q E h) ?_)
  intro res s' hq
  match res, hq with
  | .error e, hq => exact hx pins σ H s e s' I hq
  | .ok (.ret u), hq => exact I.after hq
  | .ok .next, hq => exact (show False from hq).elim
  | .ok .brk, hq => exact (show False from hq).elim
  | .ok .cont, hq => exact (show False from hq).elim
theorem pe_callG (F : FnG X.prog X.w X.K X.mg X.base CX k f fd ps sp) (hr : Room k X.A) (hgd : X.A.guards = some []) (hg : Gl X x) (hm : X.mg x = some (.ref f)) (hk : PySem.W.keepIn X.K (.ref f) = true) (hb : Binds X.K fd ps []) (hx : Passes CX X E)
    (ha : PA X (e :: es) t) (hdb : (x == ("__debug__" : Str)) = false) (he : starEach (e :: es) X.env = (false, eval e X.env) :: starEach es X.env) (hpl : (backTo pos (starEach es X.env)).any (·.1) = false) :
    PE X (.Call (.Name x p) (e :: es) [] pos) (tCall sp [] E t) := by
  constructor
  intro pins s σ H Q I h
  refine wpAny_Call_Name_kw (ld_glob I hg hm (PySem.W.callWith_K (h₀ := X.base) I.ok.mod.kin hk (thn (ha.run pos pins s σ H _ I h) ?_) he hpl) hdb)
  intro us s1 ⟨vs, H1, I1, r, q0⟩
  have q : sp (vs ++ []) H1 Q E := q0
  rw [List.append_nil] at q
  refine ⟨I1.kIn, ?_⟩
  have hl : us.length = ps.length := r.length.symm.trans (F.len _ _ _ _ q)
  have hb' := hb s1 us I1.kIn (by rw [List.append_nil]; exact hl)
  rw [List.append_nil] at hb'
  exact callG_end (args := ⟨us, []⟩) F hr hgd hx I1 hb' r q
/-- f(), no arguments -/
theorem pe_callG0 (F : FnG X.prog X.w X.K X.mg X.base CX k f fd ps sp) (hr : Room k X.A) (hgd : X.A.guards = some []) (hg : Gl X x) (hm : X.mg x = some (.ref f)) (hk : PySem.W.keepIn X.K (.ref f) = true) (hb : Binds X.K fd ps []) (hx : Passes CX X E)
    (hdb : (x == ("__debug__" : Str)) = false) : PE X (.Call (.Name x p) [] [] pos) (tCall sp [] E tNil) := by
  constructor
  intro pins s σ H Q I h
  refine wpAny_Call_Name_kw (ld_glob I hg hm ?_ hdb)
  have q : sp ([] ++ []) H Q E := h
  rw [List.append_nil] at q
  have hl : ([] : List Value).length = ps.length := F.len _ _ _ _ q
  have hb' := hb s [] I.kIn (by rw [List.append_nil]; exact hl)
  rw [List.append_nil] at hb'
  exact PySem.W.callWith_K0 I.kIn hk (callG_end (args := ⟨[], []⟩) F hr hgd hx I hb' .nil q)
/-- how n positional values and the keywords' values come to the parameters -/
def KB (K : PySem.W.Frag) (fd : FuncData) (ps : List Str) (n : Nat) (ks : List Str) (pm : List Nat) : Prop := ∀ (s : Shared) (us ws : List Value), K.In s.heap → us.length = n → ws.length = ks.length →
  BindsTo s fd ⟨us, ks.zip ws⟩ (ps.zip (pm.filterMap fun i => (us ++ ws)[i]?))
def pick (pm : List Nat) {α : Type} (l : List α) : List α := pm.filterMap fun i => l[i]?
theorem Vals.pick {vs : List V} {us : List Value} (r : Vals vs us) : ∀ pm : List Nat, Vals (pick pm vs) (pick pm us)
  | [] => .nil
  | i :: pm => by
    unfold CS.pick
    cases h : vs[i]? with
    | none =>
      rw [List.filterMap_cons, List.filterMap_cons, h, r.none_of h]
      exact Vals.pick r pm
    | some v =>
      obtain ⟨u, hu, ru⟩ := r.get h
      rw [List.filterMap_cons, List.filterMap_cons, h, hu]
      exact .cons ru (Vals.pick r pm)
def tCallKG (n m : Nat) (sp : Sp) (pm : List Nat) (E : XK) (t tk : TA) : TE := fun σ H Q => t σ H fun vs H1 => tk σ H1 fun zs H2 => vs.length = n ∧ zs.length = m ∧ sp (pick pm (vs ++ zs)) H2 Q E
theorem pe_callKG {n : Nat} {pm : List Nat} (F : FnG X.prog X.w X.K X.mg X.base CX k f fd ps sp) (hr : Room k X.A) (hgd : X.A.guards = some []) (hg : Gl X x) (hm : X.mg x = some (.ref f)) (hk : PySem.W.keepIn X.K (.ref f) = true) (hb : KB X.K fd ps n ks pm) (hx : Passes CX X E)
    (ha : PA X (e :: es) t) (hkw : PK X kws tk) (hall : (backToKw pos (keywordEach kws X.env)).all (·.1.isSome) = true) (hks : (backToKw pos (keywordEach kws X.env)).filterMap (·.1) = ks)
    (hdb : (x == ("__debug__" : Str)) = false) (he : starEach (e :: es) X.env = (false, eval e X.env) :: starEach es X.env)
    (hpl : ((backTo pos (starEach (e :: es) X.env)).any (·.1) || (backToKw pos (keywordEach kws X.env)).any (·.1.isNone)) = false) :
    PE X (.Call (.Name x p) (e :: es) kws pos) (tCallKG n ks.length sp pm E t tk) := by
  constructor
  intro pins s σ H Q I h
  refine wpAny_Call_Name_kw (ld_glob I hg hm (PySem.W.callWith_KW (h₀ := X.base) I.ok.mod.kin hk hall (thn (ha.run pos pins s σ H _ I h) ?_) hpl he) hdb)
  intro us s1 ⟨vs, H1, I1, r, q⟩
  refine thn (hkw.run pos pins s1 σ H1 _ I1 q) ?_
  intro ws s2 ⟨zs, H2, I2, rz, l1, l2, q2⟩
  refine ⟨I2.kIn, ?_⟩
  rw [hks]
  exact callG_end (args := ⟨us, ks.zip ws⟩) F hr hgd hx I2 (hb s2 us ws I2.kIn (r.length.symm.trans l1) (rz.length.symm.trans l2)) (CS.Vals.pick (r.append rz) pm) q2
theorem pe_callKG0 {pm : List Nat} (F : FnG X.prog X.w X.K X.mg X.base CX k f fd ps sp) (hr : Room k X.A) (hgd : X.A.guards = some []) (hg : Gl X x) (hm : X.mg x = some (.ref f)) (hk : PySem.W.keepIn X.K (.ref f) = true) (hb : KB X.K fd ps 0 ks pm) (hx : Passes CX X E)
    (hkw : PK X kws tk) (hall : (backToKw pos (keywordEach kws X.env)).all (·.1.isSome) = true) (hks : (backToKw pos (keywordEach kws X.env)).filterMap (·.1) = ks)
    (hdb : (x == ("__debug__" : Str)) = false) (hpl : ((backTo pos (starEach [] X.env)).any (·.1) || (backToKw pos (keywordEach kws X.env)).any (·.1.isNone)) = false) :
    PE X (.Call (.Name x p) [] kws pos) (tCallKG 0 ks.length sp pm E tNil tk) := by
  constructor
  intro pins s σ H Q I h
  refine wpAny_Call_Name_kw (ld_glob I hg hm (PySem.W.callWith_KW0 (h₀ := X.base) I.ok.mod.kin hk hall (thn (hkw.run pos pins s σ H _ I h) ?_) hpl) hdb)
  intro ws s2 ⟨zs, H2, I2, rz, l1, l2, q2⟩
  refine ⟨I2.kIn, ?_⟩
  rw [hks]
  have hb' := hb s2 [] ws I2.kIn rfl (rz.length.symm.trans l2)
  exact callG_end (args := ⟨[], ks.zip ws⟩) F hr hgd hx I2 hb' (CS.Vals.pick (L2.Vals.append .nil rz) pm) q2
end
section
variable {P : Program} {w : World} {K : PySem.W.Frag} {mg : Str → Option Value} {base : Heap}
abbrev BIx (k : Nat) (qual : Str) (sc : Scope) (f : Addr) : Type := { q : Value × Around × List PySem.Env × Shared × Hp × XK // Room k (q.2.1.deeper (envOfC qual sc q.2.2.2.1.heap.objs.size f q.1)) ∧ (q.2.1.deeper (envOfC qual sc q.2.2.2.1.heap.objs.size f q.1)).guards = some [] }
abbrev bodyX (P : Program) (w : World) (K : PySem.W.Frag) (mg : Str → Option Value) (base : Heap) (N : List Str) (qual : Str) (sc : Scope) (f : Addr) (k : Nat) : BIx k qual sc f → Cx := fun i =>
  (cxOf CX0 P w K mg base N qual sc f i.1.1 i.1.2.1 i.1.2.2.1 i.1.2.2.2.1 i.1.2.2.2.2.1 i.1.2.2.2.2.2).nox
def DSs {ι : Type} (X : ι → Cx) (K : PySem.W.Frag) (fr : Bool) (pn m ml m' : List Nat) (st : List Stmt) (F : En → Option Out) : Prop := ∃ t : TS, (∀ i, PSs (X i) st t) ∧ SemS K fr pn m ml m' t F
theorem fnP {x qual : Str} {st : Stmt} {f : Addr} {fd : FuncData} {N ps : List Str} {k : Nat} {ml m' : List Nat} {g : List D → Option D} {F : En → Option Out} (Fu : Fun K x qual st f fd) (S : FnScope N ps (defScope st))
    (B : DSs (bodyX P w K mg base N qual (defScope st) f k) K false [] [] ml m' (defBody st) F) (hg : ∀ ds r, g ds = some r → ds.length = ps.length ∧ ∃ o, F (env0 N ds) = some o ∧ resP o = some r) : FnG P w K mg base CX0 (k + 1) f fd ps (spP K g) := by
  obtain ⟨t, hps, hsem⟩ := B
  refine Fun.okG Fu S (fun vs H Q E h => ?_) (fun cdv A outer s H vs Q E hr hgd h => ⟨t, (hps ⟨⟨cdv, A, outer, s, H, E⟩, hr, hgd⟩).nox, ?_⟩)
  · obtain ⟨S1, ds, r, _, _, ra, hgr, _⟩ := h
    rw [ra.length]; exact (hg ds r hgr).1
  · obtain ⟨S1, ds, r, x, z, ra, hgr, q⟩ := h
    obtain ⟨_, o, ho, hres⟩ := hg ds r hgr
    refine hsem (env0 N ds) (L2.start N vs) S1 H (rel_start x z ra) o ho _ ?_
    have noO : ∀ a, ¬ Own [] (L2.start N vs) a := fun a ⟨i, hi, _⟩ => by simp at hi
    have toGz : ∀ {S' H'}, Gm (Own [] (L2.start N vs)) S1 H S' H' → Ex S' H' → SzH H' → Gz S1 H S' H' := fun g xx zz => ⟨g.s, fun a o e => g.h a o e (noO a), fun a ha => g.n a (noO a) ha, xx, zz⟩
    cases o with
    | nx e =>
      cases hres
      intro σ' S' H' st' R'
      exact q .non S' H' (toGz st'.g R'.ex R'.sz) .non
    | rt d own =>
      cases hres
      intro v σ' S' H' g1 _ P' rv
      exact q v S' H' (toGz g1 P'.ex P'.sz) (by unfold RetV at rv; simpa using rv)
    | bk e => cases hres
    | ct e => cases hres
theorem fnF {x qual : Str} {st : Stmt} {f : Addr} {fd : FuncData} {N ps : List Str} {k : Nat} {ml m' : List Nat} {g : List D → Option D} {F : En → Option Out} (Fu : Fun K x qual st f fd) (S : FnScope N ps (defScope st))
    (B : DSs (bodyX P w K mg base N qual (defScope st) f k) K true [] [] ml m' (defBody st) F) (hg : ∀ ds r, g ds = some r → ds.length = ps.length ∧ ∃ own, F (env0 N ds) = some (.rt r own)) : FnG P w K mg base CX0 (k + 1) f fd ps (spF K g) := by
  obtain ⟨t, hps, hsem⟩ := B
  refine Fun.okG Fu S (fun vs H Q E h => ?_) (fun cdv A outer s H vs Q E hr hgd h => ⟨t, (hps ⟨⟨cdv, A, outer, s, H, E⟩, hr, hgd⟩).nox, ?_⟩)
  · obtain ⟨S1, ds, r, _, _, ra, hgr, _⟩ := h
    rw [ra.length]; exact (hg ds r hgr).1
  · obtain ⟨S1, ds, r, x, z, ra, hgr, q⟩ := h
    obtain ⟨_, own, ho⟩ := hg ds r hgr
    refine hsem (env0 N ds) (L2.start N vs) S1 H (rel_start x z ra) _ ho _ ?_
    have noO : ∀ a, ¬ Own [] (L2.start N vs) a := fun a ⟨i, hi, _⟩ => by simp at hi
    intro v σ' S' H' g1 _ P' rv
    unfold RetV at rv
    rw [if_pos rfl] at rv
    obtain ⟨p, xs, es, h1, h2, h3, h4, h5, h6, h7⟩ := rv
    subst h2
    exact q p xs es S' H' h1 ⟨g1.s, fun a o e => g1.h a o e (noO a), fun a ha => g1.n a (noO a) ha, P'.ex, P'.sz⟩ (h3.elim (fun z => absurd z (noO p)) id) h5 h6 h7
theorem fnM {x qual : Str} {st : Stmt} {f : Addr} {fd : FuncData} {N ps : List Str} {k : Nat} {ml m' : List Nat} {g : List D → List D → Option (D × List D)} {F : En → Option Out} (Fu : Fun K x qual st f fd) (S : FnScope N ps (defScope st))
    (B : DSs (bodyX P w K mg base N qual (defScope st) f k) K false [0] [0] ml m' (defBody st) F) (hm : 0 ∈ m') (hg : ∀ ds as r, g ds as = some r → as.length + 1 = ps.length ∧ ∃ o, F (env0 N (.list ds :: as)) = some o ∧ resM o = some r) : FnG P w K mg base CX0 (k + 1) f fd ps (spM K g) := by
  obtain ⟨t, hps, hsem⟩ := B
  refine Fun.okG Fu S (fun vs H Q E h => ?_) (fun cdv A outer s H vs Q E hr hgd h => ⟨t, (hps ⟨⟨cdv, A, outer, s, H, E⟩, hr, hgd⟩).nox, ?_⟩)
  · obtain ⟨S1, p, xs, ds, ws, as, r, ds', rfl, _, _, _, _, _, ra, hgr, _⟩ := h
    rw [List.length_cons, ra.length]; exact (hg ds as _ hgr).1
  · obtain ⟨S1, p, xs, ds, ws, as, r, ds', rfl, x, z, hS, hH, rx, ra, hgr, q⟩ := h
    obtain ⟨_, o, ho, hres⟩ := hg ds as _ hgr
    have R := rel_startM (N := N) x z hS hH rx ra
    have s0 : (L2.start N (.ref p :: ws))[0]? = some (some (.ref p)) := map_some_of (by simp)
    refine hsem _ (L2.start N (.ref p :: ws)) S1 H R o ho _ ?_
    have oO : ∀ a, Own [0] (L2.start N (.ref p :: ws)) a → a = p := fun a ⟨i, hi, e⟩ => by
      simp at hi
      subst hi
      rw [s0] at e
      cases e
      rfl
    cases o with
    | nx e =>
      intro σ' S' H' st' R'
      obtain ⟨es, he, hres⟩ := map_some hres
      cases hres
      obtain ⟨d0, ed0, he⟩ := bind_some he
      cases asL_some he
      obtain ⟨p', xs', es', k1, k2, k3, k4, k5⟩ := R'.ow 0 hm
      rw [st'.k 0 (by simp), s0] at k2
      cases k2
      have := gv_some ed0
      rw [k1] at this
      cases this
      exact q .non S' H' xs' (st'.g.mono oO) R'.ex R'.sz k3 k4 k5 .non
    | rt d own =>
      intro v σ' S' H' g1 hk P' rv
      have : ∃ es, own = [.list es] ∧ d = r ∧ es = ds' := by
        unfold resM at hres
        split at hres
        · rename_i e; cases e; cases hres; exact ⟨_, rfl, rfl, rfl⟩
        · rename_i e; cases e
        · cases hres
      obtain ⟨es, rfl, rfl, rfl⟩ := this
      obtain ⟨p', xs', es', k1, k2, k3, k4, k5⟩ := P'.ow 0 0 rfl
      rw [hk 0 (by simp), s0] at k2
      cases k2
      cases k1
      exact q v S' H' xs' (g1.mono oO) P'.ex P'.sz k3 k4 k5 (by unfold RetV at rv; simpa using rv)
    | bk e => cases hres
    | ct e => cases hres
end
/-! the end of a law -/
theorem law_callG {P : Program} {w : World} {K : PySem.W.Frag} {mg mb : Str → Option Value} {CX : CXT} {k : Nat} {fa a : Addr} {fd : FuncData} {x : Str} {sp : Sp} {s₁ : Shared} {vs : List Value} {ns : List Int}
    (KX : K.In s₁.heap) (hns : s₁.heap.Ns mainGlobals mg) (hbn : s₁.heap.Ns builtinsNs mb) (hbb : ∀ x : Str, x ≠ "__name__" → mb x = bootBuiltins x) (hlim : s₁.heap.NoLimit) (hgen : s₁.gens = #[])
    (ha : s₁.heap.get? a = some { cls := .type "list", data := .seq vs.toArray }) (hi : IntsAre vs ns) (hl : ns.length ≤ sizeLine) (hr : Room k callerA)
    (F : ∀ base : Heap, K.In base → base.Ns mainGlobals mg → FnG P w K mg base CX k fa fd [x] sp) (hbind : ∀ (s : Shared) (u : Value), BindsTo s fd ⟨[u], []⟩ [(x, u)])
    (hsp : ∀ H : Hp, SzH H → SqL K H a (ns.map V.int) → sp [.ref a] H (fun v _ => v = .bl true) fun _ _ _ => False) (hCX : ∀ H e s', CX [] H s₁ (fun _ _ _ => False) e s' → False) :
    codeAny (model P w) callerA (.call (.ref fa) ⟨[.ref a], []⟩) (fun r s' => r = .ok (.ret (.bool true)) ∧ OldK s₁.heap s'.heap ∧ s'.os = s₁.os ∧ AllBare s'.gens) s₁ := by
  let so : Obj := { cls := .type "list", data := .seq vs.toArray }
  have rv := vals_ints hi
  -- the abstract heap: the script alone, unless it stands in the written part
  let H : Hp := fun b => if b = a ∧ K.lookup a = none then some (.frz so (.lst (ns.map V.int))) else none
  have hH : ∀ {b : Addr} {u : HO}, H b = some u → b = a ∧ K.lookup a = none ∧ u = .frz so (.lst (ns.map V.int)) := by
    intro b u e
    have e' : (if b = a ∧ K.lookup a = none then some (HO.frz so (.lst (ns.map V.int))) else none) = some u := e
    split at e'
    · rename_i h; cases e'; exact ⟨h.1, h.2, rfl⟩
    · cases e'
  have hok : HOk P w H s₁.heap := by
    intro b u e
    obtain ⟨rfl, _, rfl⟩ := hH e
    exact ⟨ha, by rw [List.length_map]; exact hl, vs, _, rv, ha⟩
  have sz : SzH H := by
    intro b u e
    obtain ⟨_, _, rfl⟩ := hH e
    show (ns.map V.int).length ≤ sizeLine
    rw [List.length_map]; exact hl
  have seq : SqL K H a (ns.map V.int) := by
    cases hk : K.lookup a with
    | none => exact .inl (.inr ⟨so, if_pos ⟨rfl, hk⟩⟩)
    | some o =>
      have e := KX a o hk
      rw [ha] at e
      cases e
      exact .inr ⟨_, vs.toArray, _, hk, rfl, rfl, rfl, by rw [List.size_toArray, hi.length]; exact hl, by simpa using rv⟩
  have dictFree : ∀ {b : Addr} {o : Obj} {des : Array DictEntry} {ep : Nat}, s₁.heap.get? b = some o → o.data = .dict des ep → H b = none := by
    intro b o des ep e d
    cases q : H b with
    | none => rfl
    | some u =>
      obtain ⟨rfl, _, _⟩ := hH q
      rw [ha] at e
      cases e
      cases (show Data.seq vs.toArray 0 = Data.dict des ep from d)
  have nsIn : ∀ {b : Addr} {m : Str → Option Value}, s₁.heap.Ns b m → (hidT s₁.heap H).Ns b m := by
    intro b m ⟨o, des, ep, e, d, r⟩
    exact ⟨o, des, ep, hidT_get e (dictFree e d), d, r⟩
  have kin : K.In (hidT s₁.heap H) := by
    intro b o e
    refine hidT_get (KX b o e) ?_
    cases q : H b with
    | none => rfl
    | some u =>
      obtain ⟨rfl, z, _⟩ := hH q
      rw [z] at e; cases e
  obtain ⟨mc, l1, l2⟩ := hlim
  have md : Mod K mg (hidT s₁.heap H) := ⟨kin, nsIn hns, ⟨mb, nsIn hbn, hbb⟩, ⟨mc, nsIn l1, l2⟩⟩
  have e0 : Env0 P w K mg (hidT s₁.heap H) callerA [] s₁ H :=
    ⟨rfl, md, fun b o e => of_hidT e, Nat.le_of_eq (hidT_size _ _), trivial, fun b hb => absurd (show b ∈ ([] : List Addr) from hb) (by simp), hok, .of_eq hgen⟩
  have G := (F _ kin (nsIn hns)).go callerA hr rfl [] s₁ H e0 ⟨[.ref a], []⟩ [.ref a] [.ref a] (hbind s₁ (.ref a)) (.cons rfl .nil) _ _ (hsp H sz seq)
  refine codeAny_mono G ?_
  intro r s' h
  match r, h with
  | .error e, h => exact (hCX H e s' h).elim
  | .ok .next, h => exact (show False from h).elim
  | .ok .brk, h => exact (show False from h).elim
  | .ok .cont, h => exact (show False from h).elim
  | .ok (.ret u), ⟨v, H', os, bare, un, hok', r', q⟩ =>
    have q1 : v = .bl true := q
    subst q1
    cases (show u = Value.bool true from r')
    refine ⟨rfl, OldK.of_keep fun b o e => ?_, os, bare⟩
    cases q : H b with
    | none => exact un.keep b o e q (fun z => absurd (show b ∈ ([] : List Addr) from z) (by simp)) (by simp)
    | some u =>
      obtain ⟨_, _, rfl⟩ := hH q
      have h2 := hok' b _ (un.frzs b so _ q)
      have h1 := hok b _ q
      have h3 : s₁.heap.get? b = some so := h1.1
      rw [e] at h3
      cases h3
      exact h2.1
theorem walk_ofG {l : PySem.W.OpenLaw} {n k : Nat} {q : Program} {loose : List Str} {XP : (Str → Option Value) → Heap → Prop} {YP : World → Heap → Prop} {d : DefRec} {K : Params → PySem.W.Frag} {CX : World → CXT} {sp : World → Sp} {x : Str}
    (hn : l.most = some n) (hn2 : n ≤ sizeLine) (hdf : d.params.defaults = []) (hr : Room k callerA)
    (hY : ∀ (w : World) (h : Heap), YP w h → (K w.params).In h)
    (F : ∀ (w : World) (mg : Str → Option Value) (fa : Addr) (h : Heap), (K w.params).In h → h.Ns mainGlobals mg → mg d.name = some (.ref fa) →
      ∃ fd : FuncData, (∀ (s : Shared) (u : Value), BindsTo s fd ⟨[u], []⟩ [(x, u)]) ∧
        ∀ base : Heap, (K w.params).In base → base.Ns mainGlobals mg → FnG l.prog w (K w.params) mg base (CX w) k fa fd [x] (sp w))
    (hsp : ∀ (w : World) (H : Hp) (a : Addr) (ns : List Int), ns.length ≤ n → (∀ z ∈ ns, Builtin.Int.intBits z ≤ 1048576) → SzH H → SqL (K w.params) H a (ns.map V.int) → sp w [.ref a] H (fun v _ => v = .bl true) fun _ _ _ => False)
    (hCX : ∀ (w : World) (H : Hp) (s : Shared) (e : Value) (s' : Shared), CX w [] H s (fun _ _ _ => False) e s' → False) :
    PySem.W.WalkO q loose XP YP l.row.toRowW d [] (fun f vs => PySem.call f vs) := by
  refine Att.attach_callB hn hdf ?_
  intro w s₀ s₁ mg mb fa o pm cd doc a vs ns G Y ho hd hcd hmg hobj hints hlen hbits hgen
  obtain ⟨fd, hb, hF⟩ := F w mg fa _ (hY w _ Y) G.T.g hmg
  exact law_callG (hY w _ Y) G.T.g G.T.b G.T.builtins G.T.nolimit hgen hobj hints (Nat.le_trans hlen hn2) hr hF hb (fun H hz hS => hsp w H a ns hlen hbits hz hS) (fun H e s' => hCX w H s₁ e s')
end CS

/-! CsE: what operators and built-in functions are worth, by data. -/
namespace CS
open PySem PySem.Spec PyProof.Rows L2
open Evl (Ex ex_l ex_t)
theorem OpR.or {X : Cx} {f : Value → Value → PySem.Sem Value} {r r' : R2} (h : OpR X f r) (h' : OpR X f r') : OpR X f (fun x y H Q => r x y H Q ∨ r' x y H Q) := by
  intro pins s σ H x y v u Q I rx ry q
  rcases q with q | q
  · exact h pins s σ H x y v u Q I rx ry q
  · exact h' pins s σ H x y v u Q I rx ry q
theorem CallR.or {X : Cx} {f : Value} {r r' : List V → Hp → VK → Prop} (h : CallR X f r) (h' : CallR X f r') : CallR X f (fun xs H Q => r xs H Q ∨ r' xs H Q) := by
  intro pins s σ H xs us Q I rx q
  rcases q with q | q
  · exact h pins s σ H xs us Q I rx q
  · exact h' pins s σ H xs us Q I rx q
section
variable {K : PySem.W.Frag}
theorem newL {S H : Hp} {xs : List V} {ds : List D} (x : Ex S H) (z : SzH H) (r : RpAll K S xs ds) (hz : ds.length ≤ sizeLine) {p : Addr} (hp : H p = none) : Gz S H (upd S p (.lst xs)) (upd H p (.lst xs)) ∧ Rp K (upd S p (.lst xs)) (.ref p) (.list ds) :=
  ⟨Gz.new x z hp (by show xs.length ≤ sizeLine; rw [r.length]; exact hz), rp_newL x hp r⟩
theorem newT {S H : Hp} {xs : List V} {ds : List D} (x : Ex S H) (z : SzH H) (r : RpAll K S xs ds) (hz : ds.length ≤ sizeLine) {p : Addr} (hp : H p = none) : Gz S H (upd S p (.tup xs)) (upd H p (.tup xs)) ∧ Rp K (upd S p (.tup xs)) (.ref p) (.tuple ds) :=
  ⟨Gz.new x z hp (by show xs.length ≤ sizeLine; rw [r.length]; exact hz), rp_newT x hp r⟩
/-! ### + -/
/-- list + list, both as they may be read -/
def rCatS (K : PySem.W.Frag) : R2 := fun x y H Q => ∃ l b xs zs, x = .ref l ∧ y = .ref b ∧ SqL K H l xs ∧ SqL K H b zs ∧ xs.length + zs.length ≤ sizeLine ∧ ∀ p, H p = none → Q (.ref p) (upd H p (.lst (xs ++ zs)))
theorem op_catS {X : Cx} : OpR X (binaryOp .Add) (rCatS X.K) := by
  intro pins s σ H x y v u Q I rx ry h
  obtain ⟨l, b, xs, zs, rfl, rfl, h1, h2, hz, q⟩ := h
  cases rx
  cases ry
  obtain ⟨i1, r1, ⟨o1, n1, g1, c1, d1, e1⟩, _⟩ := I.list h1
  obtain ⟨i2, r2, ⟨o2, n2, g2, c2, d2, e2⟩, _⟩ := I.list h2
  have l1 := r1.length
  have l2 := r2.length
  obtain ⟨cl1, di1, da1, sl1⟩ := o1
  obtain ⟨cl2, di2, da2, sl2⟩ := o2
  simp only at c1 e1 c2 e2
  subst c1 e1 c2 e2
  have app : i1.toArray ++ i2.toArray = (i1 ++ i2).toArray := by simp
  refine concat_meets ⟨_, g1, rfl⟩ ⟨_, g2, rfl⟩ noFill_list_add seq_list_add PySem.F.slot_list_add PySem.F.entry_list_add (PySem.F.args_list_add_2 _ _)
    (list_addW l b i1.toArray i2.toArray n1 n2 di1 di2 sl1 sl2 (by simp; omega)) ⟨g1, g2, ?_⟩
  rw [app]
  exact ⟨.ref _, _, I.lnew (t' := s.toks) (r1.append r2) (by rw [List.length_append]; omega), rfl, q _ I.fresh⟩
def rAddStr : R2 := fun x y H Q => ∃ i j, x = .str i ∧ y = .str j ∧ i.length + j.length ≤ sizeLine ∧ Q (.str (i ++ j)) H
def rAddU (K : PySem.W.Frag) : R2 := fun x y H Q => rI0 (fun i j => .int (i + j)) x y H Q ∨ (fun x y H Q => rCatS K x y H Q ∨ (fun x y H Q => rCatA K x y H Q ∨ rAddStr x y H Q) x y H Q) x y H Q
theorem op_addU {X : Cx} : OpR X (binaryOp .Add) (rAddU X.K) := OpR.or op_add (OpR.or op_catS (OpR.or op_catA op_add_str))
def dAdd : D → D → Option D
  | .int a, .int b => some (.int (a + b))
  | .list a, .list b => if a.length + b.length ≤ sizeLine then some (.list (a ++ b)) else none
  | .tuple a, .tuple b => if a.length + b.length ≤ sizeLine then some (.tuple (a ++ b)) else none
  | .str a, .str b => if a.length + b.length ≤ sizeLine then some (.str (a ++ b)) else none
  | .dict [(.none, .list a)], .list b => if a.length + b.length ≤ sizeLine then some (.list (a ++ b)) else none
  | _, _ => none
theorem scr_inv {S : Hp} {x : V} {ds : List D} (h : Rp K S x (.dict [(.none, .list ds)])) : ∃ (a : Addr) (ns : List Int), x = .ref a ∧ ds = ns.map PyData.int ∧ SqL K S a (ns.map V.int) := by
  cases h with
  | scr hs => exact ⟨_, _, rfl, rfl, hs⟩
theorem opd_add : OpD K (rAddU K) dAdd := fun S H x y a b d e z ra rb g Q q => by
  unfold dAdd at g
  split at g
  · cases g
    exact .inl ⟨_, _, ra.int_inv, rb.int_inv, q _ S H (Gz.refl e z) (.int _)⟩
  · split at g <;> cases g
    rename_i hz
    obtain ⟨l, xs, rfl, hx, rx⟩ := ra.list_inv
    obtain ⟨m, ys, rfl, hy, ry⟩ := rb.list_inv
    refine .inr (.inl ⟨l, m, xs, ys, rfl, rfl, SqL.of (e _ _ hx), SqL.of (e _ _ hy), by rw [rx.length, ry.length]; exact hz, fun p hp => ?_⟩)
    obtain ⟨k1, k2⟩ := newL e z (rx.append ry) (by rw [List.length_append]; exact hz) hp
    exact q _ _ _ k1 k2
  · split at g <;> cases g
    rename_i hz
    obtain ⟨l, xs, rfl, hx, rx⟩ := ra.tuple_inv
    obtain ⟨m, ys, rfl, hy, ry⟩ := rb.tuple_inv
    refine .inr (.inr (.inl ⟨l, m, xs, ys, rfl, rfl, SqT.of (e _ _ hx), SqT.of (e _ _ hy), by rw [rx.length, ry.length]; exact hz, fun h => ?_, fun _ h => ?_, fun _ _ p hp => ?_⟩))
    · subst h
      cases rx
      exact q _ S H (Gz.refl e z) rb
    · subst h
      cases ry
      rw [List.append_nil] at q
      exact q _ S H (Gz.refl e z) ra
    · obtain ⟨k1, k2⟩ := newT e z (rx.append ry) (by rw [List.length_append]; exact hz) hp
      exact q _ _ _ k1 k2
  · split at g <;> cases g
    rename_i hz
    exact .inr (.inr (.inr ⟨_, _, ra.str_inv, rb.str_inv, hz, q _ S H (Gz.refl e z) (.str _)⟩))
  · split at g <;> cases g
    rename_i hz
    obtain ⟨l, ns, rfl, rfl, hx⟩ := scr_inv ra
    obtain ⟨m, ys, rfl, hy, ry⟩ := rb.list_inv
    refine .inr (.inl ⟨l, m, _, ys, rfl, rfl, ex_l e hx, SqL.of (e _ _ hy), by rw [ry.length]; simpa using hz, fun p hp => ?_⟩)
    obtain ⟨k1, k2⟩ := newL e z ((RpAll.ints ns).append ry) (by rw [List.length_append]; exact hz) hp
    exact q _ _ _ k1 k2
  · cases g
/-! ### -, *, //, %, **, shifts, | and & of ints -/
def dI (C : Int → Int → Prop) [∀ i j, Decidable (C i j)] (f : Int → Int → Int) : D → D → Option D
  | .int a, .int b => if C a b then some (.int (f a b)) else none
  | _, _ => none
theorem opd_I {C : Int → Int → Prop} [∀ i j, Decidable (C i j)] {f : Int → Int → Int} : OpD K (rI C fun i j => .int (f i j)) (dI C f) := fun S H x y a b d e z ra rb g Q q => by
  unfold dI at g
  split at g
  · split at g <;> cases g
    rename_i hc
    exact ⟨_, _, ra.int_inv, rb.int_inv, hc, q _ S H (Gz.refl e z) (.int _)⟩
  · cases g
def dI0 (f : Int → Int → Int) : D → D → Option D
  | .int a, .int b => some (.int (f a b))
  | _, _ => none
theorem opd_I0 {f : Int → Int → Int} : OpD K (rI0 fun i j => .int (f i j)) (dI0 f) := fun S H x y a b d e z ra rb g Q q => by
  unfold dI0 at g
  split at g
  · cases g
    exact ⟨_, _, ra.int_inv, rb.int_inv, q _ S H (Gz.refl e z) (.int _)⟩
  · cases g
abbrev dSub := dI0 fun i j => i - j
instance {i j : Int} : Decidable (IntMulOk i j) := by unfold IntMulOk; exact inferInstance
theorem op_mulX {X : Cx} : OpR X (binaryOp .Mult) (rI IntMulOk fun i j => .int (i * j)) := opI fun _ _ _ _ _ _ _ hc q => mul_int q hc
def rMulU (K : PySem.W.Frag) : R2 := fun x y H Q => rI IntMulOk (fun i j => .int (i * j)) x y H Q ∨ (fun x y H Q => rRep x y H Q ∨ rRepT K x y H Q) x y H Q
theorem op_mulU {X : Cx} : OpR X (binaryOp .Mult) (rMulU X.K) := OpR.or op_mulX (OpR.or op_rep op_repT)
def repD (k : Nat) (ds : List D) : List D := (List.replicate k ds).flatten
theorem RpAll.rep {S : Hp} {xs : List V} {ds : List D} (r : RpAll K S xs ds) : ∀ k : Nat, RpAll K S (List.replicate k xs).flatten (List.replicate k ds).flatten
  | 0 => .nil
  | k + 1 => by
    rw [List.replicate_succ, List.replicate_succ, List.flatten_cons, List.flatten_cons]
    exact r.append (RpAll.rep r k)
def dMul : D → D → Option D
  | .int a, .int b => if IntMulOk a b then some (.int (a * b)) else none
  | .list a, .int k => if -(2 ^ 63) ≤ k ∧ k < 2 ^ 63 ∧ a.length * k.toNat ≤ sizeLine then some (.list (repD k.toNat a)) else none
  | .tuple a, .int k => if a ≠ [] ∧ 2 ≤ k ∧ k ≤ 1000 ∧ a.length ≤ 1000 then some (.tuple (repD k.toNat a)) else none
  | _, _ => none
theorem repD_length (k : Nat) (ds : List D) : (repD k ds).length = k * ds.length := by
  unfold repD; simp [List.length_flatten]
theorem opd_mul : OpD K (rMulU K) dMul := fun S H x y a b d e z ra rb g Q q => by
  unfold dMul at g
  split at g
  · split at g <;> cases g
    rename_i hc
    exact .inl ⟨_, _, ra.int_inv, rb.int_inv, hc, q _ S H (Gz.refl e z) (.int _)⟩
  · split at g <;> cases g
    rename_i a k hc
    obtain ⟨l, xs, rfl, hx, rx⟩ := ra.list_inv
    refine .inr (.inl ⟨l, k, xs, rfl, rb.int_inv, e _ _ hx, hc.1, hc.2.1, by rw [rx.length]; exact hc.2.2, fun p hp => ?_⟩)
    obtain ⟨k1, k2⟩ := newL e z (rx.rep k.toNat) (by have := repD_length k.toNat a; unfold repD at this; rw [this, Nat.mul_comm]; exact hc.2.2) hp
    exact q _ _ _ k1 k2
  · split at g <;> cases g
    rename_i a k hc
    obtain ⟨l, xs, rfl, hx, rx⟩ := ra.tuple_inv
    refine .inr (.inr ⟨l, k, xs, rfl, rb.int_inv, SqT.of (e _ _ hx), ?_, hc.2.1, hc.2.2.1, by rw [rx.length]; exact hc.2.2.2, fun p hp => ?_⟩)
    · intro h; subst h; cases rx; exact hc.1 rfl
    · obtain ⟨k1, k2⟩ := newT e z (rx.rep k.toNat) (by
        have := repD_length k.toNat a
        unfold repD at this
        rw [this, sizeLine_eq]
        have h1 := hc.2.2
        have : k.toNat * a.length ≤ 1000 * 1000 := Nat.mul_le_mul (by omega) h1.2
        omega) hp
      exact q _ _ _ k1 k2
  · cases g
/-- a divisor that is not 0 and below 2 ^ 9000 in size -/
def COkDiv (_ j : Int) : Prop := j ≠ 0 ∧ j.natAbs.log2 < 9000
instance {i j : Int} : Decidable (COkDiv i j) := by unfold COkDiv; exact inferInstance
theorem op_fdivU {X : Cx} : OpR X (binaryOp .FloorDiv) (rI COkDiv fun i j => .int (i.fdiv j)) := opI fun _ _ _ _ _ _ _ hc q => floordiv_int hc.1 q (.inl (PyProof.noPylong_of_log2 hc.2))
abbrev dFdiv := dI COkDiv fun i j => i.fdiv j
def CNe0 (_ j : Int) : Prop := j ≠ 0
instance {i j : Int} : Decidable (CNe0 i j) := by unfold CNe0; exact inferInstance
theorem op_modU {X : Cx} : OpR X (binaryOp .Mod) (rI CNe0 fun i j => .int (i.fmod j)) := opI fun _ _ _ _ _ _ _ hc q => mod_int' hc q
abbrev dMod := dI CNe0 fun i j => i.fmod j
def CPowU (i j : Int) : Prop := 0 ≤ j ∧ (Builtin.Int.intBits i : Int) * j ≤ 2 ^ 27
instance {i j : Int} : Decidable (CPowU i j) := by unfold CPowU; exact inferInstance
theorem op_powU {X : Cx} : OpR X (binaryOp .Pow) (rI CPowU fun i j => .int (i ^ j.toNat)) := opI fun _ _ _ _ _ _ _ hc q => pow_int hc.1 hc.2 q
abbrev dPow := dI CPowU fun i j => i ^ j.toNat
instance {i j : Int} : Decidable (L2.CPow i j) := by unfold L2.CPow; exact inferInstance
abbrev dShl := dI L2.CPow fun i j => i * 2 ^ j.toNat
def CNn (_ j : Int) : Prop := 0 ≤ j
instance {i j : Int} : Decidable (CNn i j) := by unfold CNn; exact inferInstance
theorem op_shrU {X : Cx} : OpR X (binaryOp .RShift) (rI CNn fun i j => .int (i / 2 ^ j.toNat)) := op_shr
abbrev dShr := dI CNn fun i j => i / 2 ^ j.toNat
abbrev dOr := dI0 fun i j => Builtin.bitOr i j
abbrev dAnd := dI0 fun i j => Builtin.bitAnd i j
def dNeg : D → Option D
  | .int a => some (.int (-a))
  | _ => none
theorem und_neg : UnD K (rU fun i => .int (-i)) dNeg := fun S H x a d e z ra g Q q => by
  unfold dNeg at g
  split at g
  · cases g
    exact ⟨_, ra.int_inv, q _ S H (Gz.refl e z) (.int _)⟩
  · cases g
/-! ### comparisons -/
/-- the script as a list -/
def unS : D → D
  | .dict [(.none, .list ns)] => .list ns
  | d => d
theorem Rp.dpU {S : Hp} {x : V} {d : D} (r : Rp K S x d) (h : (unS d).canLay0 = true) : Dp K S x (unS d) := by
  cases r with
  | non => exact .non
  | bl b => exact .bl b
  | int i => exact .int i
  | str y => exact .str y
  | lst hs ha => exact Rp.dp h (.lst hs ha)
  | tup hs ha => exact Rp.dp h (.tup hs ha)
  | scr hs => exact .lst hs (RpAll.dp' _ _ (by simpa [unS, PyData.canLay0] using h) (RpAll.ints _))
def dEq (neg : Bool) : D → D → Option D
  | .str x, .str y => some (.bool (if neg then !(x == y) else x == y))
  | a, b => if SeqAt.shaped (unS a) = true ∧ SeqAt.shaped (unS b) = true then some (.bool (if neg then !PyData.eqv (unS a) (unS b) else PyData.eqv (unS a) (unS b))) else none
def rEqU (K : PySem.W.Frag) : R2 := fun x y H Q => rEqD K x y H Q ∨ rEq x y H Q
def rNeU (K : PySem.W.Frag) : R2 := fun x y H Q => rNeD K x y H Q ∨ rNe x y H Q
theorem op_eqU {X : Cx} (hu : X.A.units + 64 < cLine) : OpR X (compareOp .Eq) (rEqU X.K) := OpR.or (op_eqD hu) op_eq
theorem op_neU {X : Cx} (hu : X.A.units + 64 < cLine) : OpR X (compareOp .NotEq) (rNeU X.K) := OpR.or (op_neD hu) op_ne
theorem opd_eq : OpD K (rEqU K) (dEq false) := fun S H x y a b d e z ra rb g Q q => by
  unfold dEq at g
  split at g
  · cases g
    cases ra
    cases rb
    refine .inr ⟨rfl, ?_⟩
    rw [dec_str]
    exact q _ S H (Gz.refl e z) (.bl _)
  · split at g <;> cases g
    rename_i h
    exact .inl ⟨unS a, unS b, (ra.mono e).dpU (SeqAt.canLay_of_shaped h.1), (rb.mono e).dpU (SeqAt.canLay_of_shaped h.2), h.1, h.2, q _ S H (Gz.refl e z) (.bl _)⟩
theorem opd_ne : OpD K (rNeU K) (dEq true) := fun S H x y a b d e z ra rb g Q q => by
  unfold dEq at g
  split at g
  · cases g
    cases ra
    cases rb
    refine .inr ⟨rfl, ?_⟩
    rw [dec_str]
    exact q _ S H (Gz.refl e z) (.bl _)
  · split at g <;> cases g
    rename_i h
    exact .inl ⟨unS a, unS b, (ra.mono e).dpU (SeqAt.canLay_of_shaped h.1), (rb.mono e).dpU (SeqAt.canLay_of_shaped h.2), h.1, h.2, q _ S H (Gz.refl e z) (.bl _)⟩
def dCmp (f : Int → Int → Bool) : D → D → Option D
  | .int a, .int b => some (.bool (f a b))
  | _, _ => none
theorem opd_cmp {f : Int → Int → Bool} : OpD K (rI0 fun i j => .bl (f i j)) (dCmp f) := fun S H x y a b d e z ra rb g Q q => by
  unfold dCmp at g
  split at g
  · cases g
    exact ⟨_, _, ra.int_inv, rb.int_inv, q _ S H (Gz.refl e z) (.bl _)⟩
  · cases g
abbrev dLt := dCmp fun i j => decide (i < j)
abbrev dLe := dCmp fun i j => decide (i ≤ j)
abbrev dGt := dCmp fun i j => decide (j < i)
abbrev dGe := dCmp fun i j => decide (j ≤ i)
/-- < of tuples of ints -/
def dLtT : D → D → Option D := fun a b => (asT a).bind fun xs => (asT b).bind fun ys => (asInts xs).bind fun ns => (asInts ys).map fun ms => .bool (HT.lexLt ns ms)
theorem opd_ltT : OpD K (rLtT K) dLtT := fun S H x y a b d e z ra rb g Q q => by
  obtain ⟨xs, ex, g⟩ := bind_some g
  obtain ⟨ys, ey, g⟩ := bind_some g
  obtain ⟨ns, en, g⟩ := bind_some g
  obtain ⟨ms, em, rfl⟩ := map_some g
  have := asT_some ex; subst this
  have := asT_some ey; subst this
  have := asInts_some en; subst this
  have := asInts_some em; subst this
  obtain ⟨l, vs, rfl, hx, rx⟩ := ra.tuple_inv
  obtain ⟨m, ws, rfl, hy, ry⟩ := rb.tuple_inv
  have := rx.ints_inv; subst this
  have := ry.ints_inv; subst this
  exact ⟨l, m, ns, ms, rfl, rfl, SqT.of (e _ _ hx), SqT.of (e _ _ hy), q _ S H (Gz.refl e z) (.bl _)⟩
/-- is None -/
def dIsN : D → D → Option D
  | .none, .none => some (.bool true)
  | .dict _, .none => none
  | _, .none => some (.bool false)
  | _, _ => none
def dNotN : D → D → Option D := fun a b => (dIsN a b).bind fun d => (asB d).map fun k => .bool (!k)
theorem isN_of {S : Hp} {x y : V} {a b : D} {d : D} (ra : Rp K S x a) (rb : Rp K S y b) (g : dIsN a b = some d) : y = .non ∧ d = .bool (decide (x = .non)) := by
  unfold dIsN at g
  split at g
  · cases g; exact ⟨rb.none_inv, by rw [ra.none_inv]; simp⟩
  · cases g
  · rename_i h1 h2
    cases g
    refine ⟨rb.none_inv, ?_⟩
    cases ra with
    | non => exact absurd rfl h1
    | bl b => simp
    | int i => simp
    | str x => simp
    | lst _ _ => simp
    | tup _ _ => simp
    | scr _ => exact absurd rfl (h2 _)
  · cases g
theorem opd_isN : OpD K (fun x y H Q => y = .non ∧ Q (.bl (decide (x = .non))) H) dIsN := fun S H x y a b d e z ra rb g Q q => by
  obtain ⟨h1, rfl⟩ := isN_of ra rb g
  exact ⟨h1, q _ S H (Gz.refl e z) (.bl _)⟩
theorem opd_notN : OpD K (fun x y H Q => y = .non ∧ Q (.bl (!decide (x = .non))) H) dNotN := fun S H x y a b d e z ra rb g Q q => by
  obtain ⟨d1, h1, g⟩ := bind_some g
  obtain ⟨k, hk, rfl⟩ := map_some g
  obtain ⟨h2, rfl⟩ := isN_of ra rb h1
  cases hk
  exact ⟨h2, q _ S H (Gz.refl e z) (.bl _)⟩
/-- in, not in a list of data -/
def dIn (neg : Bool) : D → D → Option D
  | a, .list bs => if SeqAt.shaped a = true ∧ SeqAt.shaped (.list bs) = true then some (.bool (if neg then !(bs.any fun z => PyData.eqv z a) else bs.any fun z => PyData.eqv z a)) else none
  | _, _ => none
theorem opd_in : OpD K (rInD K) (dIn false) := fun S H x y a b d e z ra rb g Q q => by
  unfold dIn at g
  split at g
  · split at g <;> cases g
    rename_i h
    exact ⟨_, _, (ra.mono e).dp (SeqAt.canLay_of_shaped h.1), (rb.mono e).dp (SeqAt.canLay_of_shaped h.2), h.1, h.2, q _ S H (Gz.refl e z) (.bl _)⟩
  · cases g
theorem opd_notIn : OpD K (rNotInD K) (dIn true) := fun S H x y a b d e z ra rb g Q q => by
  unfold dIn at g
  split at g
  · split at g <;> cases g
    rename_i h
    exact ⟨_, _, (ra.mono e).dp (SeqAt.canLay_of_shaped h.1), (rb.mono e).dp (SeqAt.canLay_of_shaped h.2), h.1, h.2, q _ S H (Gz.refl e z) (.bl _)⟩
  · cases g
/-! ### subscripts, slices -/
def dIx : D → D → Option D
  | .list ds, .int i => atI ds i
  | .tuple ds, .int i => atI ds i
  | _, _ => none
def rIxU (K : PySem.W.Frag) : R2 := fun x y H Q => rIxL K x y H Q ∨ rIxT K x y H Q
theorem ix_U {X : Cx} : IxR X (rIxU X.K) := IxR.or ix_list ix_tup
theorem opd_ix : OpD K (rIxU K) dIx := fun S H x y a b d e z ra rb g Q q => by
  unfold dIx at g
  split at g
  · obtain ⟨l, xs, rfl, hx, rx⟩ := ra.list_inv
    obtain ⟨v, hv, rv⟩ := rx.atI g
    exact .inl ⟨l, xs, _, v, rfl, rb.int_inv, SqL.of (e _ _ hx), hv, q v S H (Gz.refl e z) rv⟩
  · obtain ⟨l, xs, rfl, hx, rx⟩ := ra.tuple_inv
    obtain ⟨v, hv, rv⟩ := rx.atI g
    exact .inr ⟨l, xs, _, v, rfl, rb.int_inv, SqT.of (e _ _ hx), hv, q v S H (Gz.refl e z) rv⟩
  · cases g
def cutD (ds : List D) (lo hi : Option Int) : List D := (ds.drop (HT.sIx ds.length 0 lo)).take (HT.sIx ds.length ds.length hi - HT.sIx ds.length 0 lo)
theorem RpAll.cut {S : Hp} {xs : List V} {ds : List D} (r : RpAll K S xs ds) (lo hi : Option Int) : RpAll K S (cutV xs lo hi) (cutD ds lo hi) := by
  unfold cutV cutD
  rw [r.length]
  exact (r.drop _).take _
theorem cutD_le (ds : List D) (lo hi : Option Int) : (cutD ds lo hi).length ≤ ds.length := by
  unfold cutD
  rw [List.length_take, List.length_drop]
  omega
/-- slices of lists and tuples -/
def rSlU (K : PySem.W.Frag) : V → Option Int → Option Int → Hp → VK → Prop := fun x lo hi H Q => rSlL K x lo hi H Q ∨ rSlA K x lo hi H Q
theorem sl_U {X : Cx} : SlR X (rSlU X.K) := SlR.or sl_list sl_tupA
def dSl (lo hi : Option Int) : D → Option D
  | .list ds => some (.list (cutD ds lo hi))
  | .tuple ds => some (.tuple (cutD ds lo hi))
  | _ => none
theorem sld {S H : Hp} {x : V} {a d : D} {lo hi : Option Int} (e : Ex S H) (z : SzH H) (ra : Rp K S x a) (g : dSl lo hi a = some d) (Q : VK) (q : ∀ v S' H', Gz S H S' H' → Rp K S' v d → Q v H') : rSlU K x lo hi H Q := by
  unfold dSl at g
  split at g
  · cases g
    obtain ⟨l, xs, rfl, hx, rx⟩ := ra.list_inv
    refine .inl ⟨l, xs, rfl, SqL.of (e _ _ hx), fun p hp => ?_⟩
    have h0 := z.list (K := K) (SqL.of (e _ _ hx))
    obtain ⟨k1, k2⟩ := newL e z (rx.cut lo hi) (Nat.le_trans (cutD_le _ lo hi) (by rw [← rx.length]; exact h0)) hp
    exact q _ _ _ k1 k2
  · cases g
    obtain ⟨l, xs, rfl, hx, rx⟩ := ra.tuple_inv
    have h0 := z.tup (K := K) (SqT.of (e _ _ hx))
    refine .inr ⟨l, xs, rfl, SqT.of (e _ _ hx), fun hw => ?_, fun _ p hp => ?_⟩
    · have hc := rx.cut lo hi
      have hcv : cutV xs lo hi = xs := by
        unfold cutV
        rw [hw.1, hw.2]
        simp
      rw [hcv] at hc
      exact q _ S H (Gz.refl e z) (.tup hx hc)
    · obtain ⟨k1, k2⟩ := newT e z (rx.cut lo hi) (Nat.le_trans (cutD_le _ lo hi) (by rw [← rx.length]; exact h0)) hp
      exact q _ _ _ k1 k2
  · cases g
/-! ### built-in functions -/
def dLen : List D → Option D
  | [.list ds] => some (.int ds.length)
  | [.tuple ds] => some (.int ds.length)
  | [.dict [(.none, .list ds)]] => some (.int ds.length)
  | _ => none
def rLenQ (K : PySem.W.Frag) : List V → Hp → VK → Prop := fun xs H Q => ∃ p ys, xs = [.ref p] ∧ (SqL K H p ys ∨ SqT K H p ys) ∧ Q (.int ys.length) H
theorem calld_len : CallD K (rLenQ K) dLen := fun S H xs as d e z r g Q q => by
  unfold dLen at g
  split at g
  · cases g
    obtain ⟨v, rfl, rv⟩ := r.one_inv
    obtain ⟨l, ys, rfl, hx, rx⟩ := rv.list_inv
    exact ⟨l, ys, rfl, .inl (SqL.of (e _ _ hx)), q _ S H (Gz.refl e z) (by rw [rx.length]; exact .int _)⟩
  · cases g
    obtain ⟨v, rfl, rv⟩ := r.one_inv
    obtain ⟨l, ys, rfl, hx, rx⟩ := rv.tuple_inv
    exact ⟨l, ys, rfl, .inr (SqT.of (e _ _ hx)), q _ S H (Gz.refl e z) (by rw [rx.length]; exact .int _)⟩
  · cases g
    obtain ⟨v, rfl, rv⟩ := r.one_inv
    obtain ⟨l, ns, rfl, rfl, hx⟩ := scr_inv rv
    exact ⟨l, _, rfl, .inl (ex_l e hx), q _ S H (Gz.refl e z) (by rw [List.length_map, List.length_map]; exact .int _)⟩
  · cases g
def dAbs : List D → Option D
  | [.int i] => some (.int (if i < 0 then -i else i))
  | _ => none
theorem calld_abs : CallD K (fun xs H Q => ∃ i, xs = [.int i] ∧ Q (.int (if i < 0 then -i else i)) H) dAbs := fun S H xs as d e z r g Q q => by
  unfold dAbs at g
  split at g
  · cases g
    obtain ⟨v, rfl, rv⟩ := r.one_inv
    exact ⟨_, by rw [rv.int_inv], q _ S H (Gz.refl e z) (.int _)⟩
  · cases g
def maxL : List Int → Int
  | [] => 0
  | [x] => x
  | x :: xs => max x (maxL xs)
def minL : List Int → Int
  | [] => 0
  | [x] => x
  | x :: xs => min x (minL xs)
theorem maxL_mem : ∀ {l : List Int}, l ≠ [] → maxL l ∈ l
  | [], h => absurd rfl h
  | [x], _ => by simp [maxL]
  | x :: y :: r, _ => by
    have ih := maxL_mem (l := y :: r) (by simp)
    show max x (maxL (y :: r)) ∈ x :: y :: r
    by_cases c : x ≤ maxL (y :: r)
    · rw [Int.max_eq_right c]; exact List.mem_cons_of_mem _ ih
    · rw [Int.max_eq_left (by omega)]; simp
theorem maxL_ge : ∀ {l : List Int} {y : Int}, y ∈ l → y ≤ maxL l
  | [], _, h => by simp at h
  | [x], y, h => by simp at h; simp [maxL, h]
  | x :: z :: r, y, h => by
    show y ≤ max x (maxL (z :: r))
    rcases List.mem_cons.mp h with h | h
    · omega
    · have := maxL_ge (l := z :: r) h; omega
theorem minL_mem : ∀ {l : List Int}, l ≠ [] → minL l ∈ l
  | [], h => absurd rfl h
  | [x], _ => by simp [minL]
  | x :: y :: r, _ => by
    have ih := minL_mem (l := y :: r) (by simp)
    show min x (minL (y :: r)) ∈ x :: y :: r
    by_cases c : x ≤ minL (y :: r)
    · rw [Int.min_eq_left c]; simp
    · rw [Int.min_eq_right (by omega)]; exact List.mem_cons_of_mem _ ih
theorem minL_le : ∀ {l : List Int} {y : Int}, y ∈ l → minL l ≤ y
  | [], _, h => by simp at h
  | [x], y, h => by simp at h; simp [minL, h]
  | x :: z :: r, y, h => by
    show min x (minL (z :: r)) ≤ y
    rcases List.mem_cons.mp h with h | h
    · omega
    · have := minL_le (l := z :: r) h; omega
/-- max, min: of two ints, of a list of ints -/
def dMax : List D → Option D
  | [.int i, .int j] => some (.int (if j > i then j else i))
  | [.list ds] => (asInts ds).bind fun ns => if ns ≠ [] then some (.int (maxL ns)) else none
  | _ => none
def dMin : List D → Option D
  | [.int i, .int j] => some (.int (if j < i then j else i))
  | [.list ds] => (asInts ds).bind fun ns => if ns ≠ [] then some (.int (minL ns)) else none
  | _ => none
def rMaxU (K : PySem.W.Frag) : List V → Hp → VK → Prop := fun xs H Q => (∃ i j, xs = [.int i, .int j] ∧ Q (.int (if j > i then j else i)) H) ∨ rMax K xs H Q
def rMinU (K : PySem.W.Frag) : List V → Hp → VK → Prop := fun xs H Q => (∃ i j, xs = [.int i, .int j] ∧ Q (.int (if j < i then j else i)) H) ∨ rMin K xs H Q
theorem cr_maxU {X : Cx} (hc : X.calm = true) : CallR X (.builtin "max") (rMaxU X.K) := CallR.or (call_max2 hc) (cr_max hc)
theorem cr_minU {X : Cx} (hc : X.calm = true) : CallR X (.builtin "min") (rMinU X.K) := CallR.or (call_min2 hc) (cr_min hc)
theorem calld_max : CallD K (rMaxU K) dMax := fun S H xs as d e z r g Q q => by
  unfold dMax at g
  split at g
  · cases g
    obtain ⟨v, w, rfl, rv, rw'⟩ := r.two_inv
    exact .inl ⟨_, _, by rw [rv.int_inv, rw'.int_inv], q _ S H (Gz.refl e z) (.int _)⟩
  · obtain ⟨ns, en, g⟩ := bind_some g
    split at g <;> cases g
    rename_i hn
    have := asInts_some en; subst this
    obtain ⟨v, rfl, rv⟩ := r.one_inv
    obtain ⟨l, ys, rfl, hx, rx⟩ := rv.list_inv
    have := rx.ints_inv; subst this
    refine .inr ⟨l, ns, rfl, SqL.of (e _ _ hx), List.length_pos_iff.mpr hn, fun m hm hge => ?_⟩
    have hmm : m = maxL ns := by
      have h1 := maxL_ge hm
      have h2 := hge _ (maxL_mem hn)
      omega
    subst hmm
    exact q _ S H (Gz.refl e z) (.int _)
  · cases g
theorem calld_min : CallD K (rMinU K) dMin := fun S H xs as d e z r g Q q => by
  unfold dMin at g
  split at g
  · cases g
    obtain ⟨v, w, rfl, rv, rw'⟩ := r.two_inv
    exact .inl ⟨_, _, by rw [rv.int_inv, rw'.int_inv], q _ S H (Gz.refl e z) (.int _)⟩
  · obtain ⟨ns, en, g⟩ := bind_some g
    split at g <;> cases g
    rename_i hn
    have := asInts_some en; subst this
    obtain ⟨v, rfl, rv⟩ := r.one_inv
    obtain ⟨l, ys, rfl, hx, rx⟩ := rv.list_inv
    have := rx.ints_inv; subst this
    refine .inr ⟨l, ns, rfl, SqL.of (e _ _ hx), List.length_pos_iff.mpr hn, fun m hm hge => ?_⟩
    have hmm : m = minL ns := by
      have h1 := minL_le hm
      have h2 := hge _ (minL_mem hn)
      omega
    subst hmm
    exact q _ S H (Gz.refl e z) (.int _)
  · cases g
def dSum : List D → Option D
  | [.list ds] => (asInts ds).map fun ns => .int ns.sum
  | _ => none
theorem calld_sum : CallD K (rSum K) dSum := fun S H xs as d e z r g Q q => by
  unfold dSum at g
  split at g
  · obtain ⟨ns, en, rfl⟩ := map_some g
    have := asInts_some en; subst this
    obtain ⟨v, rfl, rv⟩ := r.one_inv
    obtain ⟨l, ys, rfl, hx, rx⟩ := rv.list_inv
    have := rx.ints_inv; subst this
    exact ⟨l, ns, rfl, SqL.of (e _ _ hx), q _ S H (Gz.refl e z) (.int _)⟩
  · cases g
def dInt : List D → Option D
  | [.int i] => some (.int i)
  | [.bool k] => some (.int (if k then 1 else 0))
  | _ => none
theorem calld_int : CallD K (fun xs H Q => (∃ i, xs = [.int i] ∧ Q (.int i) H) ∨ ∃ k, xs = [.bl k] ∧ Q (.int (if k then 1 else 0)) H) dInt := fun S H xs as d e z r g Q q => by
  unfold dInt at g
  split at g
  · cases g
    obtain ⟨v, rfl, rv⟩ := r.one_inv
    exact .inl ⟨_, by rw [rv.int_inv], q _ S H (Gz.refl e z) (.int _)⟩
  · cases g
    obtain ⟨v, rfl, rv⟩ := r.one_inv
    exact .inr ⟨_, by rw [rv.bool_inv], q _ S H (Gz.refl e z) (.int _)⟩
  · cases g
def asBools : List D → Option (List Bool)
  | [] => some []
  | .bool i :: r => (asBools r).map fun s => i :: s
  | _ => none
theorem asBools_some : ∀ {ds : List D} {ns : List Bool}, asBools ds = some ns → ds = ns.map PyData.bool
  | [], ns, h => by cases h; rfl
  | .bool i :: r, ns, h => by
    obtain ⟨s, hs, rfl⟩ := map_some h
    rw [asBools_some hs]; rfl
  | .none :: _, _, h => by cases h
  | .int _ :: _, _, h => by cases h
  | .str _ :: _, _, h => by cases h
  | .list _ :: _, _, h => by cases h
  | .tuple _ :: _, _, h => by cases h
  | .dict _ :: _, _, h => by cases h
theorem asBools_map : ∀ ns : List Bool, asBools (ns.map PyData.bool) = some ns
  | [] => rfl
  | n :: ns => by simp [asBools, asBools_map ns]
def dAll : List D → Option D
  | [.list ds] => (asBools ds).map fun bs => .bool (bs.all id)
  | _ => none
def dAny : List D → Option D
  | [.list ds] => (asBools ds).map fun bs => .bool (bs.any id)
  | _ => none
theorem calld_all : CallD K (rAll K) dAll := fun S H xs as d e z r g Q q => by
  unfold dAll at g
  split at g
  · obtain ⟨ns, en, rfl⟩ := map_some g
    have := asBools_some en; subst this
    obtain ⟨v, rfl, rv⟩ := r.one_inv
    obtain ⟨l, ys, rfl, hx, rx⟩ := rv.list_inv
    have := rx.bools_inv; subst this
    exact ⟨l, ns, rfl, SqL.of (e _ _ hx), q _ S H (Gz.refl e z) (.bl _)⟩
  · cases g
theorem calld_any : CallD K (rAny K) dAny := fun S H xs as d e z r g Q q => by
  unfold dAny at g
  split at g
  · obtain ⟨ns, en, rfl⟩ := map_some g
    have := asBools_some en; subst this
    obtain ⟨v, rfl, rv⟩ := r.one_inv
    obtain ⟨l, ys, rfl, hx, rx⟩ := rv.list_inv
    have := rx.bools_inv; subst this
    exact ⟨l, ns, rfl, SqL.of (e _ _ hx), q _ S H (Gz.refl e z) (.bl _)⟩
  · cases g
/-- repr of a list or tuple -/
def rReprD (K : PySem.W.Frag) : List V → Hp → VK → Prop := fun xs H Q => ∃ a d, xs = [.ref a] ∧ Dp K H (.ref a) d ∧ d.showable = true ∧ d.canLay0 = true ∧ d.depth ≤ 60 ∧ d.shown.length ≤ sizeLine ∧ Q (.str d.shown) H
theorem cr_repr {X : Cx} (hg : X.A.guards = some []) (hu : X.A.units + 64 < cLine) : CallR X (.builtin "repr") (rReprD X.K) := by
  intro pins s σ H xs us Q I r h
  obtain ⟨a, d, rfl, hd, hs, hl, hdp, hz, q⟩ := h
  obtain ⟨u, rfl, ru⟩ := vals1 r
  cases ru
  obtain ⟨as, rr⟩ := Dp.reads I d (.ref a) (.ref a) hd rfl
  exact repr_of_reads' rr hs (noDict_hsm (hasDict_of_canLay d hl)) hg (by omega) (fun _ _ e => e) (fun h' u tk k => ⟨.str d.shown, H, I.kept k, ⟨u, rfl⟩, q⟩) hz
where
  hasDict_of_canLay := PyData.hasDict_of_canLay
  noDict_hsm {d : PyData} {as : List Addr} := @PyData.noDict_hsm d as
def shows (d : D) : Bool := d.showable && d.canLay0 && decide (d.depth ≤ 60) && decide (d.shown.length ≤ sizeLine)
def dRepr : List D → Option D
  | [.list ds] => if shows (.list ds) = true then some (.str (PyData.shown (.list ds))) else none
  | [.tuple ds] => if shows (.tuple ds) = true then some (.str (PyData.shown (.tuple ds))) else none
  | _ => none
theorem calld_repr : CallD K (rReprD K) dRepr := fun S H xs as d e z r g Q q => by
  have key : ∀ {a : Addr} {d : D}, Rp K S (.ref a) d → shows d = true → (∀ v S' H', Gz S H S' H' → Rp K S' v (.str d.shown) → Q v H') → rReprD K [.ref a] H Q := by
    intro a d ra hs q
    unfold shows at hs
    simp only [Bool.and_eq_true, decide_eq_true_eq] at hs
    exact ⟨a, d, rfl, (ra.mono e).dp hs.1.1.2, hs.1.1.1, hs.1.1.2, hs.1.2, hs.2, q _ S H (Gz.refl e z) (.str _)⟩
  unfold dRepr at g
  split at g
  · split at g <;> cases g
    rename_i hs
    obtain ⟨v, rfl, rv⟩ := r.one_inv
    obtain ⟨l, ys, rfl, _, _⟩ := id rv.list_inv
    exact key rv hs q
  · split at g <;> cases g
    rename_i hs
    obtain ⟨v, rfl, rv⟩ := r.one_inv
    obtain ⟨l, ys, rfl, _, _⟩ := id rv.tuple_inv
    exact key rv hs q
  · cases g
/-! sorted: ints, pairs of ints -/
def sortI (ns : List Int) : List Int := ns.mergeSort fun a b => decide (a ≤ b)
def lexLe (p q : Int × Int) : Bool := decide (p.1 < q.1 ∨ (p.1 = q.1 ∧ p.2 ≤ q.2))
def sortP (ps : List (Int × Int)) : List (Int × Int) := ps.mergeSort lexLe
theorem perm_sorted_eq {α : Type} {le : α → α → Bool} (asym : ∀ a b, le a b = true → le b a = true → a = b) : ∀ {l₁ l₂ : List α}, l₁.Perm l₂ → l₁.Pairwise (fun a b => le a b = true) → l₂.Pairwise (fun a b => le a b = true) → l₁ = l₂ := fun {l₁ l₂} hp h1 h2 =>
  List.Perm.eq_of_pairwise (fun a b _ _ ha hb => asym a b ha hb) h1 h2 hp
theorem sortI_perm (ns : List Int) : (sortI ns).Perm ns := List.mergeSort_perm ns _
theorem sortI_sorted (ns : List Int) : (sortI ns).Pairwise (· ≤ ·) := by
  have h := List.pairwise_mergeSort (le := fun a b : Int => decide (a ≤ b)) (fun a b c h1 h2 => by simp at *; omega) (fun a b => by simp; omega) ns
  exact h.imp fun h => by simpa using h
theorem sortI_uniq {ns ms : List Int} (hp : ms.Perm ns) (h : ms.Pairwise (· ≤ ·)) : ms = sortI ns :=
  perm_sorted_eq (le := fun a b : Int => decide (a ≤ b)) (fun a b h1 h2 => by simp at *; omega) (hp.trans (sortI_perm ns).symm) (h.imp fun h => by simpa using h) ((sortI_sorted ns).imp fun h => by simpa using h)
theorem lexLe_tr (a b c : Int × Int) (h1 : lexLe a b = true) (h2 : lexLe b c = true) : lexLe a c = true := by
  unfold lexLe at *; simp only [decide_eq_true_eq] at *; omega
theorem lexLe_tot (a b : Int × Int) : (lexLe a b || lexLe b a) = true := by
  unfold lexLe; simp only [Bool.or_eq_true, decide_eq_true_eq]; omega
theorem lexLe_as (a b : Int × Int) (h1 : lexLe a b = true) (h2 : lexLe b a = true) : a = b := by
  unfold lexLe at *; simp only [decide_eq_true_eq] at *
  apply Prod.ext <;> omega
theorem sortP_perm (ps : List (Int × Int)) : (sortP ps).Perm ps := List.mergeSort_perm ps _
theorem sortP_sorted (ps : List (Int × Int)) : (sortP ps).Pairwise (fun a b => lexLe a b = true) := List.pairwise_mergeSort lexLe_tr lexLe_tot ps
theorem sortP_uniq {ps qs : List (Int × Int)} (hp : qs.Perm ps) (h : qs.Pairwise (fun a b => lexLe a b = true)) : qs = sortP ps :=
  perm_sorted_eq lexLe_as (hp.trans (sortP_perm ps).symm) h (sortP_sorted ps)
def pairD (p : Int × Int) : D := .tuple [.int p.1, .int p.2]
def asPairs : List D → Option (List (Int × Int))
  | [] => some []
  | .tuple [.int a, .int b] :: r => (asPairs r).map fun s => (a, b) :: s
  | _ => none
theorem asPairs_some : ∀ {ds : List D} {ps : List (Int × Int)}, asPairs ds = some ps → ds = ps.map pairD := by
  intro ds
  induction ds with
  | nil => intro ps h; cases h; rfl
  | cons x r ih =>
    intro ps h
    unfold asPairs at h
    split at h
    · rename_i e; cases e
    · rename_i a b r' e
      cases e
      obtain ⟨s, hs, rfl⟩ := map_some h
      rw [ih hs]; rfl
    · cases h
theorem asPairs_map : ∀ ps : List (Int × Int), asPairs (ps.map pairD) = some ps
  | [] => rfl
  | p :: ps => by
    show (asPairs (ps.map pairD)).map (fun s => (p.1, p.2) :: s) = some (p :: ps)
    rw [asPairs_map ps]; rfl
def dSorted : List D → Option D
  | [.list ds] => match asInts ds with
    | some ns => some (.list ((sortI ns).map .int))
    | none => (asPairs ds).map fun ps => .list ((sortP ps).map pairD)
  | _ => none
def rSortU (K : PySem.W.Frag) : List V → Hp → VK → Prop := fun xs H Q => rSortedI K xs H Q ∨ rSortedPO K xs H Q
theorem cr_sortU {X : Cx} : CallR X (.builtin "sorted") (rSortU X.K) := CallR.or cr_sortedI cr_sortedPO
theorem sz_of_len {S H : Hp} {l : Addr} {xs : List V} (z : SzH H) (h : H l = some (.lst xs)) : xs.length ≤ sizeLine := z l _ h
/-- the pair at a value -/
def pairAt (H : Hp) (v : V) : Int × Int := match v with
  | .ref a => match H a with
    | some (.tup [.int i, .int j]) => (i, j)
    | _ => (0, 0)
  | _ => (0, 0)
theorem rp_pair {S H : Hp} {v : V} {p : Int × Int} (e : Ex S H) (r : Rp K S v (pairD p)) : ∃ t, v = .ref t ∧ H t = some (.tup [.int p.1, .int p.2]) ∧ pairAt H v = p := by
  obtain ⟨a, xs, rfl, hx, rx⟩ := r.tuple_inv
  obtain ⟨u, w, rfl, r1, r2⟩ := rx.two_inv
  rw [r1.int_inv, r2.int_inv] at hx
  have h1 := e _ _ hx
  exact ⟨a, rfl, h1, by unfold pairAt; simp only [h1]⟩
theorem rp_pairs {S H : Hp} (e : Ex S H) : ∀ {vs : List V} {ps : List (Int × Int)}, RpAll K S vs (ps.map pairD) → vs.map (pairAt H) = ps ∧ ∀ v ∈ vs, ∃ p : Int × Int, Rp K S v (pairD p)
  | [], [], _ => ⟨rfl, fun _ h => by simp at h⟩
  | v :: vs, p :: ps, h => by
    cases h with
    | cons h1 h2 =>
      obtain ⟨k1, k2⟩ := rp_pairs e h2
      obtain ⟨_, _, _, k3⟩ := rp_pair e h1
      refine ⟨by rw [List.map_cons, k1, k3], fun w hw => ?_⟩
      rcases List.mem_cons.mp hw with rfl | hw
      · exact ⟨p, h1⟩
      · exact k2 w hw
  | [], _ :: _, h => by cases h
  | _ :: _, [], h => by cases h
theorem rp_of_pairs {S H : Hp} (e : Ex S H) : ∀ (vs : List V), (∀ v ∈ vs, ∃ p : Int × Int, Rp K S v (pairD p)) → RpAll K S vs ((vs.map (pairAt H)).map pairD)
  | [], _ => .nil
  | v :: vs, h => by
    obtain ⟨p, hp⟩ := h v (by simp)
    obtain ⟨_, _, _, k3⟩ := rp_pair e hp
    rw [List.map_cons, List.map_cons, k3]
    exact .cons hp (rp_of_pairs e vs fun w hw => h w (List.mem_cons_of_mem _ hw))
theorem calld_sorted : CallD K (rSortU K) dSorted := fun S H xs as d e z r g Q q => by
  unfold dSorted at g
  split at g
  · obtain ⟨v, rfl, rv⟩ := r.one_inv
    obtain ⟨l, ys, rfl, hx, rx⟩ := rv.list_inv
    have hl := z l _ (e _ _ hx)
    have hl : ys.length ≤ sizeLine := hl
    split at g
    · rename_i ns en
      cases g
      have := asInts_some en; subst this
      have := rx.ints_inv; subst this
      refine .inl ⟨l, ns, rfl, SqL.of (e _ _ hx), fun ns' p hperm hs hp => ?_⟩
      have := sortI_uniq hperm hs; subst this
      obtain ⟨k1, k2⟩ := newL e z (RpAll.ints (K := K) (H := S) (sortI ns)) (by rw [List.length_map, (sortI_perm ns).length_eq]; simpa using hl) hp
      exact q _ _ _ k1 k2
    · obtain ⟨ps, ep, rfl⟩ := map_some g
      have := asPairs_some ep; subst this
      obtain ⟨k1, k2⟩ := rp_pairs e rx
      refine .inr ⟨l, ys, pairAt H, rfl, SqL.of (e _ _ hx), fun v hv => ?_, fun zs p hs hb hp => ?_⟩
      · obtain ⟨w, hw⟩ := k2 v hv
        obtain ⟨t, h1, h2, h3⟩ := rp_pair e hw
        exact ⟨t, h1, by rw [h3]; exact h2⟩
      · have hperm : zs.Perm ys := hb.perm
        have hz : ∀ v ∈ zs, ∃ p : Int × Int, Rp K S v (pairD p) := fun v hv => k2 v (hperm.mem_iff.mp hv)
        have r2 := rp_of_pairs e zs hz
        have e2 : zs.map (pairAt H) = sortP ps := by
          refine sortP_uniq ?_ ?_
          · rw [← k1]; exact hperm.map _
          · refine List.pairwise_map.mpr (hs.imp fun {a b} h => ?_)
            have h' : SrtO.lexB (pairAt H b) (pairAt H a) = false := h
            have := SrtO.lexB_no.mp h'
            unfold lexLe
            simp only [decide_eq_true_eq]
            omega
        rw [e2] at r2
        have hz2 : zs.length ≤ sizeLine := by rw [hperm.length_eq]; exact hl
        obtain ⟨k3, k4⟩ := newL e z r2 (by rw [← r2.length]; exact hz2) hp
        exact q _ _ _ k3 k4
  · cases g
end
end CS

/-! CsF: one rule a construct: a piece of syntax over a family of contexts, and the data function it is worth. -/
namespace CS
open PySem PySem.Spec PyProof.Rows L2
open Evl (Ex ex_l ex_t)
structure Cok {ι : Type} (X : ι → Cx) (K : PySem.W.Frag) (k : Nat) : Prop where
  hK : ∀ i, (X i).K = K
  calm : ∀ i, (X i).calm = true
  nd : ∀ i, (X i).N.Nodup
  room : ∀ i, Room k (X i).A
  gd : ∀ i, (X i).A.guards = some []
  po : ∀ i, PassesOwn (model (X i).prog (X i).w) (X i).A (X i).env (X i).xe
abbrev blkX {ι : Type} (X : ι → Cx) (scope : Scope) : ι × Shared × Hp × Addr × List (Str × Addr) × List Addr → Cx := fun j =>
  (X j.1).blk j.2.1 j.2.2.1 scope (compEnvC scope j.2.2.2.2.1 j.2.2.2.1 (X j.1).env) j.2.2.2.2.2
theorem Cok.blk {ι : Type} {X : ι → Cx} {K : PySem.W.Frag} {k : Nat} (C : Cok X K k) (scope : Scope) : Cok (blkX X scope) K k :=
  ⟨fun j => C.hK j.1, fun j => C.calm j.1, fun j => C.nd j.1, fun j => C.room j.1, fun j => C.gd j.1, fun j => PassesOwn.never⟩
theorem Cok.mono {ι : Type} {X : ι → Cx} {K : PySem.W.Frag} {j k : Nat} (C : Cok X K k) (h : j ≤ k) : Cok X K j := ⟨C.hK, C.calm, C.nd, fun i => (C.room i).mono h, C.gd, C.po⟩
theorem bodyX_ok {P : Program} {w : World} {K : PySem.W.Frag} {mg : Str → Option Value} {base : Heap} {N ps : List Str} {qual : Str} {sc : Scope} {f : Addr} {k : Nat} (S : FnScope N ps sc) : Cok (bodyX P w K mg base N qual sc f k) K k :=
  ⟨fun _ => rfl, fun _ => rfl, fun _ => S.nd, fun i => i.2.1, fun i => i.2.2, fun _ => PassesOwn.never⟩
section
variable {ι : Type} (X : ι → Cx) (K : PySem.W.Frag) (m : List Nat)
def DE (e : Expr) (F : En → Option D) : Prop := ∃ t : TE, (∀ i, PE (X i) e t) ∧ SemP K m t F
def DM (e : Expr) (G : En → Option (D × En)) : Prop := ∃ t : TE, (∀ i, PE (X i) e t) ∧ Sem K m t G
def DF (e : Expr) (G : En → Option (D × En)) : Prop := ∃ t : TE, (∀ i, PE (X i) e t) ∧ SemF K m t G
def DT (e : Expr) (F : En → Option Bool) : Prop := ∃ t : TT, (∀ i, PT (X i) e t) ∧ SemPT K m t F
def DTM (e : Expr) (F : En → Option (Bool × En)) : Prop := ∃ t : TT, (∀ i, PT (X i) e t) ∧ SemT K m t F
def DW (e : Expr) (F : En → Option Bool) : Prop := ∃ t : TT, (∀ i, PW (X i) e t) ∧ SemPT K m t F
def DWM (e : Expr) (F : En → Option (Bool × En)) : Prop := ∃ t : TT, (∀ i, PW (X i) e t) ∧ SemT K m t F
def DA (es : List Expr) (F : En → Option (List D)) : Prop := ∃ t : TA, (∀ i, PA (X i) es t) ∧ SemPA K m t F
def DAM (es : List Expr) (F : En → Option (List D × En)) : Prop := ∃ t : TA, (∀ i, PA (X i) es t) ∧ SemA K m t F
def DK (es : List Keyword) (F : En → Option (List D)) : Prop := ∃ t : TA, (∀ i, PK (X i) es t) ∧ SemPA K m t F
def DTs (ifs : List Expr) (F : En → Option Bool) : Prop := ∃ t : TT, (∀ i, PTs (X i) ifs t) ∧ SemPT K m t F
def DTsM (ifs : List Expr) (F : En → Option (Bool × En)) : Prop := ∃ t : TT, (∀ i, PTs (X i) ifs t) ∧ SemT K m t F
def DI (tg e : Expr) (F : En → Option (List D)) : Prop := ∃ t : TI, (∀ i, PI (X i) tg e t) ∧ SemPI K m t F
def DIM (tg e : Expr) (F : En → Option (List D × En)) : Prop := ∃ t : TI, (∀ i, PI (X i) tg e t) ∧ SemI K m t F
def DG (ts : List Nat) (e : Expr) (Gt : D → En → Option En) : Prop := ∃ g : TG, (∀ i, PG (X i) e g) ∧ SemG K m ts g Gt
def DGs (n : Nat) (ts : List Nat) (es : List Expr) (Gt : List D → En → Option En) : Prop := ∃ g : TGs, (∀ i, PGs (X i) es g) ∧ SemGs K m ts g Gt ∧ ∀ ds env e, Gt ds env = some e → ds.length = n
end
def DS {ι : Type} (X : ι → Cx) (K : PySem.W.Frag) (fr : Bool) (pn m ml m' : List Nat) (st : Stmt) (F : En → Option Out) : Prop := ∃ t : TS, (∀ i, PS (X i) st t) ∧ SemS K fr pn m ml m' t F
section
variable {ι : Type} {X : ι → Cx} {K : PySem.W.Frag} {k : Nat} {m : List Nat} {a b e : Expr} {es : List Expr} {pos : Pos} {F Fa Fb : En → Option D} {G Ga Gb : En → Option (D × En)}
theorem DE.up (h : DE X K m e F) : DM X K m e (up F) := let ⟨t, p, s⟩ := h; ⟨t, p, s.up⟩
theorem DA.up {Fl : En → Option (List D)} (h : DA X K m es Fl) : DAM X K m es (up Fl) := let ⟨t, p, s⟩ := h; ⟨t, p, s.up⟩
theorem DT.up {Ft : En → Option Bool} (h : DT X K m e Ft) : DTM X K m e (CS.up Ft) := let ⟨t, p, s⟩ := h; ⟨t, p, s.up⟩
theorem DTs.up {Ft : En → Option Bool} (h : DTs X K m es Ft) : DTsM X K m es (CS.up Ft) := let ⟨t, p, s⟩ := h; ⟨t, p, s.up⟩
theorem DI.up {tg : Expr} {Fl : En → Option (List D)} (h : DI X K m tg e Fl) : DIM X K m tg e (CS.up Fl) := let ⟨t, p, s⟩ := h; ⟨t, p, s.up⟩
theorem DF.dm (h : DF X K m e G) : DM X K m e G := let ⟨t, p, s⟩ := h; ⟨t, p, s.sem⟩
/-! names, constants -/
theorem eN (j : Nat) {x : Str} (hj : j ∉ m := by decide) (hN : ∀ i, (X i).N[j]? = some x := by intro _; rfl) (hv : ∀ i, Vis (X i).env.scope x := by intro _; first | exact Or.inl rfl | exact Or.inr (Or.inl rfl) | exact Or.inr (Or.inr rfl))
    (hd : (x == ("__debug__" : Str)) = false := by decide) (hcd : (x == ("__classdict__" : Str)) = false := by decide) : DE X K m (.Name x pos) (gv j) := ⟨_, fun i => pe_var (hN i) (hv i) hd hcd, semP_var hj⟩
theorem eI {z : Int} {j : Nat} : DE X K m (.Constant (.int z) j pos) (fun _ => some (.int z)) := ⟨_, fun _ => pe_int, semP_c fun _ => .int z⟩
theorem eB {z : Bool} {j : Nat} : DE X K m (.Constant (.bool z) j pos) (fun _ => some (.bool z)) := ⟨_, fun _ => pe_bl, semP_c fun _ => .bl z⟩
theorem eZ {j : Nat} : DE X K m (.Constant .none j pos) (fun _ => some .none) := ⟨_, fun _ => pe_non, semP_c fun _ => .non⟩
theorem eS {z : Str} {j : Nat} : DE X K m (.Constant (.str z) j pos) (fun _ => some (.str z)) := ⟨_, fun _ => pe_str, semP_c fun _ => .str z⟩
/-- a constant of the module: an int, a text -/
theorem eGI {x : Str} {z : Int} {mg : Str → Option Value} (hm : ∃ t, mg x = some (.int z t)) (hmg : ∀ i, (X i).mg = mg := by intro _; rfl) (hg : ∀ i, Gl (X i) x := by intro _; rfl) (hd : (x == ("__debug__" : Str)) = false := by decide) : DE X K m (.Name x pos) (fun _ => some (.int z)) :=
  let ⟨t, h⟩ := hm; ⟨_, fun i => pe_glob (hg i) (by rw [hmg i]; exact h) (v := .int z) ⟨t, rfl⟩ hd, semP_c fun _ => .int z⟩
theorem eGS {x : Str} {z : Str} {mg : Str → Option Value} (hm : ∃ t, mg x = some (.str z t)) (hmg : ∀ i, (X i).mg = mg := by intro _; rfl) (hg : ∀ i, Gl (X i) x := by intro _; rfl) (hd : (x == ("__debug__" : Str)) = false := by decide) : DE X K m (.Name x pos) (fun _ => some (.str z)) :=
  let ⟨t, h⟩ := hm; ⟨_, fun i => pe_glob (hg i) (by rw [hmg i]; exact h) (v := .str z) ⟨t, rfl⟩ hd, semP_c fun _ => .str z⟩
/-! operators -/
theorem eBin {op : Operator} {r : PySem.W.Frag → R2} {g : D → D → Option D} (hr : ∀ X, OpR X (binaryOp op) (r X.K)) (hg : OpD K (r K) g) (C : Cok X K k) (ha : DE X K m a Fa) (hb : DE X K m b Fb) : DE X K m (.BinOp a op b pos) (f2 g Fa Fb) := by
  obtain ⟨ta, pa, sa⟩ := ha
  obtain ⟨tb, pb, sb⟩ := hb
  exact ⟨_, fun i => pe_op (by have h := hr (X i); rw [C.hK i] at h; exact h) (pa i) (pb i), semP_op hg sa sb⟩
theorem mBin {op : Operator} {r : PySem.W.Frag → R2} {g : D → D → Option D} (hr : ∀ X, OpR X (binaryOp op) (r X.K)) (hg : OpD K (r K) g) (C : Cok X K k) (ha : DM X K m a Ga) (hb : DM X K m b Gb) : DM X K m (.BinOp a op b pos) (g2 g Ga Gb) := by
  obtain ⟨ta, pa, sa⟩ := ha
  obtain ⟨tb, pb, sb⟩ := hb
  exact ⟨_, fun i => pe_op (by have h := hr (X i); rw [C.hK i] at h; exact h) (pa i) (pb i), sem_op hg sa sb⟩
theorem eAdd (C : Cok X K k) (ha : DE X K m a Fa) (hb : DE X K m b Fb) : DE X K m (.BinOp a .Add b pos) (f2 dAdd Fa Fb) := eBin (r := rAddU) (fun _ => op_addU) opd_add C ha hb
theorem eSub (C : Cok X K k) (ha : DE X K m a Fa) (hb : DE X K m b Fb) : DE X K m (.BinOp a .Sub b pos) (f2 dSub Fa Fb) := eBin (r := fun _ => rI0 fun i j => .int (i - j)) (fun _ => op_sub) opd_I0 C ha hb
theorem eMul (C : Cok X K k) (ha : DE X K m a Fa) (hb : DE X K m b Fb) : DE X K m (.BinOp a .Mult b pos) (f2 dMul Fa Fb) := eBin (r := rMulU) (fun _ => op_mulU) opd_mul C ha hb
theorem eFdiv (C : Cok X K k) (ha : DE X K m a Fa) (hb : DE X K m b Fb) : DE X K m (.BinOp a .FloorDiv b pos) (f2 dFdiv Fa Fb) := eBin (r := fun _ => rI COkDiv fun i j => .int (i.fdiv j)) (fun _ => op_fdivU) opd_I C ha hb
theorem eMod (C : Cok X K k) (ha : DE X K m a Fa) (hb : DE X K m b Fb) : DE X K m (.BinOp a .Mod b pos) (f2 dMod Fa Fb) := eBin (r := fun _ => rI CNe0 fun i j => .int (i.fmod j)) (fun _ => op_modU) opd_I C ha hb
theorem ePow (C : Cok X K k) (ha : DE X K m a Fa) (hb : DE X K m b Fb) : DE X K m (.BinOp a .Pow b pos) (f2 dPow Fa Fb) := eBin (r := fun _ => rI CPowU fun i j => .int (i ^ j.toNat)) (fun _ => op_powU) opd_I C ha hb
theorem eShl (C : Cok X K k) (ha : DE X K m a Fa) (hb : DE X K m b Fb) : DE X K m (.BinOp a .LShift b pos) (f2 dShl Fa Fb) := eBin (r := fun _ => rI L2.CPow fun i j => .int (i * 2 ^ j.toNat)) (fun _ => op_shl) opd_I C ha hb
theorem eShr (C : Cok X K k) (ha : DE X K m a Fa) (hb : DE X K m b Fb) : DE X K m (.BinOp a .RShift b pos) (f2 dShr Fa Fb) := eBin (r := fun _ => rI CNn fun i j => .int (i / 2 ^ j.toNat)) (fun _ => op_shrU) opd_I C ha hb
theorem eOr (C : Cok X K k) (ha : DE X K m a Fa) (hb : DE X K m b Fb) : DE X K m (.BinOp a .BitOr b pos) (f2 dOr Fa Fb) := eBin (r := fun _ => rI0 fun i j => .int (Builtin.bitOr i j)) (fun _ => op_or) opd_I0 C ha hb
theorem eAnd (C : Cok X K k) (ha : DE X K m a Fa) (hb : DE X K m b Fb) : DE X K m (.BinOp a .BitAnd b pos) (f2 dAnd Fa Fb) := eBin (r := fun _ => rI0 fun i j => .int (Builtin.bitAnd i j)) (fun _ => op_and) opd_I0 C ha hb
theorem mAdd (C : Cok X K k) (ha : DM X K m a Ga) (hb : DM X K m b Gb) : DM X K m (.BinOp a .Add b pos) (g2 dAdd Ga Gb) := mBin (r := rAddU) (fun _ => op_addU) opd_add C ha hb
theorem mSub (C : Cok X K k) (ha : DM X K m a Ga) (hb : DM X K m b Gb) : DM X K m (.BinOp a .Sub b pos) (g2 dSub Ga Gb) := mBin (r := fun _ => rI0 fun i j => .int (i - j)) (fun _ => op_sub) opd_I0 C ha hb
theorem mMul (C : Cok X K k) (ha : DM X K m a Ga) (hb : DM X K m b Gb) : DM X K m (.BinOp a .Mult b pos) (g2 dMul Ga Gb) := mBin (r := rMulU) (fun _ => op_mulU) opd_mul C ha hb
theorem mFdiv (C : Cok X K k) (ha : DM X K m a Ga) (hb : DM X K m b Gb) : DM X K m (.BinOp a .FloorDiv b pos) (g2 dFdiv Ga Gb) := mBin (r := fun _ => rI COkDiv fun i j => .int (i.fdiv j)) (fun _ => op_fdivU) opd_I C ha hb
theorem mMod (C : Cok X K k) (ha : DM X K m a Ga) (hb : DM X K m b Gb) : DM X K m (.BinOp a .Mod b pos) (g2 dMod Ga Gb) := mBin (r := fun _ => rI CNe0 fun i j => .int (i.fmod j)) (fun _ => op_modU) opd_I C ha hb
theorem eNeg (ha : DE X K m a Fa) : DE X K m (.UnaryOp .USub a pos) (f1 dNeg Fa) := let ⟨t, p, s⟩ := ha; ⟨_, fun i => pe_un un_neg (p i), semP_un und_neg s⟩
/-! comparisons -/
theorem eCmp {op : CmpOp} {r : PySem.W.Frag → R2} {g : D → D → Option D} (hr : ∀ i, OpR (X i) (compareOp op) (r (X i).K)) (hg : OpD K (r K) g) (C : Cok X K k) (ha : DE X K m a Fa) (hb : DE X K m b Fb) (hm : behindInMarks op b = false) : DE X K m (.Compare a [op] [b] pos) (f2 g Fa Fb) := by
  obtain ⟨ta, pa, sa⟩ := ha
  obtain ⟨tb, pb, sb⟩ := hb
  exact ⟨_, fun i => pe_cmpR (by have h := hr i; rw [C.hK i] at h; exact h) (pa i) (pb i) hm, semP_op hg sa sb⟩
theorem mCmp {op : CmpOp} {r : PySem.W.Frag → R2} {g : D → D → Option D} (hr : ∀ i, OpR (X i) (compareOp op) (r (X i).K)) (hg : OpD K (r K) g) (C : Cok X K k) (ha : DM X K m a Ga) (hb : DM X K m b Gb) (hm : behindInMarks op b = false) : DM X K m (.Compare a [op] [b] pos) (g2 g Ga Gb) := by
  obtain ⟨ta, pa, sa⟩ := ha
  obtain ⟨tb, pb, sb⟩ := hb
  exact ⟨_, fun i => pe_cmpR (by have h := hr i; rw [C.hK i] at h; exact h) (pa i) (pb i) hm, sem_op hg sa sb⟩
theorem tCmp' {op : CmpOp} {r : PySem.W.Frag → R2} {g : D → D → Option D} (hr : ∀ i, OpR (X i) (compareOp op) (r (X i).K)) (hg : OpD K (r K) g) (C : Cok X K k) (ha : DE X K m a Fa) (hb : DE X K m b Fb) (hm : behindInMarks op b = false) : DT X K m (.Compare a [op] [b] pos) (fTest (f2 g Fa Fb)) := by
  obtain ⟨ta, pa, sa⟩ := ha
  obtain ⟨tb, pb, sb⟩ := hb
  exact ⟨_, fun i => pt_cmpR (by have h := hr i; rw [C.hK i] at h; exact h) (pa i) (pb i) hm, semPT_test (semP_op hg sa sb)⟩
theorem tmCmp {op : CmpOp} {r : PySem.W.Frag → R2} {g : D → D → Option D} (hr : ∀ i, OpR (X i) (compareOp op) (r (X i).K)) (hg : OpD K (r K) g) (C : Cok X K k) (ha : DM X K m a Ga) (hb : DM X K m b Gb) (hm : behindInMarks op b = false) : DTM X K m (.Compare a [op] [b] pos) (gTest (g2 g Ga Gb)) := by
  obtain ⟨ta, pa, sa⟩ := ha
  obtain ⟨tb, pb, sb⟩ := hb
  exact ⟨_, fun i => pt_cmpR (by have h := hr i; rw [C.hK i] at h; exact h) (pa i) (pb i) hm, semT_test (sem_op hg sa sb)⟩
/-- the rules of the single comparisons, to be handed to eCmp, tCmp', mCmp, tmCmp -/
structure CR2 (X : ι → Cx) (K : PySem.W.Frag) (op : CmpOp) (r : PySem.W.Frag → R2) (g : D → D → Option D) : Prop where
  o : ∀ i, OpR (X i) (compareOp op) (r (X i).K)
  d : OpD K (r K) g
theorem cLt : CR2 X K .Lt (fun _ => rI0 fun i j => .bl (decide (i < j))) dLt := ⟨fun _ => op_lt, opd_cmp⟩
theorem cLe : CR2 X K .LtE (fun _ => rI0 fun i j => .bl (decide (i ≤ j))) dLe := ⟨fun _ => op_le, opd_cmp⟩
theorem cGt : CR2 X K .Gt (fun _ => rI0 fun i j => .bl (decide (j < i))) dGt := ⟨fun _ => op_gt, opd_cmp⟩
theorem cGe : CR2 X K .GtE (fun _ => rI0 fun i j => .bl (decide (j ≤ i))) dGe := ⟨fun _ => op_ge, opd_cmp⟩
theorem cEq (C : Cok X K k) : CR2 X K .Eq (fun K => rEqU K) (dEq false) := ⟨fun i => op_eqU (C.room i).units, opd_eq⟩
theorem cNe (C : Cok X K k) : CR2 X K .NotEq (fun K => rNeU K) (dEq true) := ⟨fun i => op_neU (C.room i).units, opd_ne⟩
theorem cLtT (C : Cok X K k) : CR2 X K .Lt (fun K => rLtT K) dLtT := ⟨fun i => op_ltT (C.room i).units0, opd_ltT⟩
theorem cIsN : CR2 X K .Is (fun _ => fun x y H Q => y = .non ∧ Q (.bl (decide (x = .non))) H) dIsN := ⟨fun _ => op_isN, opd_isN⟩
theorem cNotN : CR2 X K .IsNot (fun _ => fun x y H Q => y = .non ∧ Q (.bl (!decide (x = .non))) H) dNotN := ⟨fun _ => op_notN, opd_notN⟩
theorem cIn (C : Cok X K k) : CR2 X K .In (fun K => rInD K) (dIn false) := ⟨fun i => op_inD (by have := (C.room i).un; omega), opd_in⟩
theorem cNotIn (C : Cok X K k) : CR2 X K .NotIn (fun K => rNotInD K) (dIn true) := ⟨fun i => op_notInD (by have := (C.room i).un; omega), opd_notIn⟩
variable {op op' : CmpOp} {r r' : PySem.W.Frag → R2} {g g' : D → D → Option D}
theorem eC (C : Cok X K k) (h : CR2 X K op r g) (ha : DE X K m a Fa) (hb : DE X K m b Fb) (hm : behindInMarks op b = false := by first | exact nomark _ | with_unfolding_all rfl) : DE X K m (.Compare a [op] [b] pos) (f2 g Fa Fb) := eCmp h.o h.d C ha hb hm
theorem mC (C : Cok X K k) (h : CR2 X K op r g) (ha : DM X K m a Ga) (hb : DM X K m b Gb) (hm : behindInMarks op b = false := by first | exact nomark _ | with_unfolding_all rfl) : DM X K m (.Compare a [op] [b] pos) (g2 g Ga Gb) := mCmp h.o h.d C ha hb hm
theorem tC' (C : Cok X K k) (h : CR2 X K op r g) (ha : DE X K m a Fa) (hb : DE X K m b Fb) (hm : behindInMarks op b = false := by first | exact nomark _ | with_unfolding_all rfl) : DT X K m (.Compare a [op] [b] pos) (fTest (f2 g Fa Fb)) := tCmp' h.o h.d C ha hb hm
theorem tmC (C : Cok X K k) (h : CR2 X K op r g) (ha : DM X K m a Ga) (hb : DM X K m b Gb) (hm : behindInMarks op b = false := by first | exact nomark _ | with_unfolding_all rfl) : DTM X K m (.Compare a [op] [b] pos) (gTest (g2 g Ga Gb)) := tmCmp h.o h.d C ha hb hm
theorem eCh {c : Expr} {Fc : En → Option D} (C : Cok X K k) (h : CR2 X K op r g) (h' : CR2 X K op' r' g') (ha : DE X K m a Fa) (hb : DE X K m b Fb) (hc : DE X K m c Fc) (hm : lastMarks [op, op'] [b, c] = false := by with_unfolding_all rfl) : DE X K m (.Compare a [op, op'] [b, c] pos) (fChain g g' Fa Fb Fc) := by
  obtain ⟨ta, pa, sa⟩ := ha
  obtain ⟨tb, pb, sb⟩ := hb
  obtain ⟨tc, pc, sc⟩ := hc
  exact ⟨_, fun i => pe_chain (by have q := h.o i; rw [C.hK i] at q; exact q) (by have q := h'.o i; rw [C.hK i] at q; exact q) (pa i) (pb i) (pc i) hm, semP_chain h.d h'.d sa sb sc⟩
theorem tCh {c : Expr} {Fc : En → Option D} (C : Cok X K k) (h : CR2 X K op r g) (h' : CR2 X K op' r' g') (ha : DE X K m a Fa) (hb : DE X K m b Fb) (hc : DE X K m c Fc) (hm : lastMarks [op, op'] [b, c] = false := by with_unfolding_all rfl) : DT X K m (.Compare a [op, op'] [b, c] pos) (fTest (fChain g g' Fa Fb Fc)) := by
  obtain ⟨ta, pa, sa⟩ := ha
  obtain ⟨tb, pb, sb⟩ := hb
  obtain ⟨tc, pc, sc⟩ := hc
  exact ⟨_, fun i => pt_chain (by have q := h.o i; rw [C.hK i] at q; exact q) (by have q := h'.o i; rw [C.hK i] at q; exact q) (pa i) (pb i) (pc i) hm, semPT_test (semP_chain h.d h'.d sa sb sc)⟩
/-! tests -/
theorem tV (h : DE X K m e F) (he : ∀ i whole, isTrue e (X i).env whole = (do let v ← whole; standAt e.pos; holding [v] (truthy v)) := by intro _ _; rfl) : DT X K m e (fTest F) := let ⟨t, p, s⟩ := h; ⟨_, fun i => pt_val (p i) (he i), semPT_B s⟩
theorem tmV (h : DM X K m e G) (he : ∀ i whole, isTrue e (X i).env whole = (do let v ← whole; standAt e.pos; holding [v] (truthy v)) := by intro _ _; rfl) : DTM X K m e (gTest G) := let ⟨t, p, s⟩ := h; ⟨_, fun i => pt_val (p i) (he i), semT_B s⟩
variable {rest : List Expr} {Ft Fu : En → Option Bool} {Gt Gu : En → Option (Bool × En)}
theorem tNot' (h : DT X K m a Ft) : DT X K m (.UnaryOp .Not a pos) (fNot Ft) := let ⟨t, p, s⟩ := h; ⟨_, fun i => pt_not (p i), semPT_not s⟩
theorem tmNot (h : DTM X K m a Gt) : DTM X K m (.UnaryOp .Not a pos) (gNot Gt) := let ⟨t, p, s⟩ := h; ⟨_, fun i => pt_not (p i), semT_not s⟩
theorem wAnd1 (h : DT X K m a Ft) : DW X K m (.BoolOp .And [a] pos) Ft := let ⟨t, p, s⟩ := h; ⟨_, fun i => pw_and1 (p i), s⟩
theorem wOr1 (h : DT X K m a Ft) : DW X K m (.BoolOp .Or [a] pos) Ft := let ⟨t, p, s⟩ := h; ⟨_, fun i => pw_or1 (p i), s⟩
theorem wAnd (h : DT X K m a Ft) (h2 : DW X K m (.BoolOp .And (b :: rest) pos) Fu) : DW X K m (.BoolOp .And (a :: b :: rest) pos) (fAnd Ft Fu) := let ⟨_, p, s⟩ := h; let ⟨_, p2, s2⟩ := h2; ⟨_, fun i => pw_and (p i) (p2 i), semPT_and s s2⟩
theorem wOr (h : DT X K m a Ft) (h2 : DW X K m (.BoolOp .Or (b :: rest) pos) Fu) : DW X K m (.BoolOp .Or (a :: b :: rest) pos) (fOr Ft Fu) := let ⟨_, p, s⟩ := h; let ⟨_, p2, s2⟩ := h2; ⟨_, fun i => pw_or (p i) (p2 i), semPT_or s s2⟩
theorem DW.t (h : DW X K m e Ft) : DT X K m e Ft := let ⟨t, p, s⟩ := h; ⟨_, fun i => (p i).pt, s⟩
theorem wmAnd1 (h : DTM X K m a Gt) : DWM X K m (.BoolOp .And [a] pos) Gt := let ⟨t, p, s⟩ := h; ⟨_, fun i => pw_and1 (p i), s⟩
theorem wmOr1 (h : DTM X K m a Gt) : DWM X K m (.BoolOp .Or [a] pos) Gt := let ⟨t, p, s⟩ := h; ⟨_, fun i => pw_or1 (p i), s⟩
theorem wmAnd (h : DTM X K m a Gt) (h2 : DWM X K m (.BoolOp .And (b :: rest) pos) Gu) : DWM X K m (.BoolOp .And (a :: b :: rest) pos) (gAnd Gt Gu) := let ⟨_, p, s⟩ := h; let ⟨_, p2, s2⟩ := h2; ⟨_, fun i => pw_and (p i) (p2 i), semT_and s s2⟩
theorem wmOr (h : DTM X K m a Gt) (h2 : DWM X K m (.BoolOp .Or (b :: rest) pos) Gu) : DWM X K m (.BoolOp .Or (a :: b :: rest) pos) (gOr Gt Gu) := let ⟨_, p, s⟩ := h; let ⟨_, p2, s2⟩ := h2; ⟨_, fun i => pw_or (p i) (p2 i), semT_or s s2⟩
theorem DWM.t (h : DWM X K m e Gt) : DTM X K m e Gt := let ⟨t, p, s⟩ := h; ⟨_, fun i => (p i).pt, s⟩
theorem eOne {bo : BoolOp} (h : DE X K m a Fa) : DE X K m (.BoolOp bo [a] pos) Fa := let ⟨t, p, s⟩ := h; ⟨_, fun i => pe_one (p i), s⟩
theorem eAndV (h : DE X K m a Fa) (h2 : DE X K m (.BoolOp .And (b :: rest) pos) Fb) : DE X K m (.BoolOp .And (a :: b :: rest) pos) (fAndV Fa Fb) := let ⟨_, p, s⟩ := h; let ⟨_, p2, s2⟩ := h2; ⟨_, fun i => pe_and (p i) (p2 i), semP_andV s s2⟩
theorem eOrV (h : DE X K m a Fa) (h2 : DE X K m (.BoolOp .Or (b :: rest) pos) Fb) : DE X K m (.BoolOp .Or (a :: b :: rest) pos) (fOrV Fa Fb) := let ⟨_, p, s⟩ := h; let ⟨_, p2, s2⟩ := h2; ⟨_, fun i => pe_or (p i) (p2 i), semP_orV s s2⟩
theorem eNotV (h : DE X K m a Fa) : DE X K m (.UnaryOp .Not a pos) (fNotV Fa) := let ⟨t, p, s⟩ := h; ⟨_, fun i => pe_not (p i), semP_notV s⟩
theorem eIf {c : Expr} (h : DT X K m c Ft) (ha : DE X K m a Fa) (hb : DE X K m b Fb) : DE X K m (.IfExp c a b pos) (fIf Ft Fa Fb) := let ⟨_, p, s⟩ := h; let ⟨_, p2, s2⟩ := ha; let ⟨_, p3, s3⟩ := hb; ⟨_, fun i => pe_ifExp (p i) (p2 i) (p3 i), semP_if s s2 s3⟩
theorem mIf {c : Expr} (h : DTM X K m c Gt) (ha : DM X K m a Ga) (hb : DM X K m b Gb) : DM X K m (.IfExp c a b pos) (gIf Gt Ga Gb) := let ⟨_, p, s⟩ := h; let ⟨_, p2, s2⟩ := ha; let ⟨_, p3, s3⟩ := hb; ⟨_, fun i => pe_ifExp (p i) (p2 i) (p3 i), sem_if s s2 s3⟩
/-! argument lists, displays -/
variable {Fl : En → Option (List D)} {Gl' : En → Option (List D × En)}
theorem aN : DA X K m [] fNil := ⟨_, fun _ => pa_nil, semPA_nil⟩
theorem aC (h : DE X K m e F) (hr : DA X K m es Fl) (hs : ∀ i, starEach (e :: es) (X i).env = (false, eval e (X i).env) :: starEach es (X i).env := by intro _; rfl) : DA X K m (e :: es) (fCons F Fl) := let ⟨_, p, s⟩ := h; let ⟨_, p2, s2⟩ := hr; ⟨_, fun i => pa_cons (p i) (p2 i) (hs i), semPA_cons s s2⟩
theorem amN : DAM X K m [] gNilE := ⟨_, fun _ => pa_nil, semA_nil⟩
theorem amC (h : DM X K m e G) (hr : DAM X K m es Gl') (hs : ∀ i, starEach (e :: es) (X i).env = (false, eval e (X i).env) :: starEach es (X i).env := by intro _; rfl) : DAM X K m (e :: es) (gConsE G Gl') := let ⟨_, p, s⟩ := h; let ⟨_, p2, s2⟩ := hr; ⟨_, fun i => pa_cons (p i) (p2 i) (hs i), semA_cons s s2⟩
theorem kN : DK X K m [] fNil := ⟨_, fun _ => pk_nil, semPA_nil⟩
theorem kC {nm : Option Str} {kpos : Pos} {kws : List Keyword} (h : DE X K m e F) (hr : DK X K m kws Fl) : DK X K m (⟨nm, e, kpos⟩ :: kws) (fCons F Fl) := let ⟨_, p, s⟩ := h; let ⟨_, p2, s2⟩ := hr; ⟨_, fun i => pk_cons (p i) (p2 i), semPA_cons s s2⟩
theorem eL (h : DA X K m es Fl) : DE X K m (.List es pos) (fLst Fl) := let ⟨_, p, s⟩ := h; ⟨_, fun i => pe_lst (p i), semP_lst s⟩
theorem eT {x1} (h : DA X K m es Fl) : DE X K m (.Tuple es x1 pos) (fTup Fl) := let ⟨_, p, s⟩ := h; ⟨_, fun i => pe_tup (p i), semP_tup s⟩
theorem mL (h : DAM X K m es Gl') : DM X K m (.List es pos) (gLstE Gl') := let ⟨_, p, s⟩ := h; ⟨_, fun i => pe_lst (p i), sem_lst s⟩
theorem mT {x1} (h : DAM X K m es Gl') : DM X K m (.Tuple es x1 pos) (gTupE Gl') := let ⟨_, p, s⟩ := h; ⟨_, fun i => pe_tup (p i), sem_tup s⟩
theorem fL (h : DAM X K m es Gl') : DF X K m (.List es pos) (gLstE Gl') := let ⟨_, p, s⟩ := h; ⟨_, fun i => pe_lst (p i), semF_lst s⟩
/-! subscripts -/
theorem eIx (C : Cok X K k) (ha : DE X K m a Fa) (hb : DE X K m b Fb) (hs : PlainIx b := by exact fun _ _ => rfl) : DE X K m (.Subscript a b pos) (f2 dIx Fa Fb) := by
  obtain ⟨ta, pa, sa⟩ := ha
  obtain ⟨tb, pb, sb⟩ := hb
  exact ⟨_, fun i => pe_ix (by have h := @ix_U (X i); rw [C.hK i] at h; exact h) (pa i) (pb i) hs, semP_op opd_ix sa sb⟩
theorem mIx (C : Cok X K k) (ha : DM X K m a Ga) (hb : DM X K m b Gb) (hs : PlainIx b := by exact fun _ _ => rfl) : DM X K m (.Subscript a b pos) (g2 dIx Ga Gb) := by
  obtain ⟨ta, pa, sa⟩ := ha
  obtain ⟨tb, pb, sb⟩ := hb
  exact ⟨_, fun i => pe_ix (by have h := @ix_U (X i); rw [C.hK i] at h; exact h) (pa i) (pb i) hs, sem_op opd_ix sa sb⟩
/-- xs[i], xs an owned list -/
theorem mIxO (j : Nat) {x : Str} {pos' : Pos} (C : Cok X K k) (hb : DM X K m b Gb) (hj : j ∈ m := by decide) (hs : PlainIx b := by exact fun _ _ => rfl) (hN : ∀ i, (X i).N[j]? = some x := by intro _; rfl) (hv : ∀ i, Vis (X i).env.scope x := by intro _; first | exact Or.inl rfl | exact Or.inr (Or.inl rfl) | exact Or.inr (Or.inr rfl))
    (hd : (x == ("__debug__" : Str)) = false := by decide) (hcd : (x == ("__classdict__" : Str)) = false := by decide) : DM X K m (.Subscript (.Name x pos') b pos) (fIxO j Gb) := by
  obtain ⟨tb, pb, sb⟩ := hb
  exact ⟨_, fun i => pe_ix (by have h := @ix_list (X i); rw [C.hK i] at h; exact h) (pe_var (hN i) (hv i) hd hcd) (pb i) hs, sem_ixO sb hj⟩
/-- slice bounds -/
def DO (X : ι → Cx) (K : PySem.W.Frag) (m : List Nat) (e : Option Expr) (F : En → Option (Option Int)) : Prop := ∃ t : TO, (∀ i, PO (X i) e t) ∧ ∀ env σ S H, Rel K m env σ S H → ∀ d, F env = some d → ∀ Q : Option Int → Hp → Prop, (∀ S' H', Gz S H S' H' → Q d H') → t σ H Q
theorem oN : DO X K m none (fun _ => some none) := ⟨_, fun _ => po_none, fun env σ S H R d e Q q => by cases e; exact q S H (Gz.refl R.ex R.sz)⟩
theorem oS (h : DE X K m e F) : DO X K m (some e) (fun env => ((F env).bind asI).map some) := by
  obtain ⟨t, p, s⟩ := h
  refine ⟨_, fun i => po_some (p i), fun env σ S H R d ee Q q => ?_⟩
  obtain ⟨i, ei, rfl⟩ := map_some ee
  obtain ⟨a, ea, ei⟩ := bind_some ei
  have := asI_some ei; subst this
  exact s env σ S H R _ ea _ fun v S1 H1 k1 r => ⟨i, r.int_inv, q S1 H1 k1⟩
def fSl (F : En → Option D) (Fl Fh : En → Option (Option Int)) : En → Option D := fun env => (F env).bind fun a => (Fl env).bind fun l => (Fh env).bind fun h => dSl l h a
theorem eSl {lo hi : Option Expr} {p2 : Pos} {Flo Fhi : En → Option (Option Int)} (C : Cok X K k) (h : DE X K m e F) (hl : DO X K m lo Flo) (hh : DO X K m hi Fhi) : DE X K m (.Subscript e (.Slice lo hi none p2) pos) (fSl F Flo Fhi) := by
  obtain ⟨t, p, s⟩ := h
  obtain ⟨t2, p2, s2⟩ := hl
  obtain ⟨t3, p3, s3⟩ := hh
  refine ⟨_, fun i => pe_slice (by have h := @sl_U (X i); rw [C.hK i] at h; exact h) (p i) (p2 i) (p3 i), fun env σ S H R d ee Q q => ?_⟩
  obtain ⟨a, ea, ee⟩ := bind_some ee
  obtain ⟨l, el, ee⟩ := bind_some ee
  obtain ⟨u, eu, ee⟩ := bind_some ee
  exact s env σ S H R a ea _ fun v S1 H1 k1 r => s2 env σ S1 H1 (R.gz k1) l el _ fun S2 H2 k2 => s3 env σ S2 H2 ((R.gz k1).gz k2) u eu _ fun S3 H3 k3 =>
    sld k3.x k3.z (r.mono (k2.s.trans k3.s)) ee Q fun w S4 H4 k4 r4 => q w S4 H4 (((k1.trans k2).trans k3).trans k4) r4
/-! calls of built-ins -/
theorem eCB {id : String} {x : Str} {p : Pos} {mg : Str → Option Value} {r : PySem.W.Frag → List V → Hp → VK → Prop} {g : List D → Option D} (hc : ∀ i, CallR (X i) (.builtin id) (r (X i).K)) (hg : CallD K (r K) g) (C : Cok X K k) (hmg : mg x = none) (hv : bootBuiltins x = some (.builtin id)) (ha : DA X K m (e :: es) Fl)
    (hm : ∀ i, (X i).mg = mg := by intro _; rfl) (hgl : ∀ i, Gl (X i) x := by intro _; rfl) (hn : x ≠ "__name__" := by decide) (hdb : (x == ("__debug__" : Str)) = false := by decide) (he : ∀ i, starEach (e :: es) (X i).env = (false, eval e (X i).env) :: starEach es (X i).env := by intro _; rfl) (hpl : ∀ i, (backTo pos (starEach es (X i).env)).any (·.1) = false := by intro _; rfl) :
    DE X K m (.Call (.Name x p) (e :: es) [] pos) (fCall g Fl) := by
  obtain ⟨t, pp, s⟩ := ha
  exact ⟨_, fun i => pe_callB (by have h := hc i; rw [C.hK i] at h; exact h) (hgl i) (by rw [hm i]; exact hmg) hv (pp i) hn hdb (he i) (hpl i), semP_call hg s⟩
theorem mCB {id : String} {x : Str} {p : Pos} {mg : Str → Option Value} {r : PySem.W.Frag → List V → Hp → VK → Prop} {g : List D → Option D} (hc : ∀ i, CallR (X i) (.builtin id) (r (X i).K)) (hg : CallD K (r K) g) (C : Cok X K k) (hmg : mg x = none) (hv : bootBuiltins x = some (.builtin id)) (ha : DAM X K m (e :: es) Gl')
    (hm : ∀ i, (X i).mg = mg := by intro _; rfl) (hgl : ∀ i, Gl (X i) x := by intro _; rfl) (hn : x ≠ "__name__" := by decide) (hdb : (x == ("__debug__" : Str)) = false := by decide) (he : ∀ i, starEach (e :: es) (X i).env = (false, eval e (X i).env) :: starEach es (X i).env := by intro _; rfl) (hpl : ∀ i, (backTo pos (starEach es (X i).env)).any (·.1) = false := by intro _; rfl) :
    DM X K m (.Call (.Name x p) (e :: es) [] pos) (gCall g Gl') := by
  obtain ⟨t, pp, s⟩ := ha
  exact ⟨_, fun i => pe_callB (by have h := hc i; rw [C.hK i] at h; exact h) (hgl i) (by rw [hm i]; exact hmg) hv (pp i) hn hdb (he i) (hpl i), sem_call hg s⟩
theorem eCTy {T : String} {x : Str} {p : Pos} {mg : Str → Option Value} {r : PySem.W.Frag → List V → Hp → VK → Prop} {g : List D → Option D} (hc : ∀ i, CallR (X i) (.type T) (r (X i).K)) (hg : CallD K (r K) g) (C : Cok X K k) (hmg : mg x = none) (hv : bootBuiltins x = some (.type T)) (ha : DA X K m (e :: es) Fl)
    (hm : ∀ i, (X i).mg = mg := by intro _; rfl) (hgl : ∀ i, Gl (X i) x := by intro _; rfl) (hn : x ≠ "__name__" := by decide) (hdb : (x == ("__debug__" : Str)) = false := by decide) (he : ∀ i, starEach (e :: es) (X i).env = (false, eval e (X i).env) :: starEach es (X i).env := by intro _; rfl) (hpl : ∀ i, (backTo pos (starEach es (X i).env)).any (·.1) = false := by intro _; rfl) :
    DE X K m (.Call (.Name x p) (e :: es) [] pos) (fCall g Fl) := by
  obtain ⟨t, pp, s⟩ := ha
  exact ⟨_, fun i => pe_callTy (by have h := hc i; rw [C.hK i] at h; exact h) (hgl i) (by rw [hm i]; exact hmg) hv (pp i) hn hdb (he i) (hpl i), semP_call hg s⟩
theorem mCTy {T : String} {x : Str} {p : Pos} {mg : Str → Option Value} {r : PySem.W.Frag → List V → Hp → VK → Prop} {g : List D → Option D} (hc : ∀ i, CallR (X i) (.type T) (r (X i).K)) (hg : CallD K (r K) g) (C : Cok X K k) (hmg : mg x = none) (hv : bootBuiltins x = some (.type T)) (ha : DAM X K m (e :: es) Gl')
    (hm : ∀ i, (X i).mg = mg := by intro _; rfl) (hgl : ∀ i, Gl (X i) x := by intro _; rfl) (hn : x ≠ "__name__" := by decide) (hdb : (x == ("__debug__" : Str)) = false := by decide) (he : ∀ i, starEach (e :: es) (X i).env = (false, eval e (X i).env) :: starEach es (X i).env := by intro _; rfl) (hpl : ∀ i, (backTo pos (starEach es (X i).env)).any (·.1) = false := by intro _; rfl) :
    DM X K m (.Call (.Name x p) (e :: es) [] pos) (gCall g Gl') := by
  obtain ⟨t, pp, s⟩ := ha
  exact ⟨_, fun i => pe_callTy (by have h := hc i; rw [C.hK i] at h; exact h) (hgl i) (by rw [hm i]; exact hmg) hv (pp i) hn hdb (he i) (hpl i), sem_call hg s⟩
/-- a built-in function's rule, to be handed to eF, mF -/
structure BR (X : ι → Cx) (K : PySem.W.Frag) (id : String) (r : PySem.W.Frag → List V → Hp → VK → Prop) (g : List D → Option D) : Prop where
  o : ∀ i, CallR (X i) (.builtin id) (r (X i).K)
  d : CallD K (r K) g
structure TR (X : ι → Cx) (K : PySem.W.Frag) (T : String) (r : PySem.W.Frag → List V → Hp → VK → Prop) (g : List D → Option D) : Prop where
  o : ∀ i, CallR (X i) (.type T) (r (X i).K)
  d : CallD K (r K) g
theorem bLen : BR X K "len" (fun K => rLenQ K) dLen := ⟨fun _ => call_len_seq, calld_len⟩
theorem bAbs : BR X K "abs" (fun _ xs H Q => ∃ i, xs = [.int i] ∧ Q (.int (if i < 0 then -i else i)) H) dAbs := ⟨fun _ => call_abs, calld_abs⟩
theorem bMax (C : Cok X K k) : BR X K "max" (fun K => rMaxU K) dMax := ⟨fun i => cr_maxU (C.calm i), calld_max⟩
theorem bMin (C : Cok X K k) : BR X K "min" (fun K => rMinU K) dMin := ⟨fun i => cr_minU (C.calm i), calld_min⟩
theorem bSum (C : Cok X K k) : BR X K "sum" (fun K => rSum K) dSum := ⟨fun i => cr_sum (C.calm i), calld_sum⟩
theorem bAll (C : Cok X K k) : BR X K "all" (fun K => rAll K) dAll := ⟨fun i => cr_all (C.calm i), calld_all⟩
theorem bAny (C : Cok X K k) : BR X K "any" (fun K => rAny K) dAny := ⟨fun i => cr_any (C.calm i), calld_any⟩
theorem bRepr (C : Cok X K k) : BR X K "repr" (fun K => rReprD K) dRepr := ⟨fun i => cr_repr (C.gd i) (by have := (C.room i).un; omega), calld_repr⟩
theorem bSorted : BR X K "sorted" (fun K => CS.rSortU K) dSorted := ⟨fun _ => cr_sortU, calld_sorted⟩
theorem tyInt : TR X K "int" (fun _ xs H Q => (∃ i, xs = [.int i] ∧ Q (.int i) H) ∨ ∃ k, xs = [.bl k] ∧ Q (.int (if k then 1 else 0)) H) dInt := ⟨fun _ => call_int1, calld_int⟩
theorem eF {id : String} {x : Str} {p : Pos} {mg : Str → Option Value} {r : PySem.W.Frag → List V → Hp → VK → Prop} {g : List D → Option D} (h : BR X K id r g) (C : Cok X K k) (hmg : mg x = none) (ha : DA X K m (e :: es) Fl) (hv : bootBuiltins x = some (.builtin id) := by decide +kernel)
    (hm : ∀ i, (X i).mg = mg := by intro _; rfl) (hgl : ∀ i, Gl (X i) x := by intro _; rfl) (hn : x ≠ "__name__" := by decide) (hdb : (x == ("__debug__" : Str)) = false := by decide) (he : ∀ i, starEach (e :: es) (X i).env = (false, eval e (X i).env) :: starEach es (X i).env := by intro _; rfl) (hpl : ∀ i, (backTo pos (starEach es (X i).env)).any (·.1) = false := by intro _; rfl) :
    DE X K m (.Call (.Name x p) (e :: es) [] pos) (fCall g Fl) := eCB h.o h.d C hmg hv ha hm hgl hn hdb he hpl
theorem mF {id : String} {x : Str} {p : Pos} {mg : Str → Option Value} {r : PySem.W.Frag → List V → Hp → VK → Prop} {g : List D → Option D} (h : BR X K id r g) (C : Cok X K k) (hmg : mg x = none) (ha : DAM X K m (e :: es) Gl') (hv : bootBuiltins x = some (.builtin id) := by decide +kernel)
    (hm : ∀ i, (X i).mg = mg := by intro _; rfl) (hgl : ∀ i, Gl (X i) x := by intro _; rfl) (hn : x ≠ "__name__" := by decide) (hdb : (x == ("__debug__" : Str)) = false := by decide) (he : ∀ i, starEach (e :: es) (X i).env = (false, eval e (X i).env) :: starEach es (X i).env := by intro _; rfl) (hpl : ∀ i, (backTo pos (starEach es (X i).env)).any (·.1) = false := by intro _; rfl) :
    DM X K m (.Call (.Name x p) (e :: es) [] pos) (gCall g Gl') := mCB h.o h.d C hmg hv ha hm hgl hn hdb he hpl
theorem eTy {T : String} {x : Str} {p : Pos} {mg : Str → Option Value} {r : PySem.W.Frag → List V → Hp → VK → Prop} {g : List D → Option D} (h : TR X K T r g) (C : Cok X K k) (hmg : mg x = none) (ha : DA X K m (e :: es) Fl) (hv : bootBuiltins x = some (.type T) := by decide +kernel)
    (hm : ∀ i, (X i).mg = mg := by intro _; rfl) (hgl : ∀ i, Gl (X i) x := by intro _; rfl) (hn : x ≠ "__name__" := by decide) (hdb : (x == ("__debug__" : Str)) = false := by decide) (he : ∀ i, starEach (e :: es) (X i).env = (false, eval e (X i).env) :: starEach es (X i).env := by intro _; rfl) (hpl : ∀ i, (backTo pos (starEach es (X i).env)).any (·.1) = false := by intro _; rfl) :
    DE X K m (.Call (.Name x p) (e :: es) [] pos) (fCall g Fl) := eCTy h.o h.d C hmg hv ha hm hgl hn hdb he hpl
theorem mTy {T : String} {x : Str} {p : Pos} {mg : Str → Option Value} {r : PySem.W.Frag → List V → Hp → VK → Prop} {g : List D → Option D} (h : TR X K T r g) (C : Cok X K k) (hmg : mg x = none) (ha : DAM X K m (e :: es) Gl') (hv : bootBuiltins x = some (.type T) := by decide +kernel)
    (hm : ∀ i, (X i).mg = mg := by intro _; rfl) (hgl : ∀ i, Gl (X i) x := by intro _; rfl) (hn : x ≠ "__name__" := by decide) (hdb : (x == ("__debug__" : Str)) = false := by decide) (he : ∀ i, starEach (e :: es) (X i).env = (false, eval e (X i).env) :: starEach es (X i).env := by intro _; rfl) (hpl : ∀ i, (backTo pos (starEach es (X i).env)).any (·.1) = false := by intro _; rfl) :
    DM X K m (.Call (.Name x p) (e :: es) [] pos) (gCall g Gl') := mCTy h.o h.d C hmg hv ha hm hgl hn hdb he hpl
/-- what reads an owned list and is flat -/
theorem eO (j : Nat) {m2 : List Nat} (h : DE X K m2 e F) (hj : j ∈ m := by decide) (hm : m2 = m.filter (· ≠ j) := by decide) : DE X K m e (fFlat F) := let ⟨t, p, s⟩ := h; ⟨t, p, semP_flat s hj hm⟩
end
end CS

/-! CsH: calls of own defs, comprehensions, statements. -/
namespace CS
open PySem PySem.Spec PyProof.Rows L2
open Evl (Ex ex_l ex_t)
/-! ### contexts that look at one program -/
structure Cw {ι : Type} (X : ι → Cx) (P : Program) (w : World) (K : PySem.W.Frag) (mg : Str → Option Value) (base : Heap) (k : Nat) : Prop extends Cok X K k where
  hP : ∀ i, (X i).prog = P
  hw : ∀ i, (X i).w = w
  hm : ∀ i, (X i).mg = mg
  hb : ∀ i, (X i).base = base
section
variable {ι : Type} {X : ι → Cx} {P : Program} {w : World} {K : PySem.W.Frag} {mg : Str → Option Value} {base : Heap} {k j : Nat}
theorem Cw.blk (C : Cw X P w K mg base k) (scope : Scope) : Cw (blkX X scope) P w K mg base k := ⟨C.toCok.blk scope, fun j => C.hP j.1, fun j => C.hw j.1, fun j => C.hm j.1, fun j => C.hb j.1⟩
theorem bodyX_at {N ps : List Str} {qual : Str} {sc : Scope} {f : Addr} (S : FnScope N ps sc) : Cw (bodyX P w K mg base N qual sc f k) P w K mg base k := ⟨bodyX_ok S, fun _ => rfl, fun _ => rfl, fun _ => rfl, fun _ => rfl⟩
end
/-! ### a def that may be called -/
structure Fn (P : Program) (w : World) (K : PySem.W.Frag) (mg : Str → Option Value) (base : Heap) (k : Nat) (x : Str) (st : Stmt) (ps : List Str) (sp : Sp) : Prop where
  ex : ∃ (f : Addr) (fd : FuncData), Fun K x x st f fd ∧ FnG P w K mg base CX0 k f fd ps sp ∧ mg x = some (.ref f) ∧ Binds K fd ps []
section
variable {P : Program} {w : World} {K : PySem.W.Frag} {mg : Str → Option Value} {base : Heap} {j k : Nat} {x : Str} {st : Stmt} {ps : List Str} {sp : Sp}
theorem Fn.mono (F : Fn P w K mg base j x st ps sp) (h : j ≤ k) : Fn P w K mg base k x st ps sp := let ⟨f, fd, a, b, c, d⟩ := F.ex; ⟨f, fd, a, b.mono h, c, d⟩
theorem Fn.imp {sp' : Sp} (F : Fn P w K mg base k x st ps sp) (h : ∀ vs H Q E, sp' vs H Q E → sp vs H Q E) : Fn P w K mg base k x st ps sp' := let ⟨f, fd, a, b, c, d⟩ := F.ex; ⟨f, fd, a, b.imp h, c, d⟩
/-- binding by keyword, by computation -/
def KwB (x : Str) (st : Stmt) (ps : List Str) (n : Nat) (ks : List Str) (pm : List Nat) : Prop := ∀ (kV doc pmv : Value) (an : Option Addr) (cdv ct : Value) (us ws : List Value), us.length = n → ws.length = ks.length →
  bindArgs (PySem.W.fnOf x x (defArgs st) (defBody st) (defScope st) .none kV doc pmv an cdv ct) ⟨us, ks.zip ws⟩ = pure (ps.zip (pm.filterMap fun i => (us ++ ws)[i]?))
theorem fun_kb {f : Addr} {fd : FuncData} {n : Nat} {ks : List Str} {pm : List Nat} (F : Fun K x x st f fd) (h : KwB x st ps n ks pm) : KB K fd ps n ks pm := by
  obtain ⟨oc, od, kV, doc, pmv, an, cdv, ct, osl, rfl, lk, hcd⟩ := F.ex
  exact fun s us ws _ l1 l2 => .of_eq (h kV doc pmv an cdv ct us ws l1 l2)
end
section
variable {ι : Type} {X : ι → Cx} {P : Program} {w : World} {K : PySem.W.Frag} {mg : Str → Option Value} {base : Heap} {k j : Nat} {m : List Nat} {x : Str} {st : Stmt} {ps : List Str} {e : Expr} {es : List Expr} {p pos : Pos} {Fl Fk : En → Option (List D)} {Ga Gk : En → Option (List D × En)}
theorem pCall {sp : Sp} {t : TA} (C : Cw X P w K mg base k) (F : Fn P w K mg base j x st ps sp) (ha : ∀ i, PA (X i) (e :: es) t) (hjk : j ≤ k)
    (hgl : ∀ i, Gl (X i) x) (hdb : (x == ("__debug__" : Str)) = false) (he : ∀ i, starEach (e :: es) (X i).env = (false, eval e (X i).env) :: starEach es (X i).env) (hpl : ∀ i, (backTo pos (starEach es (X i).env)).any (·.1) = false) (i : ι) :
    PE (X i) (.Call (.Name x p) (e :: es) [] pos) (tCall sp [] (fun _ _ _ => False) t) := by
  obtain ⟨f, fd, hF, hG, hmg, hB⟩ := F.ex
  have a1 := C.hP i; have a2 := C.hw i; have a3 := C.hK i; have a4 := C.hm i; have a5 := C.hb i
  subst a1 a2 a3 a4 a5
  exact pe_callG hG ((C.room i).mono hjk) (C.gd i) (hgl i) hmg hF.kp hB (fun _ _ _ _ _ _ _ h => h.elim) (ha i) hdb (he i) (hpl i)
/-- f(e, ..), pure -/
theorem eCall {g : List D → Option D} (C : Cw X P w K mg base k) (F : Fn P w K mg base j x st ps (spP K g)) (ha : DA X K m (e :: es) Fl) (hjk : j ≤ k := by omega)
    (hgl : ∀ i, Gl (X i) x := by intro _; rfl) (hdb : (x == ("__debug__" : Str)) = false := by decide) (he : ∀ i, starEach (e :: es) (X i).env = (false, eval e (X i).env) :: starEach es (X i).env := by intro _; rfl) (hpl : ∀ i, (backTo pos (starEach es (X i).env)).any (·.1) = false := by intro _; rfl) :
    DE X K m (.Call (.Name x p) (e :: es) [] pos) (fCall g Fl) := let ⟨_, pp, s⟩ := ha; ⟨_, pCall C F pp hjk hgl hdb he hpl, semP_callP s⟩
theorem mCall {g : List D → Option D} (C : Cw X P w K mg base k) (F : Fn P w K mg base j x st ps (spP K g)) (ha : DAM X K m (e :: es) Ga) (hjk : j ≤ k := by omega)
    (hgl : ∀ i, Gl (X i) x := by intro _; rfl) (hdb : (x == ("__debug__" : Str)) = false := by decide) (he : ∀ i, starEach (e :: es) (X i).env = (false, eval e (X i).env) :: starEach es (X i).env := by intro _; rfl) (hpl : ∀ i, (backTo pos (starEach es (X i).env)).any (·.1) = false := by intro _; rfl) :
    DM X K m (.Call (.Name x p) (e :: es) [] pos) (gCall g Ga) := let ⟨_, pp, s⟩ := ha; ⟨_, pCall C F pp hjk hgl hdb he hpl, sem_callP s⟩
/-- a fresh list, owned at once -/
theorem fCallF {g : List D → Option D} (C : Cw X P w K mg base k) (F : Fn P w K mg base j x st ps (spF K g)) (ha : DAM X K m (e :: es) Ga) (hjk : j ≤ k := by omega)
    (hgl : ∀ i, Gl (X i) x := by intro _; rfl) (hdb : (x == ("__debug__" : Str)) = false := by decide) (he : ∀ i, starEach (e :: es) (X i).env = (false, eval e (X i).env) :: starEach es (X i).env := by intro _; rfl) (hpl : ∀ i, (backTo pos (starEach es (X i).env)).any (·.1) = false := by intro _; rfl) :
    DF X K m (.Call (.Name x p) (e :: es) [] pos) (gCall g Ga) := let ⟨_, pp, s⟩ := ha; ⟨_, pCall C F pp hjk hgl hdb he hpl, semF_callF s⟩
/-- a fresh list, shared at once -/
theorem eCallF {g : List D → Option D} (C : Cw X P w K mg base k) (F : Fn P w K mg base j x st ps (spF K g)) (ha : DA X K m (e :: es) Fl) (hjk : j ≤ k := by omega)
    (hgl : ∀ i, Gl (X i) x := by intro _; rfl) (hdb : (x == ("__debug__" : Str)) = false := by decide) (he : ∀ i, starEach (e :: es) (X i).env = (false, eval e (X i).env) :: starEach es (X i).env := by intro _; rfl) (hpl : ∀ i, (backTo pos (starEach es (X i).env)).any (·.1) = false := by intro _; rfl) :
    DE X K m (.Call (.Name x p) (e :: es) [] pos) (fCall g Fl) := let ⟨_, pp, s⟩ := ha; ⟨_, pCall C F pp hjk hgl hdb he hpl, semP_callF s⟩
/-- the first argument an owned list that the def changes -/
theorem mCallM (n : Nat) {y : Str} {py : Pos} {g : List D → List D → Option (D × List D)} (C : Cw X P w K mg base k) (F : Fn P w K mg base j x st ps (spM K g)) (ha : DAM X K m es Ga) (hn : n ∈ m := by decide) (hjk : j ≤ k := by omega)
    (hN : ∀ i, (X i).N[n]? = some y := by intro _; rfl) (hv : ∀ i, Vis (X i).env.scope y := by intro _; first | exact Or.inl rfl | exact Or.inr (Or.inl rfl) | exact Or.inr (Or.inr rfl))
    (hd : (y == ("__debug__" : Str)) = false := by decide) (hcd : (y == ("__classdict__" : Str)) = false := by decide)
    (hgl : ∀ i, Gl (X i) x := by intro _; rfl) (hdb : (x == ("__debug__" : Str)) = false := by decide) (he : ∀ i, starEach (.Name y py :: es) (X i).env = (false, eval (.Name y py) (X i).env) :: starEach es (X i).env := by intro _; rfl) (hpl : ∀ i, (backTo pos (starEach es (X i).env)).any (·.1) = false := by intro _; rfl) :
    DM X K m (.Call (.Name x p) (.Name y py :: es) [] pos) (gCallM n g Ga) := by
  obtain ⟨t, pp, s⟩ := ha
  exact ⟨_, pCall C F (fun i => pa_cons (pe_var (hN i) (hv i) hd hcd) (pp i) (he i)) hjk hgl hdb he hpl, sem_callM s hn⟩
/-- keywords alone -/
theorem pCallK0 {sp : Sp} {tk : TA} {kws : List Keyword} {ks : List Str} {pm : List Nat} (C : Cw X P w K mg base k) (F : Fn P w K mg base j x st ps sp) (hkb : KwB x st ps 0 ks pm) (ha : ∀ i, PK (X i) kws tk) (hjk : j ≤ k)
    (hgl : ∀ i, Gl (X i) x) (hdb : (x == ("__debug__" : Str)) = false) (hall : ∀ i, (backToKw pos (keywordEach kws (X i).env)).all (·.1.isSome) = true) (hks : ∀ i, (backToKw pos (keywordEach kws (X i).env)).filterMap (·.1) = ks)
    (hpl : ∀ i, ((backTo pos (starEach [] (X i).env)).any (·.1) || (backToKw pos (keywordEach kws (X i).env)).any (·.1.isNone)) = false) (i : ι) :
    PE (X i) (.Call (.Name x p) [] kws pos) (tCallKG 0 ks.length sp pm (fun _ _ _ => False) tNil tk) := by
  obtain ⟨f, fd, hF, hG, hmg, hB⟩ := F.ex
  have a1 := C.hP i; have a2 := C.hw i; have a3 := C.hK i; have a4 := C.hm i; have a5 := C.hb i
  subst a1 a2 a3 a4 a5
  exact pe_callKG0 hG ((C.room i).mono hjk) (C.gd i) (hgl i) hmg hF.kp (fun_kb hF hkb) (fun _ _ _ _ _ _ _ h => h.elim) (ha i) (hall i) (hks i) hdb (hpl i)
theorem RpAll.pick {H : Hp} {vs : List V} {ds : List D} (r : RpAll K H vs ds) : ∀ pm : List Nat, RpAll K H (CS.pick pm vs) (CS.pick pm ds)
  | [] => .nil
  | i :: pm => by
    unfold CS.pick
    cases h : vs[i]? with
    | none =>
      have h2 : ds[i]? = none := by
        rw [List.getElem?_eq_none_iff] at h ⊢
        rw [← r.length]; exact h
      rw [List.filterMap_cons, List.filterMap_cons, h, h2]
      exact RpAll.pick r pm
    | some v =>
      obtain ⟨d, hd, rd⟩ := r.get h
      rw [List.filterMap_cons, List.filterMap_cons, h, hd]
      exact .cons rd (RpAll.pick r pm)
def kwG (n : Nat) (pm : List Nat) (g : List D → Option D) : List D → Option D := fun ds => if ds.length = n then g (CS.pick pm ds) else none
theorem semP_callK0 {g : List D → Option D} {pm : List Nat} {n : Nat} {tk : TA} {E : XK} (hk : SemPA K m tk Fk) : SemP K m (tCallKG 0 n (spP K g) pm E tNil tk) (fCall (kwG n pm g) Fk) := fun env σ S H R d e Q q => by
  obtain ⟨a, ea, e⟩ := bind_some e
  unfold kwG at e
  split at e
  · rename_i hn
    refine hk env σ S H R a ea _ fun vs S1 H1 k1 r => ⟨rfl, r.length.trans hn, S1, _, d, k1.x, k1.z, RpAll.pick r pm, e, fun v S2 H2 k2 rv => q v S2 H2 (k1.trans k2) rv⟩
  · cases e
theorem eCallK {g : List D → Option D} {kws : List Keyword} {ks : List Str} {pm : List Nat} (C : Cw X P w K mg base k) (F : Fn P w K mg base j x st ps (spP K g)) (hkb : KwB x st ps 0 ks pm) (ha : DK X K m kws Fk) (hjk : j ≤ k := by omega)
    (hgl : ∀ i, Gl (X i) x := by intro _; rfl) (hdb : (x == ("__debug__" : Str)) = false := by decide) (hall : ∀ i, (backToKw pos (keywordEach kws (X i).env)).all (·.1.isSome) = true := by intro _; rfl) (hks : ∀ i, (backToKw pos (keywordEach kws (X i).env)).filterMap (·.1) = ks := by intro _; rfl)
    (hpl : ∀ i, ((backTo pos (starEach [] (X i).env)).any (·.1) || (backToKw pos (keywordEach kws (X i).env)).any (·.1.isNone)) = false := by intro _; rfl) :
    DE X K m (.Call (.Name x p) [] kws pos) (fCall (kwG ks.length pm g) Fk) := let ⟨_, pp, s⟩ := ha; ⟨_, pCallK0 C F hkb pp hjk hgl hdb hall hks hpl, semP_callK0 s⟩
/-- .. of a def that hands back a fresh list -/
theorem semP_callKF0 {g : List D → Option D} {pm : List Nat} {n : Nat} {tk : TA} {E : XK} (hk : SemPA K m tk Fk) : SemP K m (tCallKG 0 n (spF K g) pm E tNil tk) (fCall (kwG n pm g) Fk) := fun env σ S H R d e Q q => by
  obtain ⟨a, ea, e⟩ := bind_some e
  unfold kwG at e
  split at e
  · rename_i hn
    refine hk env σ S H R a ea _ fun vs S1 H1 k1 r => ⟨rfl, r.length.trans hn, S1, _, d, k1.x, k1.z, RpAll.pick r pm, e, ?_⟩
    intro p xs es S2 H2 hd k2 h1 h2 h3 h4
    subst hd
    refine q _ (upd S2 p (.lst xs)) H2 (k1.trans ⟨k2.s.trans (Ex.new h2), k2.h, fun a ha => ?_, fun a o e => ?_, k2.z⟩) (.lst upd_same (h4.mono (Ex.new h2)))
    · have : a ≠ p := fun e => ha (e ▸ h1)
      rw [upd_ne this]; exact k2.n a ha
    · by_cases c : a = p
      · subst c; rw [upd_same] at e; cases e; exact h3
      · rw [upd_ne c] at e; exact k2.x a o e
  · cases e
theorem eCallKF {g : List D → Option D} {kws : List Keyword} {ks : List Str} {pm : List Nat} (C : Cw X P w K mg base k) (F : Fn P w K mg base j x st ps (spF K g)) (hkb : KwB x st ps 0 ks pm) (ha : DK X K m kws Fk) (hjk : j ≤ k := by omega)
    (hgl : ∀ i, Gl (X i) x := by intro _; rfl) (hdb : (x == ("__debug__" : Str)) = false := by decide) (hall : ∀ i, (backToKw pos (keywordEach kws (X i).env)).all (·.1.isSome) = true := by intro _; rfl) (hks : ∀ i, (backToKw pos (keywordEach kws (X i).env)).filterMap (·.1) = ks := by intro _; rfl)
    (hpl : ∀ i, ((backTo pos (starEach [] (X i).env)).any (·.1) || (backToKw pos (keywordEach kws (X i).env)).any (·.1.isNone)) = false := by intro _; rfl) :
    DE X K m (.Call (.Name x p) [] kws pos) (fCall (kwG ks.length pm g) Fk) := let ⟨_, pp, s⟩ := ha; ⟨_, pCallK0 C F hkb pp hjk hgl hdb hall hks hpl, semP_callKF0 s⟩
end
/-! ### isinstance -/
def isiB (T : String) : D → Option Bool
  | .none => kitB "NoneType" T
  | .bool _ => kitB "bool" T
  | .int _ => kitB "int" T
  | .str _ => kitB "str" T
  | .list _ => kitB "list" T
  | .tuple _ => kitB "tuple" T
  | .dict _ => none
def dIsi (T : String) : List D → Option D
  | [d] => (isiB T d).map .bool
  | _ => none
section
variable {ι : Type} {X : ι → Cx} {K : PySem.W.Frag} {k : Nat} {m : List Nat} {e : Expr} {pos p p2 : Pos} {F : En → Option D} {G : En → Option (D × En)}
theorem isi_go {S H : Hp} {v : V} {d : D} {T : String} {b : Bool} {Q : VK} (x : Ex S H) (r : Rp K S v d) (e : isiB T d = some b) (q : Q (.bl b) H) : rIsi K [v, .ty T] H Q := by
  cases r with
  | non => exact ⟨_, _, _, _, b, rfl, .ty T, .base .non, kit_ty e, q⟩
  | bl y => exact ⟨_, _, _, _, b, rfl, .ty T, .base (.bl y), kit_ty e, q⟩
  | int i => exact ⟨_, _, _, _, b, rfl, .ty T, .base (.int i), kit_ty e, q⟩
  | str y => exact ⟨_, _, _, _, b, rfl, .ty T, .base (.str y), kit_ty e, q⟩
  | lst hs ha => exact ⟨_, _, _, _, b, rfl, .ty T, .base (.lst (x _ _ hs)), kit_ty e, q⟩
  | tup hs ha => exact ⟨_, _, _, _, b, rfl, .ty T, .base (.tup (x _ _ hs)), kit_ty e, q⟩
  | scr _ => cases e
theorem eIsi {T : String} {y : Str} {mg : Str → Option Value} (C : Cok X K k) (hmg : mg "isinstance" = none) (hmy : mg y = none) (h : DE X K m e F) (hv : bootBuiltins y = some (.type T) := by decide +kernel)
    (hm : ∀ i, (X i).mg = mg := by intro _; rfl) (hgl : ∀ i, Gl (X i) "isinstance" := by intro _; rfl) (hgy : ∀ i, Gl (X i) y := by intro _; rfl) (hy : y ≠ "__name__" := by decide) (hdy : (y == ("__debug__" : Str)) = false := by decide)
    (he : ∀ i, starEach [e, .Name y p2] (X i).env = (false, eval e (X i).env) :: starEach [.Name y p2] (X i).env := by intro _; rfl)
    (he2 : ∀ i, starEach [.Name y p2] (X i).env = (false, eval (.Name y p2) (X i).env) :: starEach [] (X i).env := by intro _; rfl) (hpl : ∀ i, (backTo pos (starEach [.Name y p2] (X i).env)).any (·.1) = false := by intro _; rfl) :
    DE X K m (.Call (.Name "isinstance" p) [e, .Name y p2] [] pos) (fCall (dIsi T) (fCons F fNil)) := by
  obtain ⟨t, pp, s⟩ := h
  refine ⟨_, fun i => pe_callB (by have h := @call_isi (X i); rw [C.hK i] at h; exact h) (hgl i) (by rw [hm i]; exact hmg) PyProof.Rows.boot_isinstance (pa_cons (pp i) (pa_cons (pe_bltn (v := .ty T) (hgy i) (by rw [hm i]; exact hmy) hv rfl hy hdy) pa_nil (he2 i)) (he i)) (by decide) (by decide) (he i) (hpl i), fun env σ S H R d e Q q => ?_⟩
  obtain ⟨as, ea, e⟩ := bind_some e
  obtain ⟨a, ea1, e2⟩ := bind_some ea
  cases e2
  obtain ⟨b, hb, rfl⟩ := map_some e
  exact s env σ S H R a ea1 _ fun v S1 H1 k1 r => isi_go k1.x r hb (q _ S1 H1 k1 (.bl b))
end
/-! ### what is walked -/
section
variable {ι : Type} {X : ι → Cx} {K : PySem.W.Frag} {k : Nat} {m : List Nat} {tg e : Expr} {pos p : Pos} {F : En → Option D} {Fl : En → Option (List D)}
theorem diL (C : Cok X K k) (h : DE X K m e F) : DI X K m tg e (fun env => (F env).bind asL) := let ⟨t, pp, s⟩ := h; ⟨iList K t, fun i => by have q := pi_list (tg := tg) (pp i); rw [C.hK i] at q; exact q, semPI_list s⟩
theorem diT (C : Cok X K k) (h : DE X K m e F) : DI X K m tg e (fun env => (F env).bind asT) := let ⟨t, pp, s⟩ := h; ⟨iTup K t, fun i => by have q := pi_tup (tg := tg) (pp i); rw [C.hK i] at q; exact q, semPI_tup s⟩
/-- a list or a tuple -/
def asS : D → Option (List D)
  | .list ds => some ds
  | .tuple ds => some ds
  | _ => none
theorem semPI_seq {te : TE} (h : SemP K m te F) : SemPI K m (fun σ H R => iList K te σ H R ∨ iTup K te σ H R) (fun env => (F env).bind asS) := fun env σ S H R ds e Q q => by
  obtain ⟨a, ea, e⟩ := bind_some e
  unfold asS at e
  split at e
  · cases e
    exact .inl (semPI_list h env σ S H R _ (by show (F env).bind asL = _; rw [ea]; rfl) Q q)
  · cases e
    exact .inr (semPI_tup h env σ S H R _ (by show (F env).bind asT = _; rw [ea]; rfl) Q q)
  · cases e
theorem pi_or {X : Cx} {w1 w2 : TI} (h1 : PI X tg e w1) (h2 : PI X tg e w2) : PI X tg e (fun σ H R => w1 σ H R ∨ w2 σ H R) := ⟨fun pins s σ H R I h => h.elim (h1.run pins s σ H R I) (h2.run pins s σ H R I)⟩
theorem diS (C : Cok X K k) (h : DE X K m e F) : DI X K m tg e (fun env => (F env).bind asS) := let ⟨t, pp, s⟩ := h; ⟨_, fun i => pi_or (by have q := pi_list (tg := tg) (pp i); rw [C.hK i] at q; exact q) (by have q := pi_tup (tg := tg) (pp i); rw [C.hK i] at q; exact q), semPI_seq s⟩
theorem semI_list {te : TE} {G : En → Option (D × En)} (h : Sem K m te G) : SemI K m (iList K te) (fun env => (G env).bind fun r => (asL r.1).map fun ds => (ds, r.2)) := fun env σ S H R ds env' e Q q => by
  obtain ⟨⟨a, e1⟩, ea, e⟩ := bind_some e
  obtain ⟨ds', ed, e⟩ := map_some e
  cases e
  cases asL_some ed
  refine h env σ S H R _ _ ea _ fun v S1 H1 k R1 r => ?_
  obtain ⟨p, xs, rfl, hs0, ha⟩ := r.list_inv
  have hs : SqL K S1 p xs := SqL.of hs0
  exact ⟨p, rfl, ⟨xs, ex_l R1.ex hs⟩, q _ S1 H1 k R1 (by rw [← ha.length]; exact R1.sz.list (ex_l R1.ex hs)) (walkD_list hs ha)⟩
theorem semI_tup {te : TE} {G : En → Option (D × En)} (h : Sem K m te G) : SemI K m (iTup K te) (fun env => (G env).bind fun r => (asT r.1).map fun ds => (ds, r.2)) := fun env σ S H R ds env' e Q q => by
  obtain ⟨⟨a, e1⟩, ea, e⟩ := bind_some e
  obtain ⟨ds', ed, e⟩ := map_some e
  cases e
  cases asT_some ed
  refine h env σ S H R _ _ ea _ fun v S1 H1 k R1 r => ?_
  obtain ⟨p, xs, rfl, hs0, ha⟩ := r.tuple_inv
  have hs : SqT K S1 p xs := SqT.of hs0
  exact ⟨p, rfl, ⟨xs, ex_t R1.ex hs⟩, q _ S1 H1 k R1 (by rw [← ha.length]; exact R1.sz.tup (ex_t R1.ex hs)) (walkD_tup hs ha)⟩
theorem semI_seq {te : TE} {G : En → Option (D × En)} (h : Sem K m te G) : SemI K m (fun σ H R => iList K te σ H R ∨ iTup K te σ H R) (fun env => (G env).bind fun r => (asS r.1).map fun ds => (ds, r.2)) := fun env σ S H R ds env' e Q q => by
  obtain ⟨⟨a, e1⟩, ea, e⟩ := bind_some e
  obtain ⟨ds', ed, e⟩ := map_some e
  cases e
  dsimp only at ed
  unfold asS at ed
  split at ed
  · cases ed
    exact .inl (semI_list h env σ S H R _ _ (by show (G env).bind _ = _; rw [ea]; rfl) Q q)
  · cases ed
    exact .inr (semI_tup h env σ S H R _ _ (by show (G env).bind _ = _; rw [ea]; rfl) Q q)
  · cases ed
theorem diSM {G : En → Option (D × En)} (C : Cok X K k) (h : DM X K m e G) : DIM X K m tg e (fun env => (G env).bind fun r => (asS r.1).map fun ds => (ds, r.2)) := let ⟨t, pp, s⟩ := h; ⟨_, fun i => pi_or (by have q := pi_list (tg := tg) (pp i); rw [C.hK i] at q; exact q) (by have q := pi_tup (tg := tg) (pp i); rw [C.hK i] at q; exact q), semI_seq s⟩
theorem diLM {G : En → Option (D × En)} (C : Cok X K k) (h : DM X K m e G) : DIM X K m tg e (fun env => (G env).bind fun r => (asL r.1).map fun ds => (ds, r.2)) := let ⟨t, pp, s⟩ := h; ⟨iList K t, fun i => by have q := pi_list (tg := tg) (pp i); rw [C.hK i] at q; exact q, semI_list s⟩
variable {mg : Str → Option Value} {a b : Expr}
theorem diR1 (C : Cok X K k) (hmg : mg "range" = none) (h : DA X K m [a] Fl) (hm : ∀ i, (X i).mg = mg := by intro _; rfl) (hgl : ∀ i, Gl (X i) "range" := by intro _; rfl) (hs : ∀ i, starEach [a] (X i).env = [(false, eval a (X i).env)] := by intro _; rfl) :
    DI X K m tg (.Call (.Name "range" p) [a] [] pos) (fun env => (Fl env).bind rng1) := let ⟨t, pp, s⟩ := h; ⟨iRng1 t, fun i => pi_range1 (hgl i) (by rw [hm i]; exact hmg) (pp i) (hs i), semPI_rng1 s⟩
theorem diR2 (C : Cok X K k) (hmg : mg "range" = none) (h : DA X K m [a, b] Fl) (hm : ∀ i, (X i).mg = mg := by intro _; rfl) (hgl : ∀ i, Gl (X i) "range" := by intro _; rfl)
    (hs : ∀ i, starEach [a, b] (X i).env = [(false, eval a (X i).env), (false, eval b (X i).env)] := by intro _; rfl) (hs2 : ∀ i, starEach [b] (X i).env = [(false, eval b (X i).env)] := by intro _; rfl) :
    DI X K m tg (.Call (.Name "range" p) [a, b] [] pos) (fun env => (Fl env).bind rng2) := let ⟨t, pp, s⟩ := h; ⟨iRng2 t, fun i => pi_range2 (hgl i) (by rw [hm i]; exact hmg) (pp i) (hs i) (hs2 i), semPI_rng2 s⟩
def enumA : List D → Option (List D) := fun as => match as with | [.list ds] => some (enumD ds) | _ => none
theorem semPI_enum {t : TA} {Fa : En → Option (List D)} (h : SemPA K m t Fa) : SemPI K m (iEnum K t) (fun env => (Fa env).bind enumA) := fun env σ S H R ds e Q q => by
  obtain ⟨a, ea, e⟩ := bind_some e
  unfold enumA at e
  split at e
  · rename_i ds'
    cases e
    refine h env σ S H R _ ea _ fun v S1 H1 k r => ?_
    obtain ⟨w, rfl, r1⟩ := r.one_inv
    obtain ⟨p, xs, rfl, hs0, ha⟩ := r1.list_inv
    have hs : SqL K S1 p xs := SqL.of hs0
    exact ⟨p, xs, rfl, ex_l k.x hs, q _ S1 H1 k (by rw [enumD_length, ← ha.length]; exact k.z.list (ex_l k.x hs)) (walkD_enum hs ha)⟩
  · cases e
def zipA : List D → Option (List D) := fun as => match as with | [.list ds, .list es] => some (zipD ds es) | _ => none
theorem semPI_zip {t : TA} {Fa : En → Option (List D)} (h : SemPA K m t Fa) : SemPI K m (iZip K t) (fun env => (Fa env).bind zipA) := fun env σ S H R ds e Q q => by
  obtain ⟨a, ea, e⟩ := bind_some e
  unfold zipA at e
  split at e
  · rename_i ds' es'
    cases e
    refine h env σ S H R _ ea _ fun v S1 H1 k r => ?_
    obtain ⟨w, w', rfl, r1, r2⟩ := r.two_inv
    obtain ⟨p, xs, rfl, hs0, ha⟩ := r1.list_inv
    obtain ⟨p', xs', rfl, hs0', ha'⟩ := r2.list_inv
    have hs : SqL K S1 p xs := SqL.of hs0
    have hs' : SqL K S1 p' xs' := SqL.of hs0'
    exact ⟨p, p', xs, xs', rfl, ex_l k.x hs, ex_l k.x hs', q _ S1 H1 k (by rw [zipD_length, ← ha.length]; have := k.z.list (ex_l k.x hs); omega) (walkD_zip hs ha hs' ha')⟩
  · cases e
theorem diE {elts : List Expr} {kk : Nat} {tpos : Pos} (C : Cok X K k) (hmg : mg "enumerate" = none) (h : DA X K m [a] Fl) (hm : ∀ i, (X i).mg = mg := by intro _; rfl) (hgl : ∀ i, Gl (X i) "enumerate" := by intro _; rfl) (hs : ∀ i, starEach [a] (X i).env = [(false, eval a (X i).env)] := by intro _; rfl) :
    DI X K m (.Tuple elts kk tpos) (.Call (.Name "enumerate" p) [a] [] pos) (fun env => (Fl env).bind enumA) := let ⟨t, pp, s⟩ := h; ⟨iEnum K t, fun i => by have q := pi_enum (elts := elts) (kk := kk) (tpos := tpos) (pos := pos) (p := p) (hgl i) (by rw [hm i]; exact hmg) (pp i) (hs i); rw [C.hK i] at q; exact q, semPI_enum s⟩
theorem diZ {elts : List Expr} {kk : Nat} {tpos : Pos} (C : Cok X K k) (hmg : mg "zip" = none) (h : DA X K m [a, b] Fl) (hm : ∀ i, (X i).mg = mg := by intro _; rfl) (hgl : ∀ i, Gl (X i) "zip" := by intro _; rfl)
    (hs : ∀ i, starEach [a, b] (X i).env = (false, eval a (X i).env) :: starEach [b] (X i).env := by intro _; rfl) (hpl : ∀ i, (backTo pos (starEach [b] (X i).env)).any (·.1) = false := by intro _; rfl) :
    DI X K m (.Tuple elts kk tpos) (.Call (.Name "zip" p) [a, b] [] pos) (fun env => (Fl env).bind zipA) := let ⟨t, pp, s⟩ := h; ⟨iZip K t, fun i => by have q := pi_zip (elts := elts) (kk := kk) (tpos := tpos) (pos := pos) (p := p) (hgl i) (by rw [hm i]; exact hmg) (pp i) (hs i) (hpl i); rw [C.hK i] at q; exact q, semPI_zip s⟩
/-! ### targets -/
theorem gN (j : Nat) {x : Str} (C : Cok X K k) (hj : j ∉ m := by decide) (hN : ∀ i, (X i).N[j]? = some x := by intro _; rfl) (hx : ∀ i, Loc (X i).env.scope x := by intro _; first | exact Or.inl rfl | exact Or.inr rfl)
    (hf : ∀ i, (X i).fn x = true ∨ (X i).env.scope.names.lookup x = some .local := by intro _; first | exact .inl rfl | exact .inr rfl) : DG X K m [j] (.Name x pos) (fun d env => some (setE j d env)) := ⟨_, fun i => pg_name (C.nd i) (hN i) (hx i) (hf i), semG_name hj⟩
theorem gsN : DGs X K m 0 [] [] tgNil := ⟨_, fun _ => pgs_nil, semGs_nil, tg_len0⟩
theorem gsC {ts us : List Nat} {es : List Expr} {n : Nat} {G1 : D → En → Option En} {G2 : List D → En → Option En} (h1 : DG X K m ts e G1) (h2 : DGs X K m n us es G2) (hs : ∀ i, (assignEach (e :: es) (X i).env).map (·.2) = assign e (X i).env :: (assignEach es (X i).env).map (·.2) := by intro _; rfl) :
    DGs X K m (n + 1) (ts ++ us) (e :: es) (tgCons G1 G2) := let ⟨_, p1, s1⟩ := h1; let ⟨_, p2, s2, l2⟩ := h2; ⟨_, fun i => pgs_cons (p1 i) (p2 i) (hs i), semGs_cons s1 s2, tg_lenS l2⟩
theorem gT {ts : List Nat} {es : List Expr} {n kk : Nat} {G : List D → En → Option En} (C : Cok X K k) (h : DGs X K m n ts es G) (hn : ∀ i, (assignEach es (X i).env).length = n := by intro _; rfl) (hst : ∀ i, (assignEach es (X i).env).findIdx? (·.1) = none := by intro _; rfl) : DG X K m ts (.Tuple es kk pos) (tgTup G) :=
  let ⟨t, pp, s, l⟩ := h; ⟨gTup K n t, fun i => by have q := pg_tup (pos := pos) (k := kk) (C.calm i) (pp i) (hn i) (hst i); rw [C.hK i] at q; exact q, semG_tup s l⟩
/-! ### comprehensions -/
theorem tsN : DTs X K m [] (fun _ => some true) := ⟨_, fun _ => pts_nil, semPT_yes⟩
theorem tsO {c : Expr} {Ft : En → Option Bool} (h : DT X K m c Ft) : DTs X K m [c] Ft := let ⟨_, pp, s⟩ := h; ⟨_, fun i => pts_one (pp i), s⟩
theorem tsmO {c : Expr} {Ft : En → Option (Bool × En)} (h : DTM X K m c Ft) : DTsM X K m [c] Ft := let ⟨_, pp, s⟩ := h; ⟨_, fun i => pts_one (pp i), s⟩
theorem tsmN : DTsM X K m [] (fun env => some (true, env)) := ⟨_, fun _ => pts_nil, semPT_yes.up⟩
end
section
variable {ι : Type} {X : ι → Cx} {K : PySem.W.Frag} {k : Nat} {m : List Nat} {elt tg iter : Expr} {ifs : List Expr} {scope : Scope} {own : List (Str × Nat)} {pos : Pos} {ts : List Nat} {Gt : D → En → Option En}
theorem eLc (own : List (Str × Nat)) {Fi : En → Option (List D)} {Ft : En → Option Bool} {Fe : En → Option D} (C : Cok X K k) (hi : DI X K m tg iter Fi) (hg : DG (blkX X scope) K m ts tg Gt) (ht : DTs (blkX X scope) K m ifs Ft) (he : DE (blkX X scope) K m elt Fe)
    (ok : ∀ i, BlkOk (X i).N (X i).env.scope scope own := by intro _; exact blkOk_by (by kernel_rfl)) (hv : ∀ i, i ∈ m → i ∉ own.map (·.2) := by decide) (hts : ∀ i, i ∈ ts → i ∈ own.map (·.2) := by decide) (hs : ∀ i x, foldedSetIterable iter (X i).env x = pure x := by intro _ _; rfl) :
    DE X K m (.ListComp elt [⟨tg, iter, ifs, 0⟩] scope pos) (lcF (own.map (·.2)) Fi Gt Ft Fe) := by
  obtain ⟨t1, p1, s1⟩ := hi; obtain ⟨t2, p2, s2⟩ := hg; obtain ⟨t3, p3, s3⟩ := ht; obtain ⟨t4, p4, s4⟩ := he
  exact ⟨_, fun i => pe_lc (C.calm i) (C.nd i) (p1 i) (ok i) (fun s H Ca cl fp => p2 ⟨i, s, H, Ca, cl, fp⟩) (fun s H Ca cl fp => p3 ⟨i, s, H, Ca, cl, fp⟩) (fun s H Ca cl fp => p4 ⟨i, s, H, Ca, cl, fp⟩) (hs i), semP_lc s1 s2 s3 s4 hv hts⟩
theorem fLc (own : List (Str × Nat)) {Fi : En → Option (List D × En)} {Ft : En → Option (Bool × En)} {Fe : En → Option (D × En)} (C : Cok X K k) (hi : DIM X K m tg iter Fi) (hg : DG (blkX X scope) K m ts tg Gt) (ht : DTsM (blkX X scope) K m ifs Ft) (he : DM (blkX X scope) K m elt Fe)
    (ok : ∀ i, BlkOk (X i).N (X i).env.scope scope own := by intro _; exact blkOk_by (by kernel_rfl)) (hv : ∀ i, i ∈ m → i ∉ own.map (·.2) := by decide) (hts : ∀ i, i ∈ ts → i ∈ own.map (·.2) := by decide) (hs : ∀ i x, foldedSetIterable iter (X i).env x = pure x := by intro _ _; rfl) :
    DF X K m (.ListComp elt [⟨tg, iter, ifs, 0⟩] scope pos) (lcG m (own.map (·.2)) Fi Gt Ft Fe) := by
  obtain ⟨t1, p1, s1⟩ := hi; obtain ⟨t2, p2, s2⟩ := hg; obtain ⟨t3, p3, s3⟩ := ht; obtain ⟨t4, p4, s4⟩ := he
  exact ⟨_, fun i => pe_lc (C.calm i) (C.nd i) (p1 i) (ok i) (fun s H Ca cl fp => p2 ⟨i, s, H, Ca, cl, fp⟩) (fun s H Ca cl fp => p3 ⟨i, s, H, Ca, cl, fp⟩) (fun s H Ca cl fp => p4 ⟨i, s, H, Ca, cl, fp⟩) (hs i), semF_lc s1 s2 s3 s4 hv hts⟩
/-! ### statements -/
variable {fr : Bool} {pn ml m1 m' : List Nat} {e : Expr} {st : Stmt} {rest : List Stmt} {F1 F2 : En → Option Out}
theorem ssN : DSs X K fr pn m ml m [] fNext := ⟨_, fun _ => pss_nil, semS_next⟩
theorem ssO (h : DS X K fr pn m ml m' st F1) : DSs X K fr pn m ml m' [st] F1 := let ⟨_, p, s⟩ := h; ⟨_, fun i => pss_one (p i), s⟩
theorem ssC (h : DS X K fr pn m ml m1 st F1) (h2 : DSs X K fr pn m1 ml m' rest F2) : DSs X K fr pn m ml m' (st :: rest) (fSeq F1 F2) := let ⟨_, p, s⟩ := h; let ⟨_, p2, s2⟩ := h2; ⟨_, fun i => pss_cons (p i) (p2 i), semS_seq s s2⟩
theorem ssX {sts : List Stmt} : DSs X K fr pn m ml m' sts (fun _ => none) := ⟨_, fun _ => pss_never, semS_never⟩
theorem sX : DS X K fr pn m ml m' st (fun _ => none) := ⟨_, fun _ => ps_never, semS_never⟩
theorem sPass : DS X K fr pn m ml m (.Pass pos) fNext := ⟨_, fun _ => ps_pass, semS_next⟩
theorem sBrk : DS X K fr pn m m m (.Break pos) (fun env => some (.bk env)) := ⟨_, fun _ => ps_break, semS_break⟩
theorem sCont : DS X K fr pn m m m (.Continue pos) (fun env => some (.ct env)) := ⟨_, fun _ => ps_continue, semS_cont⟩
theorem sI {c : Expr} {a b : List Stmt} {Ft : En → Option (Bool × En)} (h : DTM X K m c Ft) (h1 : DSs X K fr pn m ml m' a F1) (h2 : DSs X K fr pn m ml m' b F2) : DS X K fr pn m ml m' (.If c a b pos) (sIf Ft F1 F2) := let ⟨_, p, s⟩ := h; let ⟨_, p1, s1⟩ := h1; let ⟨_, p2, s2⟩ := h2; ⟨_, fun i => ps_if (p i) (p1 i) (p2 i), semS_if s s1 s2⟩
theorem sIP {c : Expr} {a b : List Stmt} {Ft : En → Option Bool} (h : DT X K m c Ft) (h1 : DSs X K fr pn m ml m' a F1) (h2 : DSs X K fr pn m ml m' b F2) : DS X K fr pn m ml m' (.If c a b pos) (sIfP Ft F1 F2) := let ⟨_, p, s⟩ := h; let ⟨_, p1, s1⟩ := h1; let ⟨_, p2, s2⟩ := h2; ⟨_, fun i => ps_if (p i) (p1 i) (p2 i), semS_ifP s s1 s2⟩
variable {Fe : En → Option D} {Ge : En → Option (D × En)}
theorem sSet (j : Nat) {x : Str} {px : Pos} (C : Cok X K k) (h : DE X K m e Fe) (hj : j ∉ m := by decide) (hp : j ∉ pn := by decide) (hN : ∀ i, (X i).N[j]? = some x := by intro _; rfl) (hx : ∀ i, Loc (X i).env.scope x := by intro _; first | exact Or.inl rfl | exact Or.inr rfl)
    (hs : ∀ i, swapsWith e (some (.Name x px)) pos.line (X i).env = pure false := by intro _; rfl) (hf : ∀ i, (X i).fn x = true ∨ (X i).env.scope.names.lookup x = some .local := by intro _; first | exact .inl rfl | exact .inr rfl) :
    DS X K fr pn m ml m (.Assign [.Name x px] e pos) (sAsgP Fe (fun d env => some (setE j d env))) := let ⟨_, p, s⟩ := h; ⟨_, fun i => ps_set (C.nd i) (hN i) (hx i) (p i) (hs i) (hf i), semS_asgP s (semG_name hj) (by intro i hi; simp; exact fun e => hp (e ▸ hi))⟩
theorem sSetM (j : Nat) {x : Str} {px : Pos} (C : Cok X K k) (h : DM X K m e Ge) (hj : j ∉ m := by decide) (hp : j ∉ pn := by decide) (hN : ∀ i, (X i).N[j]? = some x := by intro _; rfl) (hx : ∀ i, Loc (X i).env.scope x := by intro _; first | exact Or.inl rfl | exact Or.inr rfl)
    (hs : ∀ i, swapsWith e (some (.Name x px)) pos.line (X i).env = pure false := by intro _; rfl) (hf : ∀ i, (X i).fn x = true ∨ (X i).env.scope.names.lookup x = some .local := by intro _; first | exact .inl rfl | exact .inr rfl) :
    DS X K fr pn m ml m (.Assign [.Name x px] e pos) (sAsg Ge (fun d env => some (setE j d env))) := let ⟨_, p, s⟩ := h; ⟨_, fun i => ps_set (C.nd i) (hN i) (hx i) (p i) (hs i) (hf i), semS_asg s (semG_name hj) (by intro i hi; simp; exact fun e => hp (e ▸ hi))⟩
/-- x = a fresh list, x owns it -/
theorem sSetF (j : Nat) {x : Str} {px : Pos} (C : Cok X K k) (h : DF X K m e Ge) (hj : j ∉ m := by decide) (hp : j ∉ pn := by decide) (hN : ∀ i, (X i).N[j]? = some x := by intro _; rfl) (hx : ∀ i, Loc (X i).env.scope x := by intro _; first | exact Or.inl rfl | exact Or.inr rfl)
    (hs : ∀ i, swapsWith e (some (.Name x px)) pos.line (X i).env = pure false := by intro _; rfl) (hf : ∀ i, (X i).fn x = true ∨ (X i).env.scope.names.lookup x = some .local := by intro _; first | exact .inl rfl | exact .inr rfl) :
    DS X K fr pn m ml (j :: m) (.Assign [.Name x px] e pos) (sAsgF j Ge) := let ⟨_, p, s⟩ := h; ⟨_, fun i => ps_set (C.nd i) (hN i) (hx i) (p i) (hs i) (hf i), semS_asgF s hj hp⟩
theorem sAs {ts : List Nat} {tg : Expr} {Gt : D → En → Option En} (h : DE X K m e Fe) (hg : DG X K m ts tg Gt) (hp : ∀ i, i ∈ pn → i ∉ ts := by decide) (hs : ∀ i, swapsWithSole [tg] e pos.line (X i).env = pure false := by intro _; rfl) (hw : ∀ i, swappedStores [tg] e (X i).env = pure none := by intro _; rfl)
    (h1 : ∀ i, (assignEach [tg] (X i).env).map (·.2) = [assign tg (X i).env] := by intro _; rfl) : DS X K fr pn m ml m (.Assign [tg] e pos) (sAsgP Fe Gt) := let ⟨_, p, s⟩ := h; let ⟨_, p2, s2⟩ := hg; ⟨_, fun i => ps_asg (p i) (p2 i) (hs i) (hw i) (h1 i), semS_asgP s s2 hp⟩
theorem sAsM {ts : List Nat} {tg : Expr} {Gt : D → En → Option En} (h : DM X K m e Ge) (hg : DG X K m ts tg Gt) (hp : ∀ i, i ∈ pn → i ∉ ts := by decide) (hs : ∀ i, swapsWithSole [tg] e pos.line (X i).env = pure false := by intro _; rfl) (hw : ∀ i, swappedStores [tg] e (X i).env = pure none := by intro _; rfl)
    (h1 : ∀ i, (assignEach [tg] (X i).env).map (·.2) = [assign tg (X i).env] := by intro _; rfl) : DS X K fr pn m ml m (.Assign [tg] e pos) (sAsg Ge Gt) := let ⟨_, p, s⟩ := h; let ⟨_, p2, s2⟩ := hg; ⟨_, fun i => ps_asg (p i) (p2 i) (hs i) (hw i) (h1 i), semS_asg s s2 hp⟩
/-- a, b = x, y -/
theorem sPr (i j : Nat) {x y : Str} {a b : Expr} {px py pt : Pos} {kt k2 : Nat} {pt2} {Ga : En → Option (List D × En)} (C : Cok X K k) (h : DAM X K m [a, b] Ga) (hi : i ∉ m := by decide) (hj : j ∉ m := by decide) (hij : i ≠ j := by decide) (hp : ∀ k, k ∈ pn → k ≠ i ∧ k ≠ j := by decide)
    (hNi : ∀ q, (X q).N[i]? = some x := by intro _; rfl) (hNj : ∀ q, (X q).N[j]? = some y := by intro _; rfl) (hx : ∀ q, (X q).env.scope.names.lookup x = some .local := by intro _; rfl) (hy : ∀ q, (X q).env.scope.names.lookup y = some .local := by intro _; rfl)
    (hw : ∀ q, swappedStores [.Tuple [.Name x px, .Name y py] kt pt] (.Tuple [a, b] k2 pt2) (X q).env = pure (some [x, y]) := by intro _; rfl)
    (hs : ∀ q, swapsWithSole [.Tuple [.Name x px, .Name y py] kt pt] (.Tuple [a, b] k2 pt2) pos.line (X q).env = pure false := by intro _; rfl) :
    DS X K fr pn m ml m (.Assign [.Tuple [.Name x px, .Name y py] kt pt] (.Tuple [a, b] k2 pt2) pos) (sPar i j Ga) := let ⟨_, p, s⟩ := h; ⟨_, fun q => ps_par (C.calm q) (C.nd q) (hNi q) (hNj q) hij (hx q) (hy q) (p q) (hw q) (hs q), semS_par s hi hj hp⟩
/-- x op= e -/
theorem aug_op {op : Operator} {f : Int → Int → Int} {X : Cx} (h : PIp X op (ipI f)) : PIp X op (rI0 fun i j => .int (f i j)) := fun pins s σ H x y v u Q I r1 r2 q => h pins s σ H x y v u Q I r1 r2 (by
  obtain ⟨i, j, a, b, c⟩ := q
  exact ⟨i, j, a, b, c⟩)
theorem sAugA (j : Nat) {x : Str} {px : Pos} (C : Cok X K k) (h : DM X K m e Ge) (hj : j ∉ m := by decide) (hp : j ∉ pn := by decide) (hN : ∀ i, (X i).N[j]? = some x := by intro _; rfl) (hx : ∀ i, Loc (X i).env.scope x := by intro _; first | exact Or.inl rfl | exact Or.inr rfl)
    (hf : ∀ i, (X i).fn x = true ∨ (X i).env.scope.names.lookup x = some .local := by intro _; first | exact .inl rfl | exact .inr rfl) :
    DS X K fr pn m ml m (.AugAssign (.Name x px) .Add e pos) (sAug j (dI0 fun i j => i + j) Ge) := let ⟨_, p, s⟩ := h; ⟨_, fun i => ps_aug (C.nd i) (hN i) (hx i) (p i) (aug_op ip_add) (hf i), semS_aug opd_I0 s hj hp⟩
theorem sAugS (j : Nat) {x : Str} {px : Pos} (C : Cok X K k) (h : DM X K m e Ge) (hj : j ∉ m := by decide) (hp : j ∉ pn := by decide) (hN : ∀ i, (X i).N[j]? = some x := by intro _; rfl) (hx : ∀ i, Loc (X i).env.scope x := by intro _; first | exact Or.inl rfl | exact Or.inr rfl)
    (hf : ∀ i, (X i).fn x = true ∨ (X i).env.scope.names.lookup x = some .local := by intro _; first | exact .inl rfl | exact .inr rfl) :
    DS X K fr pn m ml m (.AugAssign (.Name x px) .Sub e pos) (sAug j dSub Ge) := let ⟨_, p, s⟩ := h; ⟨_, fun i => ps_aug (C.nd i) (hN i) (hx i) (p i) (aug_op ip_sub) (hf i), semS_aug opd_I0 s hj hp⟩
/-- return -/
theorem sR (h : DE X K m e Fe) (hp : ∀ i, i ∈ pn → i ∈ m := by decide) : DS X K false pn m ml m' (.Return (some e) pos) (sRetP pn Fe) := let ⟨_, p, s⟩ := h; ⟨_, fun i => ps_ret (p i), semS_retP s hp⟩
theorem sRM (h : DM X K m e Ge) (hp : ∀ i, i ∈ pn → i ∈ m := by decide) : DS X K false pn m ml m' (.Return (some e) pos) (sRet pn Ge) := let ⟨_, p, s⟩ := h; ⟨_, fun i => ps_ret (p i), semS_ret s hp⟩
theorem sRF (h : DF X K m e Ge) (hp : ∀ i, i ∈ pn → i ∈ m := by decide) : DS X K true pn m ml m' (.Return (some e) pos) (sRet pn Ge) := let ⟨_, p, s⟩ := h; ⟨_, fun i => ps_ret (p i), semS_retF s hp⟩
theorem sRN (hp : ∀ i, i ∈ pn → i ∈ m := by decide) : DS X K false pn m ml m' (.Return none pos) (fun env => (owns pn env).map fun own => .rt .none own) := ⟨_, fun i => ps_retN, semS_retN hp⟩
theorem sRO (j : Nat) {x : Str} {px : Pos} (hj : j ∈ m := by decide) (hjp : j ∉ pn := by decide) (hp : ∀ i, i ∈ pn → i ∈ m := by decide) (hN : ∀ i, (X i).N[j]? = some x := by intro _; rfl) (hv : ∀ i, Vis (X i).env.scope x := by intro _; first | exact Or.inl rfl | exact Or.inr (Or.inl rfl) | exact Or.inr (Or.inr rfl))
    (hd : (x == ("__debug__" : Str)) = false := by decide) (hcd : (x == ("__classdict__" : Str)) = false := by decide) : DS X K true pn m ml m' (.Return (some (.Name x px)) pos) (sRetO pn j) := ⟨_, fun i => ps_ret (pe_var (hN i) (hv i) hd hcd), semS_retO hj hjp hp⟩
/-- loops -/
theorem sF {tg iter : Expr} {body : List Stmt} {ts : List Nat} {Fi : En → Option (List D × En)} {Gt : D → En → Option En} {Fb : En → Option Out} (C : Cok X K k) (hi : DIM X K m tg iter Fi) (hg : DG X K m ts tg Gt) (hb : DSs X K fr pn m m m body Fb) (hp : ∀ i, i ∈ pn → i ∉ ts := by decide) (hs : ∀ i x, foldedSetIterable iter (X i).env x = pure x := by intro _ _; rfl) :
    DS X K fr pn m ml m (.For tg iter body [] pos) (sFor Fi Gt Fb) := let ⟨_, p1, s1⟩ := hi; let ⟨_, p2, s2⟩ := hg; let ⟨_, p3, s3⟩ := hb; ⟨_, fun i => ps_for (C.po i) (C.calm i) (p1 i) (p2 i) (p3 i) (hs i), semS_for s1 s2 s3 hp⟩
theorem sW {c : Expr} {body : List Stmt} {Ft : En → Option (Bool × En)} {Fb : En → Option Out} (C : Cok X K k) (h : DTM X K m c Ft) (hb : DSs X K fr pn m m m body Fb) : DS X K fr pn m ml m (.While c body [] pos) (sWhile Ft Fb) := let ⟨_, p1, s1⟩ := h; let ⟨_, p3, s3⟩ := hb; ⟨_, fun i => ps_while (C.po i) (p1 i) (p3 i), semS_while s1 s3⟩
/-- an expression alone -/
theorem sD (h : DM X K m e Ge) (hs : ∀ i, swapsWith e none pos.line (X i).env = pure false := by intro _; rfl) : DS X K fr pn m ml m (.Expr e pos) (sDrop Ge) := let ⟨_, p, s⟩ := h; ⟨_, fun i => ps_expr (p i) (hs i), semS_drop s⟩
/-- xs.append(e), xs owned -/
theorem sApp (j : Nat) {x : Str} {px ap cp : Pos} (C : Cok X K k) (h : DM X K m e Ge) (hj : j ∈ m := by decide) (hN : ∀ i, (X i).N[j]? = some x := by intro _; rfl) (hv : ∀ i, Vis (X i).env.scope x := by intro _; first | exact Or.inl rfl | exact Or.inr (Or.inl rfl) | exact Or.inr (Or.inr rfl))
    (hd : (x == ("__debug__" : Str)) = false := by decide) (hcd : (x == ("__classdict__" : Str)) = false := by decide)
    (hbase : ∀ i, attributeBase (.Name x px) "append" (X i).env (eval (.Name x px) (X i).env) = eval (.Name x px) (X i).env := by intro _; rfl)
    (hfew : ∀ i, ((backTo cp (starEach [e] (X i).env)).all (fun x => !x.1) && (backToKw cp (keywordEach [] (X i).env)).all (fun x => x.1.isSome) && decide (([e] : List Expr).length + ([] : List Keyword).length + (if ([] : List Keyword).isEmpty then 0 else 1) < 30)) = true := by intro _; rfl)
    (hline : (ap.endLine == cp.line) = true := by rfl) (he : ∀ i, starEach [e] (X i).env = (false, eval e (X i).env) :: starEach [] (X i).env := by intro _; rfl) (hplain : ∀ i, (backTo cp (starEach [] (X i).env)).any (·.1) = false := by intro _; rfl)
    (hs : ∀ i, swapsWith (.Call (.Attribute (.Name x px) "append" ap) [e] [] cp) none pos.line (X i).env = pure false := by intro _; rfl) :
    DS X K fr pn m ml m (.Expr (.Call (.Attribute (.Name x px) "append" ap) [e] [] cp) pos) (sMut j gAppend Ge) := by
  obtain ⟨t, p, s⟩ := h
  refine ⟨_, fun i => ps_expr ?_ (hs i), semS_mut mut_append s hj⟩
  have q := pe_bm (X := X i) PySem.F.plainAttrs_list PySem.F.slot_list_append PySem.F.type_list_append mt_append (pe_var (pos := px) (hN i) (hv i) hd hcd) (pa_cons (p i) pa_nil (he i)) (hbase i) (hfew i) hline (he i) (hplain i)
  rw [C.hK i] at q
  exact q
/-- xs[i] = e, xs owned -/
theorem sStI (j : Nat) {x : Str} {px tp : Pos} {ie : Expr} {Gi : En → Option (D × En)} (C : Cok X K k) (h : DM X K m e Ge) (h2 : DM X K m ie Gi) (hj : j ∈ m := by decide) (hN : ∀ i, (X i).N[j]? = some x := by intro _; rfl) (hv : ∀ i, Vis (X i).env.scope x := by intro _; first | exact Or.inl rfl | exact Or.inr (Or.inl rfl) | exact Or.inr (Or.inr rfl))
    (hd : (x == ("__debug__" : Str)) = false := by decide) (hcd : (x == ("__classdict__" : Str)) = false := by decide)
    (ha : ∀ i v, assign (.Subscript (.Name x px) ie tp) (X i).env v = (do
      let ov ← holding [v] (eval (.Name x px) (X i).env)
      let iv ← holding [v, ov] (eval ie (X i).env)
      standAt tp
      holding [v, ov, iv] (setItem ov iv v)
      release [v, ov, iv] []) := by intro _ _; rfl)
    (hs : ∀ i, swapsWithSole [.Subscript (.Name x px) ie tp] e pos.line (X i).env = pure false := by intro _; rfl) (hw : ∀ i, swappedStores [.Subscript (.Name x px) ie tp] e (X i).env = pure none := by intro _; rfl)
    (h1 : ∀ i, (assignEach [.Subscript (.Name x px) ie tp] (X i).env).map (·.2) = [assign (.Subscript (.Name x px) ie tp) (X i).env] := by intro _; rfl) :
    DS X K fr pn m ml m (.Assign [.Subscript (.Name x px) ie tp] e pos) (sSetI j Ge Gi) := let ⟨_, p, s⟩ := h; let ⟨_, p2, s2⟩ := h2; ⟨_, fun i => ps_asg (p i) (pg_sub (pe_var (hN i) (hv i) hd hcd) (p2 i) set_list (ha i)) (hs i) (hw i) (h1 i), semS_setI s s2 hj⟩
theorem sShare (j : Nat) {m2 : List Nat} (h : DS X K fr pn m ml m' st F1) (hj : j ∈ m' := by decide) (hm : m2 = m'.filter (· ≠ j) := by decide) : DS X K fr pn m ml m2 st F1 := let ⟨_, p, s⟩ := h; ⟨_, p, semS_share s hj hm⟩
theorem sShareA (j : Nat) {m2 : List Nat} (h : DS X K fr pn m2 ml m' st F1) (hj : j ∈ m := by decide) (hm : m2 = m.filter (· ≠ j) := by decide) : DS X K fr pn m ml m' st F1 := let ⟨_, p, s⟩ := h; ⟨_, p, semS_shareA s hj hm⟩
theorem ssShareA (j : Nat) {m2 : List Nat} {sts : List Stmt} (h : DSs X K fr pn m2 ml m' sts F1) (hj : j ∈ m := by decide) (hm : m2 = m.filter (· ≠ j) := by decide) : DSs X K fr pn m ml m' sts F1 := let ⟨_, p, s⟩ := h; ⟨_, p, semS_shareA s hj hm⟩
theorem sFgt (vs : List Nat) (h : DS X K fr pn m ml m' st F1) (h1 : ∀ i, i ∈ m' → i ∉ vs := by decide) (h2 : ∀ i, i ∈ ml → i ∉ vs := by decide) : DS X K fr pn m ml m' st (sForget vs F1) := let ⟨_, p, s⟩ := h; ⟨_, p, semS_forget s h1 h2⟩
theorem ssFgt (vs : List Nat) {sts : List Stmt} (h : DSs X K fr pn m ml m' sts F1) (h1 : ∀ i, i ∈ m' → i ∉ vs := by decide) (h2 : ∀ i, i ∈ ml → i ∉ vs := by decide) : DSs X K fr pn m ml m' sts (sForget vs F1) := let ⟨_, p, s⟩ := h; ⟨_, p, semS_forget s h1 h2⟩
/-- y = [..] on one line, y a local -/
theorem sLc (j : Nat) (own : List (Str × Nat)) {y : Str} {py spos : Pos} {Fi : En → Option (List D)} {Ft : En → Option Bool} {Fe' : En → Option D} (C : Cok X K k) (hi : DI X K m tg iter Fi) (hg : DG (blkX X scope) K m ts tg Gt) (ht : DTs (blkX X scope) K m ifs Ft) (he : DE (blkX X scope) K m elt Fe')
    (hj : j ∉ m := by decide) (hp : j ∉ pn := by decide) (hN : ∀ i, (X i).N[j]? = some y := by intro _; rfl) (hx : ∀ i, (X i).env.scope.names.lookup y = some .local := by intro _; rfl)
    (hsw : ∀ i, swapsWith (.ListComp elt [⟨tg, iter, ifs, 0⟩] scope pos) (some (.Name y py)) spos.line (X i).env = pure true := by intro _; exact sw_true rfl rfl rfl (by decide +kernel))
    (ok : ∀ i, BlkOk (X i).N (X i).env.scope scope own := by intro _; exact blkOk_by (by kernel_rfl)) (hv : ∀ i, i ∈ m → i ∉ own.map (·.2) := by decide) (hts : ∀ i, i ∈ ts → i ∈ own.map (·.2) := by decide) (hs : ∀ i x, foldedSetIterable iter (X i).env x = pure x := by intro _ _; rfl) :
    DS X K fr pn m ml m (.Assign [.Name y py] (.ListComp elt [⟨tg, iter, ifs, 0⟩] scope pos) spos) (sAsgP (lcF (own.map (·.2)) Fi Gt Ft Fe') (fun d env => some (setE j d env))) := by
  obtain ⟨t1, p1, s1⟩ := hi; obtain ⟨t2, p2, s2⟩ := hg; obtain ⟨t3, p3, s3⟩ := ht; obtain ⟨t4, p4, s4⟩ := he
  exact ⟨_, fun i => ps_setLc (C.calm i) (C.nd i) (hN i) (hx i) (hsw i) (p1 i) (ok i) (fun s H Ca cl fp => p2 ⟨i, s, H, Ca, cl, fp⟩) (fun s H Ca cl fp => p3 ⟨i, s, H, Ca, cl, fp⟩) (fun s H Ca cl fp => p4 ⟨i, s, H, Ca, cl, fp⟩) (hs i), semS_asgP (semP_lc s1 s2 s3 s4 hv hts) (semG_name hj) (by intro i hi; simp; exact fun e => hp (e ▸ hi))⟩
theorem sLcM (j : Nat) (own : List (Str × Nat)) {y : Str} {py spos : Pos} {Fi : En → Option (List D × En)} {Ft : En → Option (Bool × En)} {Fe' : En → Option (D × En)} (C : Cok X K k) (hi : DIM X K m tg iter Fi) (hg : DG (blkX X scope) K m ts tg Gt) (ht : DTsM (blkX X scope) K m ifs Ft) (he : DM (blkX X scope) K m elt Fe')
    (hj : j ∉ m := by decide) (hp : j ∉ pn := by decide) (hN : ∀ i, (X i).N[j]? = some y := by intro _; rfl) (hx : ∀ i, (X i).env.scope.names.lookup y = some .local := by intro _; rfl)
    (hsw : ∀ i, swapsWith (.ListComp elt [⟨tg, iter, ifs, 0⟩] scope pos) (some (.Name y py)) spos.line (X i).env = pure true := by intro _; exact sw_true rfl rfl rfl (by decide +kernel))
    (ok : ∀ i, BlkOk (X i).N (X i).env.scope scope own := by intro _; exact blkOk_by (by kernel_rfl)) (hv : ∀ i, i ∈ m → i ∉ own.map (·.2) := by decide) (hts : ∀ i, i ∈ ts → i ∈ own.map (·.2) := by decide) (hs : ∀ i x, foldedSetIterable iter (X i).env x = pure x := by intro _ _; rfl) :
    DS X K fr pn m ml m (.Assign [.Name y py] (.ListComp elt [⟨tg, iter, ifs, 0⟩] scope pos) spos) (sAsg (lcG m (own.map (·.2)) Fi Gt Ft Fe') (fun d env => some (setE j d env))) := by
  obtain ⟨t1, p1, s1⟩ := hi; obtain ⟨t2, p2, s2⟩ := hg; obtain ⟨t3, p3, s3⟩ := ht; obtain ⟨t4, p4, s4⟩ := he
  exact ⟨_, fun i => ps_setLc (C.calm i) (C.nd i) (hN i) (hx i) (hsw i) (p1 i) (ok i) (fun s H Ca cl fp => p2 ⟨i, s, H, Ca, cl, fp⟩) (fun s H Ca cl fp => p3 ⟨i, s, H, Ca, cl, fp⟩) (fun s H Ca cl fp => p4 ⟨i, s, H, Ca, cl, fp⟩) (hs i), semS_asg (sem_lc s1 s2 s3 s4 hv hts) (semG_name hj) (by intro i hi; simp; exact fun e => hp (e ▸ hi))⟩
theorem sLcF (j : Nat) (own : List (Str × Nat)) {y : Str} {py spos : Pos} {Fi : En → Option (List D × En)} {Ft : En → Option (Bool × En)} {Fe' : En → Option (D × En)} (C : Cok X K k) (hi : DIM X K m tg iter Fi) (hg : DG (blkX X scope) K m ts tg Gt) (ht : DTsM (blkX X scope) K m ifs Ft) (he : DM (blkX X scope) K m elt Fe')
    (hj : j ∉ m := by decide) (hp : j ∉ pn := by decide) (hN : ∀ i, (X i).N[j]? = some y := by intro _; rfl) (hx : ∀ i, (X i).env.scope.names.lookup y = some .local := by intro _; rfl)
    (hsw : ∀ i, swapsWith (.ListComp elt [⟨tg, iter, ifs, 0⟩] scope pos) (some (.Name y py)) spos.line (X i).env = pure true := by intro _; exact sw_true rfl rfl rfl (by decide +kernel))
    (ok : ∀ i, BlkOk (X i).N (X i).env.scope scope own := by intro _; exact blkOk_by (by kernel_rfl)) (hv : ∀ i, i ∈ m → i ∉ own.map (·.2) := by decide) (hts : ∀ i, i ∈ ts → i ∈ own.map (·.2) := by decide) (hs : ∀ i x, foldedSetIterable iter (X i).env x = pure x := by intro _ _; rfl) :
    DS X K fr pn m ml (j :: m) (.Assign [.Name y py] (.ListComp elt [⟨tg, iter, ifs, 0⟩] scope pos) spos) (sAsgF j (lcG m (own.map (·.2)) Fi Gt Ft Fe')) := by
  obtain ⟨t1, p1, s1⟩ := hi; obtain ⟨t2, p2, s2⟩ := hg; obtain ⟨t3, p3, s3⟩ := ht; obtain ⟨t4, p4, s4⟩ := he
  exact ⟨_, fun i => ps_setLc (C.calm i) (C.nd i) (hN i) (hx i) (hsw i) (p1 i) (ok i) (fun s H Ca cl fp => p2 ⟨i, s, H, Ca, cl, fp⟩) (fun s H Ca cl fp => p3 ⟨i, s, H, Ca, cl, fp⟩) (fun s H Ca cl fp => p4 ⟨i, s, H, Ca, cl, fp⟩) (hs i), semS_asgF (semF_lc s1 s2 s3 s4 hv hts) hj hp⟩
/-- a, b, c = x, y, z -/
def sPar3 (i j l : Nat) (Fa : En → Option (List D × En)) : En → Option Out := fun env => (Fa env).bind fun r => match r.1 with
  | [a, b, c] => some (.nx (setE l c (setE j b (setE i a r.2))))
  | _ => none
theorem RpAll.three_inv {H : Hp} {vs : List V} {d e f : D} (h : RpAll K H vs [d, e, f]) : ∃ u v w, vs = [u, v, w] ∧ Rp K H u d ∧ Rp K H v e ∧ Rp K H w f := by
  cases h with
  | cons a t =>
    obtain ⟨v, w, rfl, b, c⟩ := t.two_inv
    exact ⟨_, v, w, rfl, a, b, c⟩
theorem semS_par3 {i j l : Nat} {ta : TA} {Fa : En → Option (List D × En)} (h : SemA K m ta Fa) (hi : i ∉ m) (hj : j ∉ m) (hl : l ∉ m) (hp : ∀ k, k ∈ pn → k ≠ i ∧ k ≠ j ∧ k ≠ l) : SemS K fr pn m ml m (tPar3 i j l ta) (sPar3 i j l Fa) := fun env σ S H R o e E q => by
  obtain ⟨⟨ds, e1⟩, ed, e⟩ := bind_some e
  refine h env σ S H R ds e1 ed _ fun vs S1 H1 g1 R1 r => ?_
  dsimp only at e
  split at e
  · rename_i a b c
    cases e
    obtain ⟨u, v, w, rfl, ra, rb, rc⟩ := RpAll.three_inv r
    refine ⟨u, v, w, rfl, q _ S1 H1 ⟨g1, fun c o => .inl (own_same (fun k hk => ?_) o), fun k hk => ?_⟩ (((R1.set hi ra).set hj rb).set hl rc)⟩
    · rw [List.getElem?_set_ne (ne_mem hk hl), List.getElem?_set_ne (ne_mem hk hj), List.getElem?_set_ne (ne_mem hk hi)]
    · rw [List.getElem?_set_ne (Ne.symm (hp k hk).2.2), List.getElem?_set_ne (Ne.symm (hp k hk).2.1), List.getElem?_set_ne (Ne.symm (hp k hk).1)]
  · cases e
theorem sPr3 (i j l : Nat) {x y z : Str} {a b c : Expr} {px py pz pt : Pos} {kt k2 : Nat} {pt2} {Ga : En → Option (List D × En)} (C : Cok X K k) (h : DAM X K m [a, b, c] Ga) (hi : i ∉ m := by decide) (hj : j ∉ m := by decide) (hl : l ∉ m := by decide) (hij : i ≠ j := by decide) (hil : i ≠ l := by decide) (hjl : j ≠ l := by decide) (hp : ∀ k, k ∈ pn → k ≠ i ∧ k ≠ j ∧ k ≠ l := by decide)
    (hNi : ∀ q, (X q).N[i]? = some x := by intro _; rfl) (hNj : ∀ q, (X q).N[j]? = some y := by intro _; rfl) (hNl : ∀ q, (X q).N[l]? = some z := by intro _; rfl) (hx : ∀ q, (X q).env.scope.names.lookup x = some .local := by intro _; rfl) (hy : ∀ q, (X q).env.scope.names.lookup y = some .local := by intro _; rfl) (hz : ∀ q, (X q).env.scope.names.lookup z = some .local := by intro _; rfl)
    (hw : ∀ q, swappedStores [.Tuple [.Name x px, .Name y py, .Name z pz] kt pt] (.Tuple [a, b, c] k2 pt2) (X q).env = pure (some [x, y, z]) := by intro _; rfl)
    (hs : ∀ q, swapsWithSole [.Tuple [.Name x px, .Name y py, .Name z pz] kt pt] (.Tuple [a, b, c] k2 pt2) pos.line (X q).env = pure false := by intro _; rfl) :
    DS X K fr pn m ml m (.Assign [.Tuple [.Name x px, .Name y py, .Name z pz] kt pt] (.Tuple [a, b, c] k2 pt2) pos) (sPar3 i j l Ga) := let ⟨_, p, s⟩ := h; ⟨_, fun q => ps_par3 (C.calm q) (C.nd q) (hNi q) (hNj q) (hNl q) hij hil hjl (hx q) (hy q) (hz q) (p q) (hw q) (hs q), semS_par3 s hi hj hl hp⟩
end
/-! ### reversed by a slice -/
section
variable {ι : Type} {X : ι → Cx} {K : PySem.W.Frag} {k : Nat} {m : List Nat} {e : Expr} {F : En → Option D}
def fRev (F : En → Option D) : En → Option D := fun env => ((F env).bind asL).map fun ds => .list ds.reverse
theorem eRev {kk : Nat} {p1 p2 p3 pos : Pos} (C : Cok X K k) (h : DE X K m e F) : DE X K m (.Subscript e (.Slice none none (some (.UnaryOp .USub (.Constant (.int 1) kk p1) p2)) p3) pos) (fRev F) := by
  obtain ⟨t, p, s⟩ := h
  refine ⟨tRevL K t, fun i => by have q := pe_revL (k := kk) (p1 := p1) (p2 := p2) (p3 := p3) (pos := pos) (p i); rw [C.hK i] at q; exact q, fun env σ S H R d e Q q => ?_⟩
  obtain ⟨ds, e1, rfl⟩ := map_some e
  obtain ⟨a, ea, e1⟩ := bind_some e1
  cases asL_some e1
  refine s env σ S H R _ ea _ fun v S1 H1 k1 r => ?_
  obtain ⟨a, xs, rfl, hs0, ha⟩ := r.list_inv
  have hs : SqL K S1 a xs := SqL.of hs0
  refine ⟨a, xs, rfl, ex_l k1.x hs, fun p hp => ?_⟩
  exact q _ _ _ (k1.trans (Gz.new (o := .lst xs.reverse) k1.x k1.z hp (by show xs.reverse.length ≤ sizeLine; rw [List.length_reverse]; exact k1.z.list (ex_l k1.x hs)))) (rp_newL k1.x hp ha.reverse)
end
/-! ### promises by the mirrors -/
def resF : Out → Option D
  | .rt d _ => some d
  | _ => none
theorem gP_of {F : En → Option Out} {N ps : List Str} {n : Nat} (hn : n = ps.length) : ∀ ds r, (fun ds : List D => if ds.length = n then (F (env0 N ds)).bind resP else none) ds = some r → ds.length = ps.length ∧ ∃ o, F (env0 N ds) = some o ∧ resP o = some r := fun ds r h => by
  dsimp only at h
  split at h
  · rename_i hl
    obtain ⟨o, h1, h2⟩ := bind_some h
    exact ⟨hl.trans hn, o, h1, h2⟩
  · cases h
theorem gF_of {F : En → Option Out} {N ps : List Str} {n : Nat} (hn : n = ps.length) : ∀ ds r, (fun ds : List D => if ds.length = n then (F (env0 N ds)).bind resF else none) ds = some r → ds.length = ps.length ∧ ∃ own, F (env0 N ds) = some (.rt r own) := fun ds r h => by
  dsimp only at h
  split at h
  · rename_i hl
    obtain ⟨o, h1, h2⟩ := bind_some h
    refine ⟨hl.trans hn, ?_⟩
    cases o with
    | rt d own => cases h2; exact ⟨own, h1⟩
    | nx e => cases h2
    | bk e => cases h2
    | ct e => cases h2
  · cases h
theorem gM_of {F : En → Option Out} {N ps : List Str} {n : Nat} (hn : n = ps.length) : ∀ ds as r, (fun (ds as : List D) => if as.length + 1 = n then (F (env0 N (.list ds :: as))).bind resM else none) ds as = some r → as.length + 1 = ps.length ∧ ∃ o, F (env0 N (.list ds :: as)) = some o ∧ resM o = some r := fun ds as r h => by
  dsimp only at h
  split at h
  · rename_i hl
    obtain ⟨o, h1, h2⟩ := bind_some h
    exact ⟨hl.trans hn, o, h1, h2⟩
  · cases h
theorem law_end {K : PySem.W.Frag} {g : List D → Option D} {H : Hp} {a : Addr} {ns : List Int} {E : XK} (h : g [.dict [(.none, .list (ns.map PyData.int))]] = some (.bool true)) (hz : SzH H) (hS : SqL K H a (ns.map V.int)) : spP K g [.ref a] H (fun v _ => v = .bl true) E :=
  ⟨H, _, _, Ex.refl _, hz, .cons (.scr hS) .nil, h, fun v S' H' _ r => by cases r; rfl⟩
/-- a test that reads an owned list -/
theorem semPT_own {K : PySem.W.Frag} {m m2 : List Nat} {j : Nat} {tt : TT} {F : En → Option Bool} (h : SemPT K m2 tt F) (hj : j ∈ m) (hm : m2 = m.filter (· ≠ j)) : SemPT K m tt F := fun env σ S H R d ed Q q => by
  subst hm
  obtain ⟨S2, g2, hs2, R2⟩ := R.share hj
  obtain ⟨p, vs, as, h1, h2, h3, h4, h5⟩ := R.ow j hj
  refine h env σ S2 H R2 d ed Q fun S3 H3 k3 => ?_
  refine q (fun a => if a = p then none else S3 a) H3 ⟨fun a o e => ?_, k3.h, fun a ha => ?_, fun a o e => ?_, k3.z⟩
  · have : a ≠ p := fun c => by subst c; rw [h3] at e; cases e
    show (if a = p then none else S3 a) = some o
    rw [if_neg this]
    exact k3.s a o (g2.s a o e)
  · show (if a = p then none else S3 a) = S a
    by_cases c : a = p
    · subst c; rw [if_pos rfl, h3]
    · rw [if_neg c, k3.n a ha]
      by_cases cc : S2 a = S a
      · exact cc
      · have := hs2 a cc
        rw [h2] at this
        injection this with this
        injection this with this
        exact absurd (by injection this with this; exact this.symm) c
  · by_cases c : a = p
    · subst c
      have e' : (if a = a then none else S3 a) = some o := e
      rw [if_pos rfl] at e'; cases e'
    · have e' : (if a = p then none else S3 a) = some o := e
      rw [if_neg c] at e'
      exact k3.x a o e'
theorem tO {ι : Type} {X : ι → Cx} {K : PySem.W.Frag} {m : List Nat} {e : Expr} {Ft : En → Option Bool} (j : Nat) {m2 : List Nat} (h : DT X K m2 e Ft) (hj : j ∈ m := by decide) (hm : m2 = m.filter (· ≠ j) := by decide) : DT X K m e Ft := let ⟨t, p, s⟩ := h; ⟨t, p, semPT_own s hj hm⟩
/-- xs[i] of an owned list, i pure -/
def fIxP (j : Nat) (Fi : En → Option D) : En → Option D := fun env => (Fi env).bind fun r => ((gv j env).bind asL).bind fun ds => (asI r).bind fun i => dAt ds i
theorem semP_ixO {K : PySem.W.Frag} {m : List Nat} {j : Nat} {ti : TE} {Fi : En → Option D} (hi : SemP K m ti Fi) (hj : j ∈ m) : SemP K m (tOp (rIxL K) (tVar j) ti) (fIxP j Fi) := fun env σ S H R d e Q q => by
  obtain ⟨r, er, e⟩ := bind_some e
  obtain ⟨ds, eds, e⟩ := bind_some e
  obtain ⟨i, ei, e⟩ := bind_some e
  obtain ⟨d0, ed0, eds⟩ := bind_some eds
  cases asL_some eds
  cases asI_some ei
  obtain ⟨p, xs, ds', k1, k2, k3, k4, k5⟩ := R.ow j hj
  have := gv_some ed0
  rw [k1] at this
  cases this
  refine ⟨.ref p, k2, hi env σ S H R _ er _ fun v S1 H1 g r1 => ?_⟩
  obtain ⟨w, h1, h2⟩ := RpAll.atI k5 e
  have := r1.int_inv
  subst this
  exact ⟨p, xs, i, w, rfl, rfl, SqL.of (g.h _ _ k4), h1, q w S1 H1 g (h2.mono g.s)⟩
theorem eIxO {ι : Type} {X : ι → Cx} {K : PySem.W.Frag} {k : Nat} {m : List Nat} {b : Expr} {pos : Pos} {Fb : En → Option D} (j : Nat) {x : Str} {pos' : Pos} (C : Cok X K k) (hb : DE X K m b Fb) (hj : j ∈ m := by decide) (hs : PlainIx b := by exact fun _ _ => rfl) (hN : ∀ i, (X i).N[j]? = some x := by intro _; rfl) (hv : ∀ i, Vis (X i).env.scope x := by intro _; first | exact Or.inl rfl | exact Or.inr (Or.inl rfl) | exact Or.inr (Or.inr rfl))
    (hd : (x == ("__debug__" : Str)) = false := by decide) (hcd : (x == ("__classdict__" : Str)) = false := by decide) : DE X K m (.Subscript (.Name x pos') b pos) (fIxP j Fb) := by
  obtain ⟨tb, pb, sb⟩ := hb
  exact ⟨_, fun i => pe_ix (by have h := @ix_list (X i); rw [C.hK i] at h; exact h) (pe_var (hN i) (hv i) hd hcd) (pb i) hs, semP_ixO sb hj⟩
theorem ssShare {ι : Type} {X : ι → Cx} {K : PySem.W.Frag} {m ml m' pn : List Nat} {fr : Bool} {sts : List Stmt} {F1 : En → Option Out} (j : Nat) {m2 : List Nat} (h : DSs X K fr pn m ml m' sts F1) (hj : j ∈ m' := by decide) (hm : m2 = m'.filter (· ≠ j) := by decide) : DSs X K fr pn m ml m2 sts F1 := let ⟨_, p, s⟩ := h; ⟨_, p, semS_share s hj hm⟩
/-- a definition that neither elaborator nor kernel opens -/
noncomputable def shut {α : Type} (a : α) : α := Classical.choose (⟨a, rfl⟩ : ∃ b : α, b = a)
theorem shut_eq {α : Type} (a : α) : shut a = a := Classical.choose_spec (⟨a, rfl⟩ : ∃ b : α, b = a)
end CS

/-! CsT: sorted lists of tuples of ints, of any signs and any number. -/
namespace CS
open PySem PySem.Spec PyProof.Rows L2
open Evl (Ex ex_l ex_t)
abbrev lexI : List Int → List Int → Bool := HT.lexLt
theorem lexI_asym : ∀ a b : List Int, lexI a b = true → lexI b a = false
  | [], [], _ => rfl
  | [], _ :: _, _ => rfl
  | _ :: _, [], h => by cases h
  | x :: xs, y :: ys, h => by
    simp only [lexI, HT.lexLt] at h ⊢
    by_cases c : x = y
    · subst c
      rw [if_pos rfl] at h ⊢
      exact lexI_asym xs ys h
    · rw [if_neg c, decide_eq_true_eq] at h
      rw [if_neg (fun e => c e.symm), decide_eq_false_iff_not]
      omega
theorem lexI_tr : ∀ a b c : List Int, lexI b a = false → lexI c b = false → lexI c a = false
  | [], [], _, _, h => h
  | [], _ :: _, [], _, _ => rfl
  | [], _ :: _, _ :: _, _, _ => rfl
  | _ :: _, [], _, h, _ => by cases h
  | _ :: _, _ :: _, [], _, h => by cases h
  | x :: xs, y :: ys, z :: zs, h1, h2 => by
    simp only [lexI, HT.lexLt] at h1 h2 ⊢
    by_cases c1 : y = x
    · subst c1
      rw [if_pos rfl] at h1
      by_cases c2 : z = y
      · subst c2
        rw [if_pos rfl] at h2 ⊢
        exact lexI_tr xs ys zs h1 h2
      · rw [if_neg c2] at h2 ⊢
        exact h2
    · rw [if_neg c1, decide_eq_false_iff_not] at h1
      by_cases c2 : z = y
      · subst c2
        rw [if_neg c1, decide_eq_false_iff_not]
        omega
      · rw [if_neg c2, decide_eq_false_iff_not] at h2
        rw [if_neg (by omega), decide_eq_false_iff_not]
        omega
theorem lexI_eq : ∀ a b : List Int, lexI a b = false → lexI b a = false → a = b
  | [], [], _, _ => rfl
  | [], _ :: _, h, _ => by cases h
  | _ :: _, [], _, h => by cases h
  | x :: xs, y :: ys, h1, h2 => by
    simp only [lexI, HT.lexLt] at h1 h2
    by_cases c : x = y
    · subst c
      rw [if_pos rfl] at h1 h2
      rw [lexI_eq xs ys h1 h2]
    · rw [if_neg c, decide_eq_false_iff_not] at h1
      rw [if_neg (fun e => c e.symm), decide_eq_false_iff_not] at h2
      omega
theorem lexI_swo {α : Type} (k : α → List Int) : SrtO.Swo fun v u => lexI (k v) (k u) := ⟨fun x y h => lexI_asym _ _ h, fun x y z h1 h2 => lexI_tr _ _ _ h1 h2⟩
section
variable {prog : Program} {w : World} {A : Around} {E : Value → Shared → Prop} {s : Shared}
theorem kat_ints {b : Bool} {Q : Bool → Shared → Prop} : ∀ {xs ys : List Value} {ns ms : List Int} (i : Nat), IntsAre xs ns → IntsAre ys ms → ns.length = ms.length → Q (lexI ns ms) s → PySem.W.KatLex prog w A b false Q (xs.zip ys) i s
  | _, _, _, _, _, .nil, .nil, _, q => PySem.W.kat_nil q
  | _, _, _, _, _, .cons n t r, .cons m u r', hl, q => by
    refine PySem.W.kat_cons (SeqAt.EqAt.int_int n t m u prog w _ _ ?_)
    refine PySem.W.kat_go (fun e => PySem.W.kat_yes ?_) (fun e => PySem.W.kat_no (TS.oneLt_ints _ ?_))
    · have e : n = m := by simpa using e
      subst e
      simp only [lexI, HT.lexLt, if_true] at q
      exact kat_ints _ r r' (by simpa using hl) q
    · have e : ¬ n = m := by simpa using e
      simp only [lexI, HT.lexLt, if_neg e] at q
      exact q
  | _, _, _, _, _, .nil, .cons _ _ _, hl, _ => by simp at hl
  | _, _, _, _, _, .cons _ _ _, .nil, hl, _ => by simp at hl
theorem tup_firsts {h : Heap} {d : Nat} (hd : 1 ≤ d) : ∀ vs : List Value, (∀ v ∈ vs, ∃ ns, TS.TupInts h v ns ∧ ns.length = d) → ∃ fs, PySem.W.KatTups h vs fs ∧ fs.length = vs.length ∧ ∀ f, f ∈ fs → ∃ n t, f = Value.int n t
  | [], _ => ⟨[], PySem.W.KatTups.nil, rfl, fun f hf => by simp at hf⟩
  | v :: vs, x => by
    obtain ⟨fs, k, hl, hi⟩ := tup_firsts hd vs fun u hu => x u (List.mem_cons_of_mem _ hu)
    obtain ⟨ns, ⟨a, xs, rfl, ⟨o, ho, hc, n, hdt⟩, i⟩, hn⟩ := x v (List.mem_cons_self ..)
    obtain ⟨y, ys, e⟩ : ∃ y ys, xs.toList = y :: ys := by
      cases q : xs.toList with
      | nil =>
        rw [q] at i
        have l := i.length
        rw [List.length_nil, hn] at l
        omega
      | cons y ys => exact ⟨y, ys, rfl⟩
    obtain ⟨m, t, hy⟩ := i.all y (by rw [e]; exact List.mem_cons_self ..)
    refine ⟨y :: fs, PySem.W.KatTups.cons ho hc hdt ?_ k, by simp [hl], ?_⟩
    · have z := congrArg (fun l : List Value => l[0]?) e
      simpa using z
    · intro f hf
      rcases List.mem_cons.mp hf with rfl | hf
      · exact ⟨m, t, hy⟩
      · exact hi f hf
theorem tup_cmp {vs : List Value} {d : Nat} {k : Value → List Int} (hp : ∀ v ∈ vs, TS.TupInts s.heap v (k v) ∧ (k v).length = d) : SrtO.Cmp prog w A s (tuples' true) (fun p => p.1 ∈ vs) (SrtO.lt2 fun v u => lexI (k v) (k u)) := by
  intro p q hm hm'
  obtain ⟨h1, l1⟩ := hp _ hm
  obtain ⟨h2, l2⟩ := hp _ hm'
  have hll : (k p.1).length = (k q.1).length := l1.trans l2.symm
  show wpAny (model prog w) A (keyLt' (tuples' true) p.1 q.1) (fun r s' => s' = s ∧ r = lexI (k p.1) (k q.1)) (fun _ _ => False) s
  generalize k p.1 = ns at h1 hll ⊢
  generalize k q.1 = ms at h2 hll ⊢
  obtain ⟨a, xs, e, ⟨o, ho, hc, n, hd⟩, i⟩ := h1
  obtain ⟨a', xs', e', ⟨o', ho', hc', n', hd'⟩, i'⟩ := h2
  rw [e, e']
  refine PySem.W.kat_lt ho hd ho' hd' ?_
  have z1 := i.length
  have z2 := i'.length
  have hf : decide (xs.size < xs'.size) = false := decide_eq_false (by
    rw [Array.length_toList] at z1 z2
    omega)
  rw [hf]
  exact kat_ints 0 i i' hll ⟨rfl, rfl⟩
theorem tup_sortable {a : Addr} {vs : List Value} {d : Nat} {k : Value → List Int} (h0 : 0 < vs.length) (hd : 1 ≤ d) (hp : ∀ v ∈ vs, TS.TupInts s.heap v (k v) ∧ (k v).length = d) (ha : ∀ o, s.heap.get? a = some o → o.cls ≠ .type "tuple") :
    SrtO.SortableO prog w A s a vs fun v u => lexI (k v) (k u) := by
  intro h' keep
  have hp' : ∀ v ∈ vs, TS.TupInts h' v (k v) ∧ (k v).length = d := fun v hm => ⟨(hp v hm).1.keeps fun b o e c => keep b o (fun z => by subst z; exact ha o e c) e, (hp v hm).2⟩
  obtain ⟨fs, h1, h2, h3⟩ := tup_firsts hd vs fun v hm => ⟨_, hp' v hm⟩
  refine ⟨tuples' true, fun Q E hq => ?_, tup_cmp hp'⟩
  refine PySem.W.kat_kind (T := .type "int") h1 (by omega) (fun f hm => ?_) (by rfl) ?_
  · obtain ⟨x, t, rfl⟩ := h3 f hm
    exact PySem.W.Looks.now
  · have e : (Value.type "int" != Value.type "tuple") = true := by first | decide +kernel | rfl | decide
    rw [e]
    exact hq
theorem sorted_tupO {l : Addr} {vs : List Value} {d : Nat} {k : Value → List Int} {Q : Value → Shared → Prop} (hd : 1 ≤ d) (hl : s.heap.IsList l vs.toArray) (hz : vs.length ≤ sizeLine) (hp : ∀ v ∈ vs, TS.TupInts s.heap v (k v) ∧ (k v).length = d)
    (h : ∀ (h' : Heap) (d : Addr) (out : List Value), SrtO.Srtd (fun v u => lexI (k v) (k u)) out → SrtO.Stb (fun v u => lexI (k v) (k u)) out vs → (∀ b o, s.heap.get? b = some o → h'.get? b = some o) → s.heap.objs.size ≤ d → (∃ n, h'.get? d = some (seqObj "list" out.toArray n)) → Q (.ref d) { s with heap := h' }) :
    wpAny (model prog w) A (call (.builtin "sorted") [.ref l]) Q E s := by
  refine SrtO.sorted_ord (lexI_swo k) hl hz (fun h2 h₁ a ha kk => ?_) fun out hs hb => ?_
  · refine tup_sortable (s := { s with heap := h₁ }) (by omega) hd (fun v hm => ⟨(hp v hm).1.keeps fun b o e _ => (kk b o e).2, (hp v hm).2⟩) fun o e => ?_
    have e' : some o = some (seqObj "list" vs.toArray 0) := e.symm.trans ha
    cases e'
    intro c
    exact absurd (Value.type.inj c) (by decide)
  · exact h _ _ out hs hb (fun b o e => PyProof.Rows.sortedAll_old e) (Nat.le_succ _) (PyProof.Rows.sortedAll_at s.heap vs out.toArray)
end
/-! ### sorted(set of tuples of ints) -/
section
variable {P : Program} {w : World} {A : Around} {E : Value → Shared → Prop} {s : Shared}
/-- rows that are known by their addresses -/
theorem rows_of {L : List (Addr × List Int)} : ∀ {us : List Value}, (∀ u ∈ us, ∃ r ∈ L, u = Value.ref r.1) → ∃ L1 : List (Addr × List Int), us = L1.map (fun r => Value.ref r.1) ∧ ∀ r ∈ L1, r ∈ L
  | [], _ => ⟨[], rfl, fun r hr => by simp at hr⟩
  | u :: us, hu => by
    obtain ⟨r, hr, e⟩ := hu u List.mem_cons_self
    obtain ⟨L1, e1, hL⟩ := rows_of fun z hz => hu z (List.mem_cons_of_mem _ hz)
    refine ⟨r :: L1, by rw [List.map_cons, e, e1], fun z hz => ?_⟩
    rcases List.mem_cons.mp hz with rfl | hz
    · exact hr
    · exact hL z hz
theorem rows_perm {L L1 : List (Addr × List Int)} (inj : ∀ q ∈ L, ∀ r ∈ L, q.1 = r.1 → q = r) (hn : L.Nodup) (hs : ∀ r ∈ L1, r ∈ L) (pm : (L1.map fun r => Value.ref r.1).Perm (L.map fun r => Value.ref r.1)) : L1.Perm L := by
  have hnr : (L.map fun r => Value.ref r.1).Nodup := by
    refine List.pairwise_map.mpr (List.Pairwise.imp_of_mem (fun {x y} hx hy hne e => ?_) hn)
    injection e with e
    exact hne (inj x hx y hy e)
  have hn1 : L1.Nodup := L2.nodup_of_map (pm.nodup_iff.mpr hnr)
  refine (List.perm_ext_iff_of_nodup hn1 hn).mpr fun x => ⟨fun h => hs x h, fun h => ?_⟩
  obtain ⟨y, hy, e⟩ := List.mem_map.mp (pm.mem_iff.mpr (List.mem_map.mpr ⟨x, h, rfl⟩))
  injection e with e
  exact inj y (hs y hy) x h e ▸ hy
theorem sorted_setO {a : Addr} {L : List (Addr × List Int)} {es : Array (Int × Value)} {ep : Nat} {tb : SetTable} {Q : Value → Shared → Prop} (R : SetTR P w s.heap a L es ep tb) (hh : A.handled = none) {d : Nat} (hd1 : 1 ≤ d) (hB : ∀ r ∈ L, r.2.length = d)
    (hQ : ∀ (s' : Shared) (p : Addr) (out : Array Value) (c : Nat) (L' : List (Addr × List Int)), (∀ b u, s.heap.get? b = some u → s'.heap.get? b = some u) → s'.gens = s.gens → s'.os = s.os → s.heap.objs.size ≤ p →
      s'.heap.get? p = some (seqObj "list" out c) → out.toList = L'.map (fun r => Value.ref r.1) → L'.Perm L → L'.Pairwise (fun q r => lexI r.2 q.2 = false) → Q (.ref p) s') :
    wpAny (model P w) A (call (.builtin "sorted") [.ref a]) Q E s := by
  obtain ⟨ob, hob, hex, hdt⟩ := R.ob
  have hfew := R.few
  refine Calls.call_function_entry kind_sorted plain_sorted entry_sorted (args_sorted1 _) ?_
  unfold Builtin.«sorted»
  refine wpAny_bind (m := checkCount "sorted" 1 1 _) (wpAny_pure ?_)
  refine wpAny_bind (collect_set (A := A.in1) hh ⟨ob, hob, hex.1, hdt⟩ R.fits (by unfold scanBound; have := R.size; omega) R.tab.ris R.led fun s1 us keep hsz hg ho pm => ?_)
  have hvals : es.toList.map (·.2) = L.map fun r => Value.ref r.1 := by
    rw [R.rows]
    unfold rowsOf
    rw [List.map_map] <;> rfl
  rw [hvals] at pm
  have inj : ∀ q ∈ L, ∀ r ∈ L, q.1 = r.1 → q = r := fun q hq r hr e => by
    have t1 := R.tup q hq
    rw [e] at t1
    exact Prod.ext e (t1.inj (R.tup r hr))
  have hlen : us.length < 64 := by rw [pm.length_eq, List.length_map]; exact hfew
  have hz : us.length ≤ sizeLine := by rw [sizeLine_eq]; omega
  refine wpAny_bind (wpAny_newList ?_ hz)
  have hnew : (s1.heap.push (seqObj "list" us.toArray 0)).get? s1.heap.objs.size = some (seqObj "list" us.toArray 0) := Heap.get?_push_size _ rfl
  have tup : ∀ r ∈ L, TS.TupInts (s1.heap.push (seqObj "list" us.toArray 0)) (.ref r.1) r.2 := fun r hr => tupInts_of (P := P) (w := w) (isT_keep (R.tup r hr) fun b u e => Heap.get?_push_of_some _ (keep b u e))
  have known : ∀ u ∈ us, ∃ r ∈ L, u = Value.ref r.1 := fun u hu => by
    obtain ⟨r, hr, e⟩ := List.mem_map.mp (pm.mem_iff.mp hu)
    exact ⟨r, hr, e.symm⟩
  let k : Value → List Int := TS.intsOf (s1.heap.push (seqObj "list" us.toArray 0))
  have hk : ∀ u ∈ us, TS.TupInts (s1.heap.push (seqObj "list" us.toArray 0)) u (k u) ∧ (k u).length = d := fun u hu => by
    obtain ⟨r, hr, rfl⟩ := known u hu
    have e : k (.ref r.1) = r.2 := (tup r hr).ints
    rw [e]
    exact ⟨tup r hr, hB r hr⟩
  refine wpAny_bind (wpAny_holding (wpAny_call_entry slot_list_sort ⟨_, hnew, rfl⟩ entry_list_sort (SrtO.list_sort_ord (lexI_swo k) hnew hz (fun h2 => tup_sortable (by omega) hd1 hk fun o e => by
    have e' : some o = some (seqObj "list" us.toArray 0) := e.symm.trans hnew
    cases e'
    intro c
    exact absurd (Value.type.inj c) (by decide)) fun out hs hb => ⟨_, rfl, ?_⟩) (args_list_sort _)))
  obtain ⟨c, hc⟩ := sortedHeap_at (vs := us) (out := out.toArray) hnew
  have hperm : out.Perm us := hb.perm
  obtain ⟨L', e', hs'⟩ := rows_of (L := L) (us := out) fun u hu => known u (hperm.mem_iff.mp hu)
  have pL : L'.Perm L := rows_perm inj (L2.nodup_of_map R.nd) hs' (by rw [← e']; exact hperm.trans pm)
  have pw : L'.Pairwise (fun q r => lexI r.2 q.2 = false) := by
    rw [e'] at hs
    refine List.Pairwise.imp_of_mem (fun {q r} hq hr hle => ?_) (List.pairwise_map.mp hs)
    have e1 : k (.ref q.1) = q.2 := (tup q (hs' q hq)).ints
    have e2 : k (.ref r.1) = r.2 := (tup r (hs' r hr)).ints
    rw [← e1, ← e2]
    exact hle
  refine wpAny_pure ⟨_, rfl, hQ _ s1.heap.objs.size out.toArray c L' (fun b u e => ?_) hg ho hsz hc (by simpa using e') pL pw⟩
  have q := keep b u e
  have hlt := Heap.lt_size q
  show (sortedHeap (s1.heap.push (seqObj "list" us.toArray 0)) s1.heap.objs.size us out.toArray).get? b = some u
  rw [sortedHeap_old (Nat.ne_of_lt hlt) (by rw [size_push']; exact Nat.lt_succ_of_lt hlt)]
  exact Heap.get?_push_of_some _ q
end
/-! ### by data -/
def tupD (ns : List Int) : D := .tuple (ns.map .int)
def asTups : List D → Option (List (List Int))
  | [] => some []
  | .tuple ds :: r => (asInts ds).bind fun ns => (asTups r).map fun s => ns :: s
  | _ => none
theorem asTups_some : ∀ {ds : List D} {ls : List (List Int)}, asTups ds = some ls → ds = ls.map tupD := by
  intro ds
  induction ds with
  | nil => intro ls h; cases h; rfl
  | cons x r ih =>
    intro ls h
    unfold asTups at h
    split at h
    · rename_i e; cases e
    · rename_i ds' r' e
      cases e
      obtain ⟨ns, hn, h⟩ := bind_some h
      obtain ⟨s, hs, rfl⟩ := map_some h
      have := asInts_some hn
      subst this
      rw [ih hs]; rfl
    · cases h
theorem asTups_map : ∀ ls : List (List Int), asTups (ls.map tupD) = some ls
  | [] => rfl
  | n :: ls => by
    show (asInts (n.map PyData.int)).bind (fun ns => (asTups (ls.map tupD)).map fun s => ns :: s) = _
    rw [asInts_map, asTups_map ls]
    rfl
def lexLeI (a b : List Int) : Bool := !lexI b a
theorem lexLeI_tr (a b c : List Int) (h1 : lexLeI a b = true) (h2 : lexLeI b c = true) : lexLeI a c = true := by
  unfold lexLeI at *
  simp only [Bool.not_eq_true'] at *
  exact lexI_tr a b c h1 h2
theorem lexLeI_tot (a b : List Int) : (lexLeI a b || lexLeI b a) = true := by
  unfold lexLeI
  cases h : lexI b a with
  | false => rfl
  | true => rw [lexI_asym _ _ h]; rfl
theorem lexLeI_as (a b : List Int) (h1 : lexLeI a b = true) (h2 : lexLeI b a = true) : a = b := by
  unfold lexLeI at *
  simp only [Bool.not_eq_true'] at *
  exact lexI_eq a b h2 h1
def sortL (ls : List (List Int)) : List (List Int) := ls.mergeSort lexLeI
theorem sortL_perm (ls : List (List Int)) : (sortL ls).Perm ls := List.mergeSort_perm ls _
theorem sortL_sorted (ls : List (List Int)) : (sortL ls).Pairwise (fun a b => lexLeI a b = true) := List.pairwise_mergeSort lexLeI_tr lexLeI_tot ls
theorem sortL_uniq {ls ms : List (List Int)} (hp : ms.Perm ls) (h : ms.Pairwise (fun a b => lexLeI a b = true)) : ms = sortL ls := perm_sorted_eq lexLeI_as (hp.trans (sortL_perm ls).symm) h (sortL_sorted ls)
/-- each once, ascending -/
def setL (ls : List (List Int)) : List (List Int) := sortL (ls.foldr (fun x r => if x ∈ r then r else x :: r) [])
theorem once_mem (ls : List (List Int)) : ∀ x, x ∈ (ls.foldr (fun x r => if x ∈ r then r else x :: r) []) ↔ x ∈ ls := by
  induction ls with
  | nil => simp
  | cons y r ih =>
    intro x
    simp only [List.foldr_cons]
    split
    · rename_i hy
      rw [ih x, List.mem_cons]
      refine ⟨.inr, fun h => h.elim (fun e => ?_) id⟩
      subst e
      exact (ih x).mp hy
    · rw [List.mem_cons, List.mem_cons, ih x]
theorem once_nodup (ls : List (List Int)) : (ls.foldr (fun x r => if x ∈ r then r else x :: r) []).Nodup := by
  induction ls with
  | nil => simp
  | cons y r ih =>
    simp only [List.foldr_cons]
    split
    · exact ih
    · rename_i hy
      exact List.nodup_cons.mpr ⟨hy, ih⟩
theorem setL_mem (ls : List (List Int)) (x : List Int) : x ∈ setL ls ↔ x ∈ ls := by
  unfold setL
  rw [(sortL_perm _).mem_iff, once_mem]
theorem setL_sorted (ls : List (List Int)) : (setL ls).Pairwise (fun a b => lexLeI a b = true) := sortL_sorted _
theorem setL_nodup (ls : List (List Int)) : (setL ls).Nodup := (sortL_perm _).nodup_iff.mpr (once_nodup ls)
theorem setL_uniq {ls ms : List (List Int)} (hm : ∀ x, x ∈ ms ↔ x ∈ ls) (hn : ms.Nodup) (h : ms.Pairwise (fun a b => lexLeI a b = true)) : ms = setL ls := by
  refine sortL_uniq ((List.perm_ext_iff_of_nodup hn (once_nodup ls)).mpr fun x => ?_) h
  rw [hm x, once_mem]
section
variable {K : PySem.W.Frag}
theorem rp_tupD {S H : Hp} {v : V} {ns : List Int} (e : Ex S H) (r : Rp K S v (tupD ns)) : ∃ t, v = .ref t ∧ SqT K H t (ns.map V.int) := by
  obtain ⟨a, xs, rfl, hx, rx⟩ := r.tuple_inv
  have := rx.ints_inv
  subst this
  exact ⟨a, rfl, SqT.of (e _ _ hx)⟩
/-- sorted(set), any ints -/
def rSortSet (K : PySem.W.Frag) (P : Program) (w : World) : List V → Hp → VK → Prop := fun vs H Q => ∃ (a : Addr) (L : List (Addr × List Int)) (d : Nat), vs = [V.ref a] ∧ H a = some (SetTO P w a L) ∧ (∀ r ∈ L, SqT K H r.1 (r.2.map V.int)) ∧ 1 ≤ d ∧ (∀ r ∈ L, r.2.length = d) ∧
  ∀ (M : List (Addr × List Int)) (p : Addr), M.Perm L → (M.map (·.2)).Nodup → M.length < 64 → M.Pairwise (fun q r => lexI r.2 q.2 = false) → H p = none → Q (.ref p) (upd H p (.lst (M.map fun r => V.ref r.1)))
theorem vals_refs : ∀ M : List (Addr × List Int), Vals (M.map fun r => V.ref r.1) (M.map fun r => Value.ref r.1)
  | [] => .nil
  | r :: M => .cons (show RelV (.ref r.1) (.ref r.1) from rfl) (vals_refs M)
theorem cr_sortSet {X : Cx} (hc : X.calm = true) : CallR X (.builtin "sorted") (rSortSet X.K X.prog X.w) := by
  intro pins s σ H vs us Q I r h
  obtain ⟨a, L, d, rfl, ha, htup, hd, hlen, q⟩ := h
  have R0 : SetT0 X.prog X.w s.heap a L := (I.hok a _ ha).1
  obtain ⟨es, ep, tb, R⟩ := R0.full fun r hr => I.isT (htup r hr)
  rw [Vals.ref1 r]
  refine sorted_setO R (I.ok.hd hc) hd hlen fun s' p out c M keep hg ho hsz hout hrows pm pw => ?_
  have few : M.length < 64 := by rw [pm.length_eq]; exact R.few
  have small : (M.map fun r => V.ref r.1).length ≤ sizeLine := by rw [List.length_map, sizeLine_eq]; omega
  have free : H p = none := I.hok.fresh hsz
  have vals : Vals (M.map fun r => V.ref r.1) out.toList := by rw [hrows]; exact vals_refs M
  have J : Inv X pins σ (upd H p (.lst (M.map fun r => V.ref r.1))) { s with heap := s'.heap, gens := s'.gens, drawn := s'.drawn, toks := s'.toks } := I.call (ch := []) (Un.laid keep hsz free) (I.hok.laid keep hsz ⟨small, out.toList, c, vals, hout⟩) (by rw [hg]; exact I.bare) (fun _ z => nomatch z)
  have same : s' = { s with heap := s'.heap, gens := s'.gens, drawn := s'.drawn, toks := s'.toks } := by
    cases s'
    cases s
    cases ho
    rfl
  rw [same]
  exact ⟨.ref p, _, J, rfl, q M p pm ((pm.map (·.2)).nodup_iff.mpr R.nd) few pw free⟩
theorem rp_tups {S H : Hp} (e : Ex S H) : ∀ {vs : List V} {ls : List (List Int)}, RpAll K S vs (ls.map tupD) → ∃ ks : List (Addr × List Int), vs = ks.map (fun r => V.ref r.1) ∧ ks.map (·.2) = ls ∧ ∀ r ∈ ks, SqT K H r.1 (r.2.map V.int) ∧ Rp K S (.ref r.1) (tupD r.2)
  | [], [], _ => ⟨[], rfl, rfl, fun r hr => by simp at hr⟩
  | v :: vs, n :: ls, h => by
    cases h with
    | cons h1 h2 =>
      obtain ⟨ks, e1, e2, e3⟩ := rp_tups e h2
      obtain ⟨t, rfl, ht⟩ := rp_tupD e h1
      refine ⟨(t, n) :: ks, by rw [List.map_cons, ← e1], by rw [List.map_cons, e2], fun r hr => ?_⟩
      rcases List.mem_cons.mp hr with rfl | hr
      · exact ⟨ht, h1⟩
      · exact e3 r hr
  | [], _ :: _, h => by cases h
  | _ :: _, [], h => by cases h
theorem rp_of_tups {S : Hp} : ∀ (M : List (Addr × List Int)), (∀ r ∈ M, Rp K S (.ref r.1) (tupD r.2)) → RpAll K S (M.map fun r => V.ref r.1) ((M.map (·.2)).map tupD)
  | [], _ => .nil
  | r :: M, h => .cons (h r List.mem_cons_self) (rp_of_tups M fun z hz => h z (List.mem_cons_of_mem _ hz))
def oneLen (ls : List (List Int)) : Prop := 1 ≤ (ls.headD [0]).length ∧ ∀ n ∈ ls, n.length = (ls.headD [0]).length
instance {ls : List (List Int)} : Decidable (oneLen ls) := by unfold oneLen; exact inferInstance
def dSortSet : D → Option D
  | .list ds => (asTups ds).bind fun ls => if ls.length < 64 ∧ oneLen ls then some (.list ((setL ls).map tupD)) else none
  | _ => none
theorem semP_sortSet {P : Program} {w : World} {m : List Nat} {te : TE} {F : En → Option D} (h : SemP K m te F) : SemP K m (tCB (rSortSet K P w) (tCons (tCB (rSetOfT K P w) (tCons te tNil)) tNil)) (f1 dSortSet F) := fun env σ S H R d e Q q => by
  obtain ⟨a, ea, e⟩ := bind_some e
  unfold dSortSet at e
  split at e
  · rename_i ds
    obtain ⟨ls, hls, e'⟩ := bind_some e
    clear e
    have := asTups_some hls
    subst this
    by_cases hc : ls.length < 64 ∧ oneLen ls
    case neg => rw [if_neg hc] at e'; cases e'
    rw [if_pos hc] at e'
    cases e'
    refine h env σ S H R _ ea _ fun v S1 H1 k1 r => ?_
    obtain ⟨l, xs, rfl, hx, rx⟩ := r.list_inv
    obtain ⟨ks, rfl, e2, e3⟩ := rp_tups k1.x rx
    refine ⟨l, ks, rfl, SqL.of (k1.x _ _ hx), fun p hp => (e3 p hp).1, by have := hc.1; rw [← e2, List.length_map] at this; exact this, fun b L hb hsub hall => ?_⟩
    have g2 : Gz S1 H1 S1 (upd H1 b (SetTO P w b L)) := ⟨Ex.refl _, Ex.new hb, fun _ _ => rfl, fun c o ec => by
      rw [upd_ne (ne_of_none (k1.x c o ec) hb)]
      exact k1.x c o ec, k1.z.upd trivial⟩
    refine ⟨b, L, (ls.headD [0]).length, rfl, upd_same, fun p hp => ex_t (Ex.new hb) (e3 p (hsub p hp)).1, hc.2.1, fun p hp => hc.2.2 p.2 (by rw [← e2]; exact List.mem_map.mpr ⟨p, hsub p hp, rfl⟩), fun M p pm nd few pw hp => ?_⟩
    have em : M.map (·.2) = setL ls := by
      refine setL_uniq (fun x => ?_) nd (List.pairwise_map.mpr (pw.imp fun h => by unfold lexLeI; rw [h]; rfl))
      rw [(pm.map (·.2)).mem_iff]
      constructor
      · intro hx
        obtain ⟨y, hy, rfl⟩ := List.mem_map.mp hx
        rw [← e2]
        exact List.mem_map.mpr ⟨y, hsub y hy, rfl⟩
      · intro hx
        rw [← e2] at hx
        obtain ⟨y, hy, rfl⟩ := List.mem_map.mp hx
        exact hall y hy
    have rM := rp_of_tups (K := K) (S := S1) M fun r hr => (e3 r (hsub r (pm.mem_iff.mp hr))).2
    rw [em] at rM
    have hz : ((setL ls).map tupD).length ≤ sizeLine := by
      rw [← em, List.length_map, List.length_map, sizeLine_eq]
      omega
    obtain ⟨k3, k4⟩ := newL g2.x g2.z rM hz hp
    exact q _ _ _ ((k1.trans g2).trans k3) k4
  · cases e
theorem eSortSet {ι : Type} {X : ι → Cx} {P : Program} {w : World} {mg : Str → Option Value} {base : Heap} {k : Nat} {m : List Nat} {e : Expr} {p1 p2 q1 q2 : Pos} {F : En → Option D} (C : Cw X P w K mg base k) (hs : mg "sorted" = none) (ht : mg "set" = none) (h : DE X K m e F)
    (hg1 : ∀ i, Gl (X i) "sorted" := by intro _; rfl) (hg2 : ∀ i, Gl (X i) "set" := by intro _; rfl)
    (he1 : ∀ i, starEach [.Call (.Name "set" p2) [e] [] q2] (X i).env = (false, eval (.Call (.Name "set" p2) [e] [] q2) (X i).env) :: starEach [] (X i).env := by intro _; rfl) (he2 : ∀ i, starEach [e] (X i).env = (false, eval e (X i).env) :: starEach [] (X i).env := by intro _; rfl)
    (hp1 : ∀ i, (backTo q1 (starEach [] (X i).env)).any (·.1) = false := by intro _; rfl) (hp2 : ∀ i, (backTo q2 (starEach [] (X i).env)).any (·.1) = false := by intro _; rfl) :
    DE X K m (.Call (.Name "sorted" p1) [.Call (.Name "set" p2) [e] [] q2] [] q1) (f1 dSortSet F) := by
  obtain ⟨t, pp, s⟩ := h
  refine ⟨_, fun i => ?_, semP_sortSet (P := P) (w := w) s⟩
  have a1 := C.hP i; have a2 := C.hw i; have a3 := C.hK i; have a4 := C.hm i
  have b1 := @cr_sortSet (X i) (C.calm i)
  have b2 := @cr_setOfT (X i) (C.calm i) (by have := (C.room i).un; omega)
  rw [a1, a2, a3] at b1 b2
  exact pe_callB b1 (hg1 i) (by rw [a4]; exact hs) (by decide +kernel) (pa_cons (pe_callTy b2 (hg2 i) (by rw [a4]; exact ht) (by decide +kernel) (pa_cons (pp i) pa_nil (he2 i)) (by decide) (by decide) (he2 i) (hp2 i)) pa_nil (he1 i)) (by decide) (by decide) (he1 i) (hp1 i)
end
/-! ### sorted(list of tuples of ints) -/
def rSortTO (K : PySem.W.Frag) : List V → Hp → VK → Prop := fun vs H Q => ∃ (a : Addr) (xs : List V) (k : V → List Int) (d : Nat), vs = [V.ref a] ∧ SqL K H a xs ∧ 1 ≤ d ∧ (∀ x ∈ xs, ∃ t, x = V.ref t ∧ SqT K H t ((k x).map V.int) ∧ (k x).length = d) ∧
  ∀ ys p, SrtO.Srtd (fun x y => lexI (k x) (k y)) ys → SrtO.Stb (fun x y => lexI (k x) (k y)) ys xs → H p = none → Q (.ref p) (upd H p (.lst ys))
theorem cr_sortTO {X : Cx} : CallR X (.builtin "sorted") (rSortTO X.K) := by
  intro pins s σ H vs us Q I r h
  obtain ⟨a, xs, k, d, rfl, hs, hd, hx, q⟩ := h
  obtain ⟨its, rv, hl, hz⟩ := I.list hs
  obtain ⟨u, rfl, ru⟩ := vals1 r
  obtain rfl : u = Value.ref a := ru
  obtain ⟨e1, e2⟩ := refs_back rv fun x m => let ⟨t, e, _⟩ := hx x m; ⟨t, e⟩
  refine sorted_tupO (k := fun u => k (backV u)) hd hl.isList (by rw [← rv.length]; exact hz) (fun v hv => ?_) fun h' p out h1 h2 kp hp hn => ?_
  · obtain ⟨t, rfl⟩ := e2 v hv
    have hm : V.ref t ∈ xs := by rw [e1]; exact List.mem_map.mpr ⟨_, hv, rfl⟩
    obtain ⟨t', e, ht, hlen⟩ := hx _ hm
    cases e
    exact ⟨tupI_raw I ht, hlen⟩
  · have h3 : ∀ u ∈ out, ∃ a, u = Value.ref a := fun u hu => e2 u (h2.perm.mem_iff.mp hu)
    obtain ⟨n, hn⟩ := hn
    have hb : SrtO.Stb (fun x y => lexI (k x) (k y)) (out.map backV) xs := by
      rw [e1]
      exact SrtO.Stb.map (lexI_swo k) backV h2
    exact ⟨.ref p, upd H p (.lst (out.map backV)), I.laid (t' := s.toks) kp hp ⟨by rw [hb.len]; exact hz, out, n, vals_back h3, hn⟩, rfl, q _ p (SrtO.srtd_map h1) hb (I.hok.fresh hp)⟩
def unI : V → Int
  | .int i => i
  | _ => 0
def tupAt (H : Hp) (v : V) : List Int := match v with
  | .ref a => match H a with
    | some (.tup xs) => xs.map unI
    | _ => []
  | _ => []
section
variable {K : PySem.W.Frag}
theorem rp_tupAt {S H : Hp} {v : V} {ns : List Int} (e : Ex S H) (r : Rp K S v (tupD ns)) : tupAt H v = ns ∧ ∃ t, v = .ref t ∧ SqT K H t (ns.map V.int) := by
  obtain ⟨a, xs, rfl, hx, rx⟩ := r.tuple_inv
  have := rx.ints_inv
  subst this
  have h1 := e _ _ hx
  refine ⟨?_, a, rfl, SqT.of h1⟩
  unfold tupAt
  simp only [h1, List.map_map]
  exact List.map_id'' (fun _ => rfl) ns
theorem rp_tupAll {S H : Hp} (e : Ex S H) : ∀ {vs : List V} {ls : List (List Int)}, RpAll K S vs (ls.map tupD) → vs.map (tupAt H) = ls ∧ ∀ v ∈ vs, Rp K S v (tupD (tupAt H v)) ∧ tupAt H v ∈ ls
  | [], [], _ => ⟨rfl, fun _ h => by simp at h⟩
  | v :: vs, n :: ls, h => by
    cases h with
    | cons h1 h2 =>
      obtain ⟨k1, k2⟩ := rp_tupAll e h2
      obtain ⟨k3, _⟩ := rp_tupAt e h1
      refine ⟨by rw [List.map_cons, k1, k3], fun w hw => ?_⟩
      rcases List.mem_cons.mp hw with rfl | hw
      · rw [k3]; exact ⟨h1, List.mem_cons_self⟩
      · exact ⟨(k2 w hw).1, List.mem_cons_of_mem _ (k2 w hw).2⟩
  | [], _ :: _, h => by cases h
  | _ :: _, [], h => by cases h
theorem rp_of_tupAt {S H : Hp} : ∀ (vs : List V), (∀ v ∈ vs, Rp K S v (tupD (tupAt H v))) → RpAll K S vs ((vs.map (tupAt H)).map tupD)
  | [], _ => .nil
  | v :: vs, h => .cons (h v List.mem_cons_self) (rp_of_tupAt vs fun w hw => h w (List.mem_cons_of_mem _ hw))
/-- sorted: ints, pairs, tuples of one length -/
def dSortT : List D → Option D
  | [.list ds] => (asTups ds).bind fun ls => if oneLen ls then some (.list ((sortL ls).map tupD)) else none
  | _ => none
theorem calld_sortT : CallD K (rSortTO K) dSortT := fun S H xs as d e z r g Q q => by
  unfold dSortT at g
  split at g
  · obtain ⟨ls, hls, g'⟩ := bind_some g
    clear g
    have := asTups_some hls
    subst this
    by_cases hc : oneLen ls
    case neg => rw [if_neg hc] at g'; cases g'
    rw [if_pos hc] at g'
    cases g'
    obtain ⟨v, rfl, rv⟩ := r.one_inv
    obtain ⟨l, ys, rfl, hx, rx⟩ := rv.list_inv
    have hl : ys.length ≤ sizeLine := z l _ (e _ _ hx)
    obtain ⟨k1, k2⟩ := rp_tupAll e rx
    refine ⟨l, ys, tupAt H, (ls.headD [0]).length, rfl, SqL.of (e _ _ hx), hc.1, fun v hv => ?_, fun zs p hs hb hp => ?_⟩
    · obtain ⟨_, t, h1, h2⟩ := rp_tupAt e (k2 v hv).1
      exact ⟨t, h1, h2, hc.2 _ (k2 v hv).2⟩
    · have hperm : zs.Perm ys := hb.perm
      have r2 := rp_of_tupAt (K := K) (S := S) (H := H) zs fun v hv => (k2 v (hperm.mem_iff.mp hv)).1
      have e2 : zs.map (tupAt H) = sortL ls := by
        refine sortL_uniq ?_ (List.pairwise_map.mpr (hs.imp fun {a b} h => ?_))
        · rw [← k1]; exact hperm.map _
        · have h' : lexI (tupAt H b) (tupAt H a) = false := h
          unfold lexLeI
          rw [h']; rfl
      rw [e2] at r2
      have hz2 : zs.length ≤ sizeLine := by rw [hperm.length_eq]; exact hl
      obtain ⟨k3, k4⟩ := newL e z r2 (by rw [← r2.length]; exact hz2) hp
      exact q _ _ _ k3 k4
  · cases g
def rSortAll (K : PySem.W.Frag) : List V → Hp → VK → Prop := fun xs H Q => CS.rSortU K xs H Q ∨ rSortTO K xs H Q
def dSortAll : List D → Option D := fun as => match dSorted as with
  | some d => some d
  | none => dSortT as
theorem calld_sortAll : CallD K (rSortAll K) dSortAll := fun S H xs as d e z r g Q q => by
  unfold dSortAll at g
  split at g
  · rename_i d' hd
    cases g
    exact .inl (calld_sorted S H xs as _ e z r hd Q q)
  · exact .inr (calld_sortT S H xs as d e z r g Q q)
theorem bSortAll {ι : Type} {X : ι → Cx} : BR X K "sorted" (fun K => rSortAll K) dSortAll := ⟨fun _ => CallR.or cr_sortU cr_sortTO, calld_sortAll⟩
/-! ### tuple(xs), list(xs) -/
def dTupOf : List D → Option D
  | [.list ds] => some (.tuple ds)
  | [.tuple ds] => some (.tuple ds)
  | _ => none
def dListOf : List D → Option D
  | [.list ds] => some (.list ds)
  | [.tuple ds] => some (.list ds)
  | _ => none
def rTupOf (K : PySem.W.Frag) : List V → Hp → VK → Prop := fun xs H Q => ∃ p ys, xs = [.ref p] ∧ ((SqL K H p ys ∧ ∀ l, H l = none → Q (.ref l) (upd H l (.tup ys))) ∨ (SqT K H p ys ∧ Q (.ref p) H))
def rListOf (K : PySem.W.Frag) : List V → Hp → VK → Prop := fun xs H Q => ∃ p ys, xs = [.ref p] ∧ (SqL K H p ys ∨ SqT K H p ys) ∧ ∀ l, H l = none → Q (.ref l) (upd H l (.lst ys))
theorem calld_tupOf : CallD K (rTupOf K) dTupOf := fun S H xs as d e z r g Q q => by
  unfold dTupOf at g
  split at g
  · cases g
    obtain ⟨v, rfl, rv⟩ := r.one_inv
    obtain ⟨l, ys, rfl, hx, rx⟩ := rv.list_inv
    have hl : ys.length ≤ sizeLine := z l _ (e _ _ hx)
    refine ⟨l, ys, rfl, .inl ⟨SqL.of (e _ _ hx), fun p hp => ?_⟩⟩
    obtain ⟨k1, k2⟩ := newT e z rx (by rw [← rx.length]; exact hl) hp
    exact q _ _ _ k1 k2
  · cases g
    obtain ⟨v, rfl, rv⟩ := r.one_inv
    obtain ⟨l, ys, rfl, hx, rx⟩ := rv.tuple_inv
    exact ⟨l, ys, rfl, .inr ⟨SqT.of (e _ _ hx), q _ S H (Gz.refl e z) (.tup hx rx)⟩⟩
  · cases g
theorem calld_listOf : CallD K (rListOf K) dListOf := fun S H xs as d e z r g Q q => by
  unfold dListOf at g
  split at g
  · cases g
    obtain ⟨v, rfl, rv⟩ := r.one_inv
    obtain ⟨l, ys, rfl, hx, rx⟩ := rv.list_inv
    have hl : ys.length ≤ sizeLine := z l _ (e _ _ hx)
    refine ⟨l, ys, rfl, .inl (SqL.of (e _ _ hx)), fun p hp => ?_⟩
    obtain ⟨k1, k2⟩ := newL e z rx (by rw [← rx.length]; exact hl) hp
    exact q _ _ _ k1 k2
  · cases g
    obtain ⟨v, rfl, rv⟩ := r.one_inv
    obtain ⟨l, ys, rfl, hx, rx⟩ := rv.tuple_inv
    have hl : ys.length ≤ sizeLine := z l _ (e _ _ hx)
    refine ⟨l, ys, rfl, .inr (SqT.of (e _ _ hx)), fun p hp => ?_⟩
    obtain ⟨k1, k2⟩ := newL e z rx (by rw [← rx.length]; exact hl) hp
    exact q _ _ _ k1 k2
  · cases g
theorem tyTup {ι : Type} {X : ι → Cx} : TR X K "tuple" (fun K => rTupOf K) dTupOf := ⟨fun _ => call_tuple_of, calld_tupOf⟩
theorem tyList {ι : Type} {X : ι → Cx} : TR X K "list" (fun K => rListOf K) dListOf := ⟨fun _ => call_list_of, calld_listOf⟩
end
end CS

/-! CsU: fresh lists handed on, several fresh lists at once. -/
namespace CS
open PySem PySem.Spec PyProof.Rows L2
open Evl (Ex ex_l ex_t)
section
variable {K : PySem.W.Frag} {m : List Nat}
/-- f(a fresh list, ..), f changes it; nobody else has it -/
def gCallMF (g : List D → List D → Option (D × List D)) (Ge : En → Option (D × En)) (Ga : En → Option (List D × En)) : En → Option (D × En) := fun env => (Ge env).bind fun r => (asL r.1).bind fun ds => (Ga r.2).bind fun a => (g ds a.1).map fun z => (z.1, a.2)
theorem sem_callMF {te : TE} {ta : TA} {g : List D → List D → Option (D × List D)} {Ge : En → Option (D × En)} {Ga : En → Option (List D × En)} {E : XK} (he : SemF K m te Ge) (ha : SemA K m ta Ga) : Sem K m (tCall (spM K g) [] E (tCons te ta)) (gCallMF g Ge Ga) := fun env σ S H R d env' e Q q => by
  obtain ⟨⟨d0, e1⟩, ed, e⟩ := bind_some e
  obtain ⟨ds, eds, e⟩ := bind_some e
  obtain ⟨⟨as, e2⟩, ea, e⟩ := bind_some e
  obtain ⟨⟨z, ds'⟩, ez, e⟩ := map_some e
  cases e
  cases asL_some eds
  refine he env σ S H R _ e1 ed _ fun p xs ds0 S1 H1 hd g1 R1 n0 n1 hp1 rp1 => ha e1 σ S1 H1 R1 as _ ea _ fun ws S2 H2 g2 R2 r2 => ?_
  cases hd
  show spM K g ((V.ref p :: ws) ++ []) H2 Q E
  rw [List.append_nil]
  have np : ¬ Own m σ p := R.notOwn n0
  have hp2 : H2 p = some (.lst xs) := g2.h _ _ hp1 np
  have sp2 : S2 p = none := (g2.n p np (by rw [hp1]; simp)).trans n1
  refine ⟨S2, p, xs, ds, ws, as, _, ds', rfl, R2.ex, R2.sz, sp2, hp2, rp1.mono g2.s, r2, ez, fun v S3 H3 xs' g3 x3 z3 sp3 hp3 r3 rv => ?_⟩
  refine q v S3 H3 ((g1.trans g2).then (fun c hc => .inr (by subst hc; exact n0)) g3) ?_ rv
  refine ⟨x3, z3, R2.len, fun i d hi e => ?_, fun i hi => ?_, R2.inj⟩
  · obtain ⟨w, w1, w2⟩ := R2.sh i d hi e
    exact ⟨w, w1, w2.mono g3.s⟩
  · obtain ⟨p', ws', es, w1, w2, w3, w4, w5⟩ := R2.ow i hi
    have hne : p' ≠ p := fun e => np ⟨i, hi, e ▸ w2⟩
    exact ⟨p', ws', es, w1, w2, (g3.n p' hne (by rw [w4]; simp)).trans w3, g3.h p' _ w4 hne, w5.mono g3.s⟩
end
section
variable {ι : Type} {X : ι → Cx} {P : Program} {w : World} {K : PySem.W.Frag} {mg : Str → Option Value} {base : Heap} {k j : Nat} {m : List Nat} {x : Str} {st : Stmt} {ps : List Str} {e : Expr} {es : List Expr} {p pos : Pos} {Ge : En → Option (D × En)} {Ga : En → Option (List D × En)}
theorem mCallMF {g : List D → List D → Option (D × List D)} (C : Cw X P w K mg base k) (F : Fn P w K mg base j x st ps (spM K g)) (h : DF X K m e Ge) (ha : DAM X K m es Ga) (hjk : j ≤ k := by omega)
    (hgl : ∀ i, Gl (X i) x := by intro _; rfl) (hdb : (x == ("__debug__" : Str)) = false := by decide) (he : ∀ i, starEach (e :: es) (X i).env = (false, eval e (X i).env) :: starEach es (X i).env := by intro _; rfl) (hpl : ∀ i, (backTo pos (starEach es (X i).env)).any (·.1) = false := by intro _; rfl) :
    DM X K m (.Call (.Name x p) (e :: es) [] pos) (gCallMF g Ge Ga) := by
  obtain ⟨t1, p1, s1⟩ := h
  obtain ⟨t, pp, s⟩ := ha
  exact ⟨_, pCall C F (fun i => pa_cons (p1 i) (pp i) (he i)) hjk hgl hdb he hpl, sem_callMF s1 s⟩
end
/-! ### results that are new lists -/
section
variable {K : PySem.W.Frag} {m : List Nat}
theorem fresh_new {env : En} {σ : SL} {S0 H0 S H : Hp} {p : Addr} {xs : List V} (R : Rel K m env σ S H) (g : Gm (Own m σ) S0 H0 S H) (hp : H p = none) (hz : xs.length ≤ sizeLine) :
    Gm (Own m σ) S0 H0 S (upd H p (.lst xs)) ∧ Rel K m env σ S (upd H p (.lst xs)) ∧ H0 p = none ∧ S p = none := by
  have hS := ex_free R.ex hp
  have h0 : H0 p = none := by
    cases c : H0 p with
    | none => rfl
    | some u => exact absurd hp (g.d p (by rw [c]; simp))
  have gz : Gz S H S (upd H p (.lst xs)) := ⟨Ex.refl _, Ex.new hp, fun _ _ => rfl, fun a o e => by
    rw [upd_ne (ne_of_none e hS)]; exact R.ex a o e, R.sz.upd hz⟩
  exact ⟨g.trans gz.gm, R.gz gz, h0, hS⟩
/-- [..] * k -/
def dRepL : D → D → Option D
  | .list a, .int k => if -(2 ^ 63) ≤ k ∧ k < 2 ^ 63 ∧ a.length * k.toNat ≤ sizeLine then some (.list (repD k.toNat a)) else none
  | _, _ => none
theorem semF_rep {ta tb : TE} {Ga Gb : En → Option (D × En)} (ha : Sem K m ta Ga) (hb : Sem K m tb Gb) : SemF K m (tOp rRep ta tb) (g2 dRepL Ga Gb) := fun env σ S H R d env' e Q q => by
  obtain ⟨⟨a, e1⟩, ea, u1⟩ := bind_some e
  clear e
  obtain ⟨⟨b, e2⟩, eb, u2⟩ := bind_some u1
  clear u1
  obtain ⟨z, ez, u3⟩ := map_some u2
  clear u2
  cases u3
  dsimp only at ez
  unfold dRepL at ez
  split at ez
  · rename_i ds k
    split at ez <;> cases ez
    rename_i hc
    refine ha env σ S H R _ e1 ea _ fun x S1 H1 g1 R1 r1 => hb e1 σ S1 H1 R1 _ _ eb _ fun y S2 H2 g2' R2 r2 => ?_
    obtain ⟨l, xs, rfl, hx, rx⟩ := r1.list_inv
    have hx2 := R2.ex _ _ (g2'.s _ _ hx)
    refine ⟨l, k, xs, rfl, r2.int_inv, hx2, hc.1, hc.2.1, by rw [rx.length]; exact hc.2.2, fun p hp => ?_⟩
    have r3 := (rx.mono g2'.s).rep k.toNat
    have hz : (List.replicate k.toNat xs).flatten.length ≤ sizeLine := by
      have := repD_length k.toNat ds
      unfold repD at this
      rw [r3.length, this, Nat.mul_comm]
      exact hc.2.2
    obtain ⟨w1, w2, w3, w4⟩ := fresh_new R2 (g1.trans g2') hp hz
    exact q p _ _ _ _ rfl w1 w2 w3 w4 upd_same r3
  · cases ez
/-- list(xs), a new list -/
theorem semF_listOf {ta : TA} {Ga : En → Option (List D × En)} (ha : SemA K m ta Ga) : SemF K m (tCB (rListOf K) ta) (gCall dListOf Ga) := fun env σ S H R d env' e Q q => by
  obtain ⟨⟨as, e1⟩, ea, e⟩ := bind_some e
  obtain ⟨z, ez, e⟩ := map_some e
  cases e
  refine ha env σ S H R as _ ea _ fun vs S1 H1 g1 R1 r1 => ?_
  dsimp only at ez
  unfold dListOf at ez
  split at ez
  · cases ez
    obtain ⟨v, rfl, rv⟩ := r1.one_inv
    obtain ⟨l, ys, rfl, hx, rx⟩ := rv.list_inv
    have hx2 := R1.ex _ _ hx
    have hl : ys.length ≤ sizeLine := R1.sz _ _ hx2
    refine ⟨l, ys, rfl, .inl (SqL.of hx2), fun p hp => ?_⟩
    obtain ⟨w1, w2, w3, w4⟩ := fresh_new R1 g1 hp hl
    exact q p _ _ _ _ rfl w1 w2 w3 w4 upd_same rx
  · cases ez
    obtain ⟨v, rfl, rv⟩ := r1.one_inv
    obtain ⟨l, ys, rfl, hx, rx⟩ := rv.tuple_inv
    have hx2 := R1.ex _ _ hx
    have hl : ys.length ≤ sizeLine := R1.sz _ _ hx2
    refine ⟨l, ys, rfl, .inr (SqT.of hx2), fun p hp => ?_⟩
    obtain ⟨w1, w2, w3, w4⟩ := fresh_new R1 g1 hp hl
    exact q p _ _ _ _ rfl w1 w2 w3 w4 upd_same rx
  · cases ez
end
section
variable {ι : Type} {X : ι → Cx} {K : PySem.W.Frag} {k : Nat} {m : List Nat} {a b e : Expr} {es : List Expr} {p pos : Pos} {Ga Gb : En → Option (D × En)} {Gl' : En → Option (List D × En)}
theorem fRep (C : Cok X K k) (ha : DM X K m a Ga) (hb : DM X K m b Gb) : DF X K m (.BinOp a .Mult b pos) (g2 dRepL Ga Gb) := by
  obtain ⟨ta, pa, sa⟩ := ha
  obtain ⟨tb, pb, sb⟩ := hb
  exact ⟨_, fun i => pe_op op_rep (pa i) (pb i), semF_rep sa sb⟩
theorem fList {x : Str} {mg : Str → Option Value} (C : Cok X K k) (hmg : mg x = none) (ha : DAM X K m (e :: es) Gl') (hv : bootBuiltins x = some (.type "list") := by decide +kernel)
    (hm : ∀ i, (X i).mg = mg := by intro _; rfl) (hgl : ∀ i, Gl (X i) x := by intro _; rfl) (hn : x ≠ "__name__" := by decide) (hdb : (x == ("__debug__" : Str)) = false := by decide) (he : ∀ i, starEach (e :: es) (X i).env = (false, eval e (X i).env) :: starEach es (X i).env := by intro _; rfl) (hpl : ∀ i, (backTo pos (starEach es (X i).env)).any (·.1) = false := by intro _; rfl) :
    DF X K m (.Call (.Name x p) (e :: es) [] pos) (gCall dListOf Gl') := by
  obtain ⟨t, pp, s⟩ := ha
  exact ⟨_, fun i => pe_callTy (by have h := @call_list_of (X i); rw [C.hK i] at h; exact h) (hgl i) (by rw [hm i]; exact hmg) hv (pp i) hn hdb (he i) (hpl i), semF_listOf s⟩
end
/-! ### range of what changes owned lists -/
section
variable {K : PySem.W.Frag} {m : List Nat}
theorem semI_rng1 {t : TA} {Ga : En → Option (List D × En)} (h : SemA K m t Ga) : SemI K m (iRng1 t) (fun env => (Ga env).bind fun r => (rng1 r.1).map fun ds => (ds, r.2)) := fun env σ S H R ds env' e Q q => by
  obtain ⟨⟨as, e1⟩, ea, u1⟩ := bind_some e
  clear e
  obtain ⟨z, ez, u2⟩ := map_some u1
  clear u1
  cases u2
  dsimp only at ez
  unfold rng1 at ez
  split at ez
  · rename_i j
    by_cases hj : j ≤ sizeLine ∧ -(2 ^ 62) ≤ j
    case neg => rw [if_neg hj] at ez; cases ez
    rw [if_pos hj] at ez
    cases ez
    refine h env σ S H R _ _ ea _ fun v S1 H1 g R1 r => ?_
    obtain ⟨w, rfl, r1⟩ := r.one_inv
    have hz : (sizeLine : Nat) = 16777216 := sizeLine_eq
    exact ⟨j, by rw [r1.int_inv], hj.2, by have := hj.1; omega, q _ S1 H1 g R1 (by rw [rangeD_length]; have := hj.1; omega) walkD_range⟩
  · cases ez
end
section
variable {ι : Type} {X : ι → Cx} {K : PySem.W.Frag} {k : Nat} {m : List Nat} {tg a : Expr} {p pos : Pos} {mg : Str → Option Value} {Ga : En → Option (List D × En)}
theorem diR1M (C : Cok X K k) (hmg : mg "range" = none) (h : DAM X K m [a] Ga) (hm : ∀ i, (X i).mg = mg := by intro _; rfl) (hgl : ∀ i, Gl (X i) "range" := by intro _; rfl) (hs : ∀ i, starEach [a] (X i).env = [(false, eval a (X i).env)] := by intro _; rfl) :
    DIM X K m tg (.Call (.Name "range" p) [a] [] pos) (fun env => (Ga env).bind fun r => (rng1 r.1).map fun ds => (ds, r.2)) := let ⟨t, pp, s⟩ := h; ⟨iRng1 t, fun i => pi_range1 (hgl i) (by rw [hm i]; exact hmg) (pp i) (hs i), semI_rng1 s⟩
end
/-! ### zip of lists or of tuples -/
section
variable {K : PySem.W.Frag} {m : List Nat}
theorem walk_zipTup {a b : Addr} {xs ys : List V} {n : Nat} (hn : n = min xs.length ys.length) : Walk (RZ.ItzT K a b) n (fun H => SqT K H a xs ∧ SqT K H b ys) (YPair (fun i => xs[i]?) (fun i => ys[i]?)) := by
  subst hn
  refine ⟨fun i _ hi hh => ⟨xs, ys, xs[i]'(by omega), ys[i]'(by omega), hh.1, hh.2, List.getElem?_eq_getElem _, List.getElem?_eq_getElem _⟩, fun _ hh => ⟨xs, ys, hh.1, hh.2, by omega⟩, fun i H v H' _ hh yy => ?_⟩
  obtain ⟨T, x, z, e1, e2, e3, e4, e5⟩ := yy
  exact ⟨T, x, z, e1, e2, e3, e4 xs hh.1, e5 ys hh.2⟩
theorem walkD_zipTup {S : Hp} {a b : Addr} {xs ys : List V} {ds es : List D} (hs : SqT K S a xs) (ha : RpAll K S xs ds) (hs' : SqT K S b ys) (hb : RpAll K S ys es) : WalkD K S (zipD ds es) (RZ.ItzT K a b) := by
  have hl : (zipD ds es).length = min xs.length ys.length := by rw [zipD_length, ha.length, hb.length]
  refine ⟨_, _, walk_zipTup (K := K) (a := a) (b := b) (xs := xs) (ys := ys) hl, fun H e => ⟨ex_t e hs, ex_t e hs'⟩, fun i S2 H2 x H3 d hd e1 e2 z y => ?_⟩
  obtain ⟨T, x1, x2, rfl, nT, rfl, w1, w2⟩ := y
  obtain ⟨c, c', hc, hc', rfl⟩ := zipD_get hd
  obtain ⟨d1, h1, h2⟩ := ha.get w1
  obtain ⟨d2, h3, h4⟩ := hb.get w2
  rw [hc] at h1; cases h1
  rw [hc'] at h3; cases h3
  exact pair_step e2 z nT (h2.mono e1) (h4.mono e1)
def zipB : List D → Option (List D) := fun as => match as with
  | [.list ds, .list es] => some (zipD ds es)
  | [.tuple ds, .tuple es] => some (zipD ds es)
  | _ => none
theorem semPI_zipB {t : TA} {Fa : En → Option (List D)} (h : SemPA K m t Fa) : SemPI K m (RZ.iZipA K t) (fun env => (Fa env).bind zipB) := fun env σ S H R ds e Q q => by
  obtain ⟨a, ea, e⟩ := bind_some e
  unfold zipB at e
  split at e
  · cases e
    refine h env σ S H R _ ea _ fun v S1 H1 k r => ?_
    obtain ⟨w, w', rfl, r1, r2⟩ := r.two_inv
    obtain ⟨p, xs, rfl, hs0, ha⟩ := r1.list_inv
    obtain ⟨p', xs', rfl, hs0', ha'⟩ := r2.list_inv
    have hs : SqL K S1 p xs := SqL.of hs0
    have hs' : SqL K S1 p' xs' := SqL.of hs0'
    exact ⟨p, p', xs, xs', rfl, .inl ⟨ex_l k.x hs, ex_l k.x hs', q _ S1 H1 k (by rw [zipD_length, ← ha.length]; have := k.z.list (ex_l k.x hs); omega) (walkD_zip hs ha hs' ha')⟩⟩
  · cases e
    refine h env σ S H R _ ea _ fun v S1 H1 k r => ?_
    obtain ⟨w, w', rfl, r1, r2⟩ := r.two_inv
    obtain ⟨p, xs, rfl, hs0, ha⟩ := r1.tuple_inv
    obtain ⟨p', xs', rfl, hs0', ha'⟩ := r2.tuple_inv
    have hs : SqT K S1 p xs := SqT.of hs0
    have hs' : SqT K S1 p' xs' := SqT.of hs0'
    exact ⟨p, p', xs, xs', rfl, .inr ⟨ex_t k.x hs, ex_t k.x hs', q _ S1 H1 k (by rw [zipD_length, ← ha.length]; have := k.z.tup (ex_t k.x hs); omega) (walkD_zipTup hs ha hs' ha')⟩⟩
  · cases e
end
section
variable {ι : Type} {X : ι → Cx} {K : PySem.W.Frag} {k : Nat} {m : List Nat} {a b : Expr} {p pos : Pos} {Fl : En → Option (List D)} {mg : Str → Option Value}
theorem diZB {elts : List Expr} {kk : Nat} {tpos : Pos} (C : Cok X K k) (hmg : mg "zip" = none) (h : DA X K m [a, b] Fl) (hm : ∀ i, (X i).mg = mg := by intro _; rfl) (hgl : ∀ i, Gl (X i) "zip" := by intro _; rfl)
    (hs : ∀ i, starEach [a, b] (X i).env = (false, eval a (X i).env) :: starEach [b] (X i).env := by intro _; rfl) (hpl : ∀ i, (backTo pos (starEach [b] (X i).env)).any (·.1) = false := by intro _; rfl) :
    DI X K m (.Tuple elts kk tpos) (.Call (.Name "zip" p) [a, b] [] pos) (fun env => (Fl env).bind zipB) := let ⟨t, pp, s⟩ := h; ⟨RZ.iZipA K t, fun i => by have q := RZ.pi_zipA (elts := elts) (kk := kk) (tpos := tpos) (pos := pos) (p := p) (hgl i) (by rw [hm i]; exact hmg) (pp i) (hs i) (hpl i); rw [C.hK i] at q; exact q, semPI_zipB s⟩
end
end CS

/-! CsW: comprehensions with two fors; fresh lists of pure expressions, owned lists lent to them. -/
namespace CS
open PySem PySem.Spec PyProof.Rows L2
open Evl (Ex ex_l ex_t)
/-! ### two fors -/
def compC (f : D → Option (List D)) : List D → Option (List D)
  | [] => some []
  | x :: xs => (f x).bind fun a => (compC f xs).map fun b => a ++ b
theorem compC_append {f : D → Option (List D)} : ∀ xs ys, compC f (xs ++ ys) = (compC f xs).bind fun a => (compC f ys).map fun b => a ++ b
  | [], ys => by simp [compC]
  | x :: xs, ys => by
    simp only [List.cons_append, compC]
    rw [compC_append xs ys]
    cases f x with
    | none => rfl
    | some r =>
      cases compC f xs with
      | none => rfl
      | some a =>
        cases compC f ys with
        | none => rfl
        | some b => simp
theorem compC_take {f : D → Option (List D)} {xs r : List D} (h : compC f xs = some r) {i : Nat} {x : D} (hx : xs[i]? = some x) : ∃ a y, compC f (xs.take i) = some a ∧ f x = some y ∧ compC f (xs.take (i + 1)) = some (a ++ y) ∧ a.length + y.length ≤ r.length := by
  have e1 : xs = xs.take (i + 1) ++ xs.drop (i + 1) := (List.take_append_drop _ _).symm
  rw [e1, compC_append] at h
  obtain ⟨a1, h1, h0⟩ := bind_some h
  obtain ⟨c, hc, h0⟩ := map_some h0
  have e2 : xs.take (i + 1) = xs.take i ++ [x] := by rw [List.take_add_one, hx]; rfl
  have h1' := h1
  rw [e2, compC_append] at h1
  obtain ⟨a, ha, h2⟩ := bind_some h1
  obtain ⟨b, hb, e3⟩ := map_some h2
  simp only [compC] at hb
  obtain ⟨y, hy, hb⟩ := bind_some hb
  simp at hb
  subst hb
  refine ⟨a, y, ha, hy, by rw [h1', ← e3], ?_⟩
  rw [← h0, ← e3]
  simp
theorem compD_take_le {f : D → Option (Option D)} {xs r : List D} (h : compD f xs = some r) {i : Nat} {b : List D} (hb : compD f (xs.take i) = some b) : b.length ≤ r.length := by
  have e1 : xs = xs.take i ++ xs.drop i := (List.take_append_drop _ _).symm
  rw [e1, compD_append, hb] at h
  obtain ⟨c, hc, h0⟩ := map_some h
  rw [← h0]; simp
theorem it_w {J : It} {n : Nat} {G : Hp → Prop} {Y : Nat → Hp → V → Hp → Prop} (w : Walk J n G Y) (Step : V → Hp → (Hp → Prop) → Prop) {H1 : Hp} {Qd : Hp → Prop} (Pv : Nat → Hp → Prop) (h0 : Pv 0 H1) (hG : ∀ i H, i ≤ n → Pv i H → G H)
    (hs : ∀ i x H H', i < n → Pv i H → Y i H x H' → Step x H' (Pv (i + 1))) (hd : ∀ H, Pv n H → Qd H) :
    ∃ W : Nat → Nat → Hp → Prop, (∃ m, W 0 m H1) ∧ ∀ i m H, W i m H →
      (J.stop i H ∧ Qd H) ∨ (J.go i H ∧ ∃ Nx : Hp → Prop, (∀ H', Nx H' → ∃ m', m' < m ∧ W (i + 1) m' H') ∧ ∀ x H', J.yld i H x H' → Step x H' Nx) := by
  refine ⟨fun i m H => m = n - i ∧ i ≤ n ∧ Pv i H, ⟨n, by simp, Nat.zero_le _, h0⟩, ?_⟩
  rintro i m H ⟨rfl, hi, p⟩
  have q := hG i H hi p
  by_cases hlt : i < n
  · refine .inr ⟨w.goes i H hlt q, Pv (i + 1), fun H' p' => ⟨n - (i + 1), by omega, rfl, hlt, p'⟩, fun x H' y => hs i x H H' hlt p (w.yields i H x H' hlt q y)⟩
  · have e : i = n := by omega
    subst e
    exact .inl ⟨w.stops H q, hd H p⟩
section
variable {K : PySem.W.Frag} {m : List Nat}
theorem Rel.upd {env : En} {σ : SL} {S H : Hp} (R : Rel K m env σ S H) {p : Addr} {o : HO} (h1 : S p = none) (h2 : ¬ Own m σ p) (ho : szO o) : Rel K m env σ S (upd H p o) :=
  ⟨fun a u e => by
    rw [upd_ne (ne_of_none e h1)]
    exact R.ex a u e, R.sz.upd ho, R.len, R.sh, fun i hi =>
    let ⟨p', vs', ds', q1, q2, q3, q4, q5⟩ := R.ow i hi
    have hne : p' ≠ p := fun e => h2 ⟨i, hi, e ▸ q2⟩
    ⟨p', vs', ds', q1, q2, q3, by rw [upd_ne hne]; exact q4, q5⟩, R.inj⟩
/-- [e for a in xs if c for b in ys if d] -/
def inF (vs1 : List Nat) (Gt1 : D → En → Option En) (Ft1 : En → Option Bool) (Fe : En → Option D) (e : En) : D → Option (Option D) := fun d1 => (Gt1 d1 (wipeE e vs1)).bind fun e1 => (Ft1 e1).bind fun b1 => if b1 = true then (Fe e1).map some else some none
def outF (vs vs1 : List Nat) (Gt : D → En → Option En) (Ft : En → Option Bool) (Fi1 : En → Option (List D)) (Gt1 : D → En → Option En) (Ft1 : En → Option Bool) (Fe : En → Option D) (env : En) : D → Option (List D) := fun d => (Gt d (wipeE env vs)).bind fun e => (Ft e).bind fun b => if b = true then (Fi1 e).bind fun ds1 => compD (inF vs1 Gt1 Ft1 Fe e) ds1 else some []
def lcF2 (vs vs1 : List Nat) (Fi : En → Option (List D)) (Gt : D → En → Option En) (Ft : En → Option Bool) (Fi1 : En → Option (List D)) (Gt1 : D → En → Option En) (Ft1 : En → Option Bool) (Fe : En → Option D) : En → Option D := fun env =>
  (Fi env).bind fun ds => (compC (outF vs vs1 Gt Ft Fi1 Gt1 Ft1 Fe env) ds).bind fun r => if r.length ≤ sizeLine then some (.list r) else none
theorem semP_lc2 {wi wi1 : TI} {g g1 : TG} {tt tt1 : TT} {te : TE} {vs vs1 ts ts1 : List Nat} {Fi Fi1 : En → Option (List D)} {Gt Gt1 : D → En → Option En} {Ft Ft1 : En → Option Bool} {Fe : En → Option D}
    (hi : SemPI K m wi Fi) (hg : SemG K m ts g Gt) (ht : SemPT K m tt Ft) (hi1 : SemPI K m wi1 Fi1) (hg1 : SemG K m ts1 g1 Gt1) (ht1 : SemPT K m tt1 Ft1) (he : SemP K m te Fe) (hv : ∀ i, i ∈ m → i ∉ vs) (hv1 : ∀ i, i ∈ m → i ∉ vs1) (hts : ∀ i, i ∈ ts → i ∈ vs) (hts1 : ∀ i, i ∈ ts1 → i ∈ vs1) :
    SemP K m (tLc2 wi g tt wi1 g1 tt1 te vs vs1) (lcF2 vs vs1 Fi Gt Ft Fi1 Gt1 Ft1 Fe) := fun env σ S H R d e Q q => by
  obtain ⟨ds, eds, e⟩ := bind_some e
  obtain ⟨res, hres, e⟩ := bind_some e
  split at e
  case isFalse => cases e
  rename_i hrl
  cases e
  refine hi env σ S H R ds eds _ fun J S1 H1 k1 hsz hw Dl hD => ?_
  obtain ⟨G, Y, W, hG, hY⟩ := hw
  have hS : S1 Dl = none := ex_free k1.x hD
  have hO : ¬ Own m σ Dl := fun ⟨i, hi, hp⟩ => by
    obtain ⟨p, ws, as, _, h2, _, h4, _⟩ := (R.gz k1).ow i hi
    rw [hp] at h2; cases h2
    rw [hD] at h4; cases h4
  refine it_w W _ (fun i H' => ∃ S' acc as, Gz S1 H1 S' H' ∧ S' Dl = none ∧ H' Dl = some (.lst acc) ∧ RpAll K S' acc as ∧ compC (outF vs vs1 Gt Ft Fi1 Gt1 Ft1 Fe env) (ds.take i) = some as)
    ⟨S1, [], [], ⟨Ex.refl _, Ex.new hD, fun _ _ => rfl, fun a o e => by
      rw [upd_ne (ne_of_none e hS)]
      exact k1.x a o e, k1.z.upd (by show 0 ≤ sizeLine; omega)⟩, hS, upd_same, .nil, rfl⟩ (fun i H' _ p => ?_) (fun i x H2 H3 hlt p y => ?_) (fun H' p => ?_)
  · obtain ⟨S', acc, as, g1, _⟩ := p
    exact hG H' (g1.s.trans g1.x)
  · obtain ⟨S2, acc, as, g1', h2, h3, h4, h5⟩ := p
    have hx : ds[i]? = some ds[i] := List.getElem?_eq_getElem hlt
    obtain ⟨a', y', c1, c2, c3, c4⟩ := compC_take hres hx
    rw [h5] at c1; cases c1
    obtain ⟨S3, g3, r3⟩ := hY i S2 H2 x H3 _ hx g1'.s g1'.x g1'.z y
    obtain ⟨e2, ge, c2⟩ := bind_some c2
    obtain ⟨b, tb, c2⟩ := bind_some c2
    have R3 := ((R.gz k1).gz (g1'.trans g3)).wipe hv
    refine hg _ _ S3 H3 R3 x _ e2 r3 ge _ fun σ2 hl2 hf2 hm2 R2 => ⟨?_, ?_⟩
    · rw [wipe_eq (σ := wipe σ vs) hl2 fun i hi => hf2 i fun z => hi (hts i z)]
      exact wipe_eq (wipe_length _ _) fun i hi => wipe_out hi
    · have hO2 : ¬ Own m σ2 Dl := fun ⟨i, hi, hp⟩ => hO ⟨i, hi, by rw [hm2 i hi, wipe_out (hv i hi)] at hp; exact hp⟩
      refine ht e2 σ2 S3 H3 R2 b tb _ fun S4 H4 k4 => ?_
      have g4 := (g1'.trans g3).trans k4
      have hD4 : H4 Dl = some (.lst acc) := k4.h _ _ (g3.h _ _ h3)
      have hS4 : S4 Dl = none := by
        rw [k4.n Dl (by rw [g3.h _ _ h3]; simp), g3.n Dl (by rw [h3]; simp)]
        exact h2
      cases b with
      | false =>
        simp at c2
        subst c2
        exact ⟨S4, acc, as, g4, hS4, hD4, h4.mono (g3.s.trans k4.s), by simpa using c3⟩
      | true =>
        simp only [if_true] at c2 ⊢
        obtain ⟨ds1, eds1, c2⟩ := bind_some c2
        refine hi1 e2 σ2 S4 H4 (R2.gz k4) ds1 eds1 _ fun J1 S5 H5 k5 hsz1 hw1 => ?_
        obtain ⟨G1, Y1, W1, hG1, hY1⟩ := hw1
        have g5 := g4.trans k5
        have hD5 : H5 Dl = some (.lst acc) := k5.h _ _ hD4
        have hS5 : S5 Dl = none := by rw [k5.n Dl (by rw [hD4]; simp)]; exact hS4
        refine it_w W1 _ (fun j H' => ∃ S' acc bs, Gz S1 H1 S' H' ∧ Rel K m e2 σ2 S' H' ∧ Ex S5 S' ∧ S' Dl = none ∧ H' Dl = some (.lst acc) ∧ RpAll K S' acc (as ++ bs) ∧ compD (inF vs1 Gt1 Ft1 Fe e2) (ds1.take j) = some bs)
          ⟨S5, acc, [], g5, (R2.gz k4).gz k5, Ex.refl _, hS5, hD5, by rw [List.append_nil]; exact h4.mono ((g3.s.trans k4.s).trans k5.s), rfl⟩ (fun j H' _ p => ?_) (fun j x1 H6 H7 hlt1 p y1 => ?_) (fun H' p => ?_)
        · obtain ⟨S', acc', bs, g6, R6, e6, _⟩ := p
          exact hG1 H' (e6.trans R6.ex)
        · obtain ⟨S6, acc6, bs, g6, R6, e6, h62, h63, h64, h65⟩ := p
          have hx1 : ds1[j]? = some ds1[j] := List.getElem?_eq_getElem hlt1
          obtain ⟨b', z', d1, d2, d3⟩ := compD_take c2 hx1
          rw [h65] at d1; cases d1
          obtain ⟨S7, g7, r7⟩ := hY1 j S6 H6 x1 H7 _ hx1 e6 R6.ex R6.sz y1
          obtain ⟨e3, ge3, d2⟩ := bind_some d2
          obtain ⟨b1, tb1, d2⟩ := bind_some d2
          have R7 := (R6.gz g7).wipe hv1
          refine hg1 _ _ S7 H7 R7 x1 _ e3 r7 ge3 _ fun σ3 hl3 hf3 hm3 R8 => ⟨?_, ?_⟩
          · rw [wipe_eq (σ := wipe σ2 vs1) hl3 fun i hi => hf3 i fun z => hi (hts1 i z)]
            exact wipe_eq (wipe_length _ _) fun i hi => wipe_out hi
          · refine ht1 e3 σ3 S7 H7 R8 b1 tb1 _ fun S8 H8 k8 => ?_
            have g8 := g7.trans k8
            have hD8 : H8 Dl = some (.lst acc6) := g8.h _ _ h63
            have hS8 : S8 Dl = none := by rw [g8.n Dl (by rw [h63]; simp)]; exact h62
            cases b1 with
            | false =>
              simp at d2
              subst d2
              exact ⟨S8, acc6, bs, g6.trans g8, R6.gz g8, e6.trans g8.s, hS8, hD8, h64.mono g8.s, by simpa using d3⟩
            | true =>
              simp only [if_true] at d2 ⊢
              obtain ⟨z, ez, rfl⟩ := map_some d2
              refine he e3 σ3 S8 H8 (R8.gz k8) z ez _ fun w S9 H9 k9 r9 => ?_
              have g9 := g8.trans k9
              have hD9 : H9 Dl = some (.lst acc6) := k9.h _ _ hD8
              have hS9 : S9 Dl = none := by rw [k9.n Dl (by rw [hD8]; simp)]; exact hS8
              have hlen : acc6.length < sizeLine := by
                have h6 := compD_take_le c2 d3
                rw [h64.length]
                simp at h6 ⊢
                omega
              have ha := g6.trans g9
              refine ⟨acc6, hD9, hlen, S9, acc6 ++ [w], bs ++ [z], ⟨ha.s, fun a o e => ?_, ha.n, fun a o e => ?_, ha.z.upd (by show (acc6 ++ [w]).length ≤ sizeLine; simp; omega)⟩, (R6.gz g9).upd hS9 hO2 (by show (acc6 ++ [w]).length ≤ sizeLine; simp; omega), e6.trans g9.s, hS9, upd_same, ?_, by simpa using d3⟩
              · rw [upd_ne (ne_of_none e hD)]
                exact ha.h a o e
              · rw [upd_ne (ne_of_none e hS9)]
                exact ha.x a o e
              · rw [← List.append_assoc]
                exact (h64.mono g9.s).append (.cons r9 .nil)
        · obtain ⟨S6, acc6, bs, g6, R6, e6, h62, h63, h64, h65⟩ := p
          rw [List.take_length, c2] at h65
          cases h65
          exact ⟨S6, acc6, _, g6, h62, h63, h64, c3⟩
  · obtain ⟨S2, acc, as, g1', h2, h3, h4, h5⟩ := p
    rw [List.take_length, hres] at h5
    cases h5
    refine q (.ref Dl) (L2.upd S2 Dl (.lst acc)) H' (k1.trans ⟨g1'.s.trans (Ex.new h2), g1'.h, fun a ha => ?_, fun a o e => ?_, g1'.z⟩) (.lst upd_same (h4.mono (Ex.new h2)))
    · have : a ≠ Dl := fun e => ha (e ▸ hD)
      rw [upd_ne this]
      exact g1'.n a ha
    · by_cases c : a = Dl
      · subst c; rw [upd_same] at e; cases e; exact h3
      · rw [upd_ne c] at e; exact g1'.x a o e
end
end CS

/-! CsX: wrappers of CsW; fresh lists of pure expressions; x = x if c else [..]; slices that are fresh. -/
namespace CS
open PySem PySem.Spec PyProof.Rows L2
open Evl (Ex ex_l ex_t)
section
variable {ι : Type} {X : ι → Cx} {K : PySem.W.Frag} {k : Nat} {m : List Nat} {elt tg iter tg1 iter1 : Expr} {ifs ifs1 : List Expr} {scope : Scope} {pos : Pos} {ts ts1 : List Nat} {Gt Gt1 : D → En → Option En}
theorem eLc2 (own : List (Str × Nat)) (vs1 : List Nat) {Fi Fi1 : En → Option (List D)} {Ft Ft1 : En → Option Bool} {Fe : En → Option D} (C : Cok X K k) (hi : DI X K m tg iter Fi) (hg : DG (blkX X scope) K m ts tg Gt) (ht : DTs (blkX X scope) K m ifs Ft)
    (hi1 : DI (blkX X scope) K m tg1 iter1 Fi1) (hg1 : DG (blkX X scope) K m ts1 tg1 Gt1) (ht1 : DTs (blkX X scope) K m ifs1 Ft1) (he : DE (blkX X scope) K m elt Fe)
    (ok : ∀ i, BlkOk (X i).N (X i).env.scope scope own := by intro _; exact blkOk_by (by kernel_rfl)) (hv0 : ∀ i, i ∈ vs1 → i ∈ own.map (·.2) := by decide) (hv : ∀ i, i ∈ m → i ∉ own.map (·.2) := by decide) (hv1 : ∀ i, i ∈ m → i ∉ vs1 := by decide) (hts : ∀ i, i ∈ ts → i ∈ own.map (·.2) := by decide) (hts1 : ∀ i, i ∈ ts1 → i ∈ vs1 := by decide)
    (hs : ∀ i x, foldedSetIterable iter (X i).env x = pure x := by intro _ _; rfl) (hs1 : ∀ env x, foldedSetIterable iter1 env x = pure x := by intro _ _; rfl) :
    DE X K m (.ListComp elt [⟨tg, iter, ifs, 0⟩, ⟨tg1, iter1, ifs1, 0⟩] scope pos) (lcF2 (own.map (·.2)) vs1 Fi Gt Ft Fi1 Gt1 Ft1 Fe) := by
  obtain ⟨t1, p1, s1⟩ := hi; obtain ⟨t2, p2, s2⟩ := hg; obtain ⟨t3, p3, s3⟩ := ht; obtain ⟨t4, p4, s4⟩ := hi1; obtain ⟨t5, p5, s5⟩ := hg1; obtain ⟨t6, p6, s6⟩ := ht1; obtain ⟨t7, p7, s7⟩ := he
  exact ⟨_, fun i => pe_lc2 (C.calm i) (C.nd i) (p1 i) (ok i) hv0 (fun s H Ca cl fp => p2 ⟨i, s, H, Ca, cl, fp⟩) (fun s H Ca cl fp => p3 ⟨i, s, H, Ca, cl, fp⟩) (fun s H Ca cl fp => p4 ⟨i, s, H, Ca, cl, fp⟩) (fun s H Ca cl fp => p5 ⟨i, s, H, Ca, cl, fp⟩) (fun s H Ca cl fp => p6 ⟨i, s, H, Ca, cl, fp⟩) (fun s H Ca cl fp => p7 ⟨i, s, H, Ca, cl, fp⟩) (hs i) hs1, semP_lc2 s1 s2 s3 s4 s5 s6 s7 hv hv1 hts hts1⟩
end
/-! ### fresh lists of pure expressions -/
def SemFP (K : PySem.W.Frag) (m : List Nat) (t : TE) (F : En → Option D) : Prop := ∀ env σ S H, Rel K m env σ S H → ∀ d, F env = some d →
  ∀ Q : VK, (∀ p vs ds S' H', d = .list ds → Gz S H S' H' → H p = none → S' p = none → H' p = some (.lst vs) → RpAll K S' vs ds → Q (.ref p) H') → t σ H Q
mutual
def noL : D → Bool
  | .none => true
  | .bool _ => true
  | .int _ => true
  | .str _ => true
  | .tuple ds => noLAll ds
  | _ => false
def noLAll : List D → Bool
  | [] => true
  | d :: ds => noL d && noLAll ds
end
section
variable {K : PySem.W.Frag} {m : List Nat} {H H' : Hp}
mutual
theorem Rp.noL (e : ∀ a xs, H a = some (.tup xs) → H' a = some (.tup xs)) : ∀ (d : D) (v : V), CS.noL d = true → Rp K H v d → Rp K H' v d
  | .none, _, _, h => by cases h; exact .non
  | .bool b, _, _, h => by cases h; exact .bl b
  | .int i, _, _, h => by cases h; exact .int i
  | .str x, _, _, h => by cases h; exact .str x
  | .list ds, _, n, h => by simp [CS.noL] at n
  | .tuple ds, _, n, h => by
    cases h with
    | tup hs ha => exact .tup (e _ _ hs) (RpAll.noL e ds _ (by simpa [CS.noL] using n) ha)
  | .dict _, _, n, h => by simp [CS.noL] at n
theorem RpAll.noL (e : ∀ a xs, H a = some (.tup xs) → H' a = some (.tup xs)) : ∀ (ds : List D) (vs : List V), noLAll ds = true → RpAll K H vs ds → RpAll K H' vs ds
  | [], _, _, h => by cases h; exact .nil
  | d :: ds, _, n, h => by
    cases h with
    | cons h1 h2 =>
      simp only [noLAll, Bool.and_eq_true] at n
      exact .cons (Rp.noL e d _ n.1 h1) (RpAll.noL e ds _ n.2 h2)
end
theorem SemFP.semF {t : TE} {F : En → Option D} (h : SemFP K m t F) : SemF K m t (up F) := fun env σ S H R d env' e Q q => by
  obtain ⟨e1, rfl⟩ := up_some e
  exact h env' σ S H R d e1 Q fun p vs ds S' H' hd g h1 h2 h3 h4 => q p vs ds S' H' hd g.gm (R.gz g) h1 h2 h3 h4
theorem SemFP.semP {t : TE} {F : En → Option D} (h : SemFP K m t F) : SemP K m t F := fun env σ S H R d e Q q => h env σ S H R d e Q fun p vs ds S' H' hd g h1 h2 h3 h4 => by
  subst hd
  refine q _ (L2.upd S' p (.lst vs)) H' ⟨g.s.trans (Ex.new h2), g.h, fun a ha => ?_, fun a o e => ?_, g.z⟩ (.lst upd_same (h4.mono (Ex.new h2)))
  · have : a ≠ p := fun c => ha (c ▸ h1)
    rw [upd_ne this]; exact g.n a ha
  · by_cases c : a = p
    · subst c; rw [upd_same] at e; cases e; exact h3
    · rw [upd_ne c] at e; exact g.x a o e
/-- an owned list lent to it: nothing of the answer is a list within -/
def fBor (F : En → Option D) : En → Option D := fun env => (F env).bind fun d => (asL d).bind fun ds => if noLAll ds = true then some d else none
theorem semFP_bor {te : TE} {j : Nat} {m2 : List Nat} {F : En → Option D} (h : SemFP K m2 te F) (hj : j ∈ m) (hm : m2 = m.filter (· ≠ j)) : SemFP K m te (fBor F) := fun env σ S H R d e Q q => by
  subst hm
  obtain ⟨d1, ed, e⟩ := bind_some e
  obtain ⟨ds1, eds, e⟩ := bind_some e
  cases asL_some eds
  split at e
  case isFalse => cases e
  rename_i hf
  cases e
  obtain ⟨S2, g2, hs2, R2⟩ := R.share hj
  obtain ⟨p, vs, as, h1, h2, h3, h4, h5⟩ := R.ow j hj
  refine h env σ S2 H R2 _ ed Q fun p' vs' ds' S3 H3 hd k3 n1 n2 n3 n4 => ?_
  cases hd
  have hpp : p' ≠ p := fun c => by rw [c, h4] at n1; cases n1
  have hS2 : S2 p = some (.lst vs) := by
    obtain ⟨v, q1, q2⟩ := R2.sh j _ (by simp) h1
    rw [h2] at q1
    cases q1
    obtain ⟨a, xs, ea, hx, _⟩ := q2.list_inv
    cases ea
    have := R2.ex _ _ hx
    rw [h4] at this
    rw [hx, this]
  have hS3 : S3 p = some (.lst vs) := k3.s _ _ hS2
  refine q p' vs' _ (fun a => if a = p then none else S3 a) H3 rfl ⟨fun a o e => ?_, k3.h, fun a ha => ?_, fun a o e => ?_, k3.z⟩ n1 ?_ n3 (RpAll.noL (fun a xs ea => ?_) _ _ hf n4)
  · have : a ≠ p := fun c => by subst c; rw [h3] at e; cases e
    show (if a = p then none else S3 a) = some o
    rw [if_neg this]
    exact k3.s a o (g2.s a o e)
  · show (if a = p then none else S3 a) = S a
    by_cases c : a = p
    · subst c; rw [if_pos rfl, h3]
    · rw [if_neg c, k3.n a ha]
      by_cases cc : S2 a = S a
      · exact cc
      · have := hs2 a cc
        rw [h2] at this
        injection this with this
        injection this with this
        exact absurd (by injection this with this; exact this.symm) c
  · by_cases c : a = p
    · subst c
      have e' : (if a = a then none else S3 a) = some o := e
      rw [if_pos rfl] at e'; cases e'
    · have e' : (if a = p then none else S3 a) = some o := e
      rw [if_neg c] at e'
      exact k3.x a o e'
  · show (if p' = p then none else S3 p') = none
    rw [if_neg hpp]; exact n2
  · show (if a = p then none else S3 a) = some (.tup xs)
    have : a ≠ p := fun c => by rw [c, hS3] at ea; cases ea
    rw [if_neg this]; exact ea
theorem semFP_call {ta : TA} {g : List D → Option D} {Fa : En → Option (List D)} {E : XK} (ha : SemPA K m ta Fa) : SemFP K m (tCall (spF K g) [] E ta) (fCall g Fa) := fun env σ S H R d e Q q => by
  obtain ⟨as, ea, e⟩ := bind_some e
  refine ha env σ S H R as ea _ fun vs S1 H1 k1 r1 => ?_
  rw [List.append_nil]
  refine ⟨S1, as, d, k1.x, k1.z, r1, e, fun p xs es S2 H2 hd k2 h1 h2 h3 h4 => q p xs es S2 H2 hd (k1.trans k2) ?_ h2 h3 h4⟩
  cases c : H p with
  | none => rfl
  | some u => exact absurd (k1.h _ _ c) (by rw [h1]; simp)
theorem semFP_callK0 {g : List D → Option D} {pm : List Nat} {n : Nat} {tk : TA} {E : XK} {Fk : En → Option (List D)} (hk : SemPA K m tk Fk) : SemFP K m (tCallKG 0 n (spF K g) pm E tNil tk) (fCall (kwG n pm g) Fk) := fun env σ S H R d e Q q => by
  obtain ⟨a, ea, e⟩ := bind_some e
  unfold kwG at e
  split at e
  · rename_i hn
    refine hk env σ S H R a ea _ fun vs S1 H1 k1 r => ⟨rfl, r.length.trans hn, S1, _, d, k1.x, k1.z, RpAll.pick r pm, e, ?_⟩
    intro p xs es S2 H2 hd k2 h1 h2 h3 h4
    refine q p xs es S2 H2 hd (k1.trans k2) ?_ h2 h3 h4
    cases c : H p with
    | none => rfl
    | some u => exact absurd (k1.h _ _ c) (by rw [h1]; simp)
  · cases e
theorem fresh_gz {S H : Hp} {p : Addr} {xs : List V} (x : Ex S H) (z : SzH H) (hp : H p = none) (hz : xs.length ≤ sizeLine) : Gz S H S (L2.upd H p (.lst xs)) ∧ S p = none := by
  have hS := ex_free x hp
  exact ⟨⟨Ex.refl _, Ex.new hp, fun _ _ => rfl, fun a o e => by
    rw [upd_ne (ne_of_none e hS)]; exact x a o e, z.upd hz⟩, hS⟩
theorem semFP_list {ta : TA} {Fa : En → Option (List D)} (ha : SemPA K m ta Fa) : SemFP K m (tCB (rListOf K) ta) (fCall dListOf Fa) := fun env σ S H R d e Q q => by
  obtain ⟨as, ea, e⟩ := bind_some e
  refine ha env σ S H R as ea _ fun vs S1 H1 k1 r1 => ?_
  have fin : ∀ (l : Addr) (ys : List V) (ds : List D), d = .list ds → ys.length ≤ sizeLine → RpAll K S1 ys ds → ∀ p, H1 p = none → Q (.ref p) (L2.upd H1 p (.lst ys)) := fun l ys ds hd hl rx p hp => by
    obtain ⟨w1, w2⟩ := fresh_gz (S := S1) k1.x k1.z hp hl
    refine q p ys ds S1 _ hd (k1.trans w1) ?_ w2 upd_same rx
    cases c : H p with
    | none => rfl
    | some u => exact absurd (k1.h _ _ c) (by rw [hp]; simp)
  unfold dListOf at e
  split at e
  · cases e
    obtain ⟨v, rfl, rv⟩ := r1.one_inv
    obtain ⟨l, ys, rfl, hx, rx⟩ := rv.list_inv
    have hx2 := k1.x _ _ hx
    exact ⟨l, ys, rfl, .inl (SqL.of hx2), fin l ys _ rfl (k1.z _ _ hx2) rx⟩
  · cases e
    obtain ⟨v, rfl, rv⟩ := r1.one_inv
    obtain ⟨l, ys, rfl, hx, rx⟩ := rv.tuple_inv
    have hx2 := k1.x _ _ hx
    exact ⟨l, ys, rfl, .inr (SqT.of hx2), fin l ys _ rfl (k1.z _ _ hx2) rx⟩
  · cases e
theorem semFP_sortT {ta : TA} {Fa : En → Option (List D)} (ha : SemPA K m ta Fa) : SemFP K m (tCB (rSortAll K) ta) (fCall dSortT Fa) := fun env σ S H R d e Q q => by
  obtain ⟨as, ea, e⟩ := bind_some e
  refine ha env σ S H R as ea _ fun vs S1 H1 k1 r1 => ?_
  refine .inr ?_
  unfold dSortT at e
  split at e
  · obtain ⟨ls, hls, g'⟩ := bind_some e
    clear e
    have := asTups_some hls
    subst this
    by_cases hc : oneLen ls
    case neg => rw [if_neg hc] at g'; cases g'
    rw [if_pos hc] at g'
    cases g'
    obtain ⟨v, rfl, rv⟩ := r1.one_inv
    obtain ⟨l, ys, rfl, hx, rx⟩ := rv.list_inv
    have hl : ys.length ≤ sizeLine := k1.z l _ (k1.x _ _ hx)
    obtain ⟨j1, j2⟩ := rp_tupAll k1.x rx
    refine ⟨l, ys, tupAt H1, (ls.headD [0]).length, rfl, SqL.of (k1.x _ _ hx), hc.1, fun v hv => ?_, fun zs p hs hb hp => ?_⟩
    · obtain ⟨_, t, h1, h2⟩ := rp_tupAt k1.x (j2 v hv).1
      exact ⟨t, h1, h2, hc.2 _ (j2 v hv).2⟩
    · have hperm : zs.Perm ys := hb.perm
      have r2 := rp_of_tupAt (K := K) (S := S1) (H := H1) zs fun v hv => (j2 v (hperm.mem_iff.mp hv)).1
      have e2 : zs.map (tupAt H1) = sortL ls := by
        refine sortL_uniq ?_ (List.pairwise_map.mpr (hs.imp fun {a b} h => ?_))
        · rw [← j1]; exact hperm.map _
        · have h' : lexI (tupAt H1 b) (tupAt H1 a) = false := h
          unfold lexLeI
          rw [h']; rfl
      rw [e2] at r2
      have hz2 : zs.length ≤ sizeLine := by rw [hperm.length_eq]; exact hl
      obtain ⟨w1, w2⟩ := fresh_gz (S := S1) k1.x k1.z hp hz2
      refine q p zs _ S1 _ rfl (k1.trans w1) ?_ w2 upd_same r2
      cases c : H p with
      | none => rfl
      | some u => exact absurd (k1.h _ _ c) (by rw [hp]; simp)
  · cases e
end
section
variable {ι : Type} {X : ι → Cx} {P : Program} {w : World} {K : PySem.W.Frag} {mg : Str → Option Value} {base : Heap} {k j : Nat} {m : List Nat} {x : Str} {st : Stmt} {ps : List Str} {e : Expr} {es : List Expr} {p pos : Pos} {Fl Fk : En → Option (List D)} {F : En → Option D}
def DFP (X : ι → Cx) (K : PySem.W.Frag) (m : List Nat) (e : Expr) (F : En → Option D) : Prop := ∃ t : TE, (∀ i, PE (X i) e t) ∧ SemFP K m t F
theorem DFP.df (h : DFP X K m e F) : DF X K m e (up F) := let ⟨t, p, s⟩ := h; ⟨t, p, s.semF⟩
theorem DFP.de (h : DFP X K m e F) : DE X K m e F := let ⟨t, p, s⟩ := h; ⟨t, p, s.semP⟩
theorem fpO (j : Nat) {m2 : List Nat} (h : DFP X K m2 e F) (hj : j ∈ m := by decide) (hm : m2 = m.filter (· ≠ j) := by decide) : DFP X K m e (fBor F) := let ⟨t, p, s⟩ := h; ⟨t, p, semFP_bor s hj hm⟩
theorem fpCall {g : List D → Option D} (C : Cw X P w K mg base k) (Fd : Fn P w K mg base j x st ps (spF K g)) (ha : DA X K m (e :: es) Fl) (hjk : j ≤ k := by omega)
    (hgl : ∀ i, Gl (X i) x := by intro _; rfl) (hdb : (x == ("__debug__" : Str)) = false := by decide) (he : ∀ i, starEach (e :: es) (X i).env = (false, eval e (X i).env) :: starEach es (X i).env := by intro _; rfl) (hpl : ∀ i, (backTo pos (starEach es (X i).env)).any (·.1) = false := by intro _; rfl) :
    DFP X K m (.Call (.Name x p) (e :: es) [] pos) (fCall g Fl) := let ⟨_, pp, s⟩ := ha; ⟨_, pCall C Fd pp hjk hgl hdb he hpl, semFP_call s⟩
theorem fpCallK {g : List D → Option D} {kws : List Keyword} {ks : List Str} {pm : List Nat} (C : Cw X P w K mg base k) (Fd : Fn P w K mg base j x st ps (spF K g)) (hkb : KwB x st ps 0 ks pm) (ha : DK X K m kws Fk) (hjk : j ≤ k := by omega)
    (hgl : ∀ i, Gl (X i) x := by intro _; rfl) (hdb : (x == ("__debug__" : Str)) = false := by decide) (hall : ∀ i, (backToKw pos (keywordEach kws (X i).env)).all (·.1.isSome) = true := by intro _; rfl) (hks : ∀ i, (backToKw pos (keywordEach kws (X i).env)).filterMap (·.1) = ks := by intro _; rfl)
    (hpl : ∀ i, ((backTo pos (starEach [] (X i).env)).any (·.1) || (backToKw pos (keywordEach kws (X i).env)).any (·.1.isNone)) = false := by intro _; rfl) :
    DFP X K m (.Call (.Name x p) [] kws pos) (fCall (kwG ks.length pm g) Fk) := let ⟨_, pp, s⟩ := ha; ⟨_, pCallK0 C Fd hkb pp hjk hgl hdb hall hks hpl, semFP_callK0 s⟩
theorem fpSort (C : Cok X K k) (hmg : mg "sorted" = none) (ha : DA X K m (e :: es) Fl)
    (hm : ∀ i, (X i).mg = mg := by intro _; rfl) (hgl : ∀ i, Gl (X i) "sorted" := by intro _; rfl) (he : ∀ i, starEach (e :: es) (X i).env = (false, eval e (X i).env) :: starEach es (X i).env := by intro _; rfl) (hpl : ∀ i, (backTo pos (starEach es (X i).env)).any (·.1) = false := by intro _; rfl) :
    DFP X K m (.Call (.Name "sorted" p) (e :: es) [] pos) (fCall dSortT Fl) := by
  obtain ⟨t, pp, s⟩ := ha
  exact ⟨_, fun i => pe_callB (by have h := CallR.or (@cr_sortU (X i)) (@cr_sortTO (X i)); rw [C.hK i] at h; exact h) (hgl i) (by rw [hm i]; exact hmg) (by decide +kernel) (pp i) (by decide) (by decide) (he i) (hpl i), semFP_sortT s⟩
theorem fpList (C : Cok X K k) (hmg : mg "list" = none) (ha : DA X K m (e :: es) Fl)
    (hm : ∀ i, (X i).mg = mg := by intro _; rfl) (hgl : ∀ i, Gl (X i) "list" := by intro _; rfl) (he : ∀ i, starEach (e :: es) (X i).env = (false, eval e (X i).env) :: starEach es (X i).env := by intro _; rfl) (hpl : ∀ i, (backTo pos (starEach es (X i).env)).any (·.1) = false := by intro _; rfl) :
    DFP X K m (.Call (.Name "list" p) (e :: es) [] pos) (fCall dListOf Fl) := by
  obtain ⟨t, pp, s⟩ := ha
  exact ⟨_, fun i => pe_callTy (by have h := @call_list_of (X i); rw [C.hK i] at h; exact h) (hgl i) (by rw [hm i]; exact hmg) (by decide +kernel) (pp i) (by decide) (by decide) (he i) (hpl i), semFP_list s⟩
end
/-! ### x = x if c else [..], x owned -/
section
variable {K : PySem.W.Frag} {fr : Bool} {pn m ml : List Nat}
theorem Rel.reown {env : En} {σ : SL} {S H : Hp} (R : Rel K m env σ S H) {j : Nat} {p : Addr} {vs : List V} {ds : List D} (hl : j < σ.length) (hj : j ∈ m) (h2 : S p = none) (h3 : H p = some (.lst vs)) (h4 : RpAll K S vs ds) (hn : ¬ Own m σ p) :
    Rel K m (env.set j (some (.list ds))) (σ.set j (some (.ref p))) S H := by
  refine ⟨R.ex, R.sz, by simp [R.len], fun i d hi e => ?_, fun i hi => ?_, fun i k q hi hk e1 e2 => ?_⟩
  · have h5 : j ≠ i := fun e => hi (e ▸ hj)
    rw [List.getElem?_set_ne h5] at e ⊢
    exact R.sh i d hi e
  · by_cases c : j = i
    · subst c
      exact ⟨p, vs, ds, by rw [List.getElem?_set_self (by rw [R.len]; exact hl)], by rw [List.getElem?_set_self hl], h2, h3, h4⟩
    · rw [List.getElem?_set_ne c, List.getElem?_set_ne c]
      exact R.ow i hi
  · by_cases ci : j = i
    · subst ci
      rw [List.getElem?_set_self hl] at e1
      cases e1
      by_cases ck : j = k
      · exact ck
      · rw [List.getElem?_set_ne ck] at e2
        exact absurd ⟨k, hk, e2⟩ hn
    · rw [List.getElem?_set_ne ci] at e1
      by_cases ck : j = k
      · subst ck
        rw [List.getElem?_set_self hl] at e2
        cases e2
        exact absurd ⟨i, hi, e1⟩ hn
      · rw [List.getElem?_set_ne ck] at e2
        exact R.inj i k q hi hk e1 e2
def sOwnIf (j : Nat) (Ft : En → Option Bool) (Ge : En → Option (D × En)) : En → Option Out := fun env => (Ft env).bind fun b => if b = true then some (.nx env) else (Ge env).bind fun r => if j < r.2.length then some (.nx (setE j r.1 r.2)) else none
theorem semS_ownIf {j : Nat} {tt : TT} {te : TE} {Ft : En → Option Bool} {Ge : En → Option (D × En)} (ht : SemPT K m tt Ft) (h : SemF K m te Ge) (hj : j ∈ m) (hp : j ∉ pn) : SemS K fr pn m ml m (tAsg (tIf tt (tVar j) te) (gName j)) (sOwnIf j Ft Ge) := fun env σ S H R o e E q => by
  obtain ⟨b, eb, e⟩ := bind_some e
  refine ht env σ S H R b eb _ fun S1 H1 k1 => ?_
  have R1 := R.gz k1
  have st1 : Stp pn m σ S H m σ S1 H1 := ⟨k1.gm, fun _ h => .inl h, fun _ _ => rfl⟩
  cases b with
  | true =>
    rw [if_pos rfl] at e ⊢
    cases e
    obtain ⟨p, vs, ds, h1, h2, h3, h4, h5⟩ := R1.ow j hj
    refine ⟨.ref p, h2, ?_⟩
    have es : σ.set j (some (.ref p)) = σ := by
      refine List.ext_getElem? fun i => ?_
      by_cases c : j = i
      · subst c
        rw [List.getElem?_set_self (List.getElem?_eq_some_iff.mp h2).1, h2]
      · rw [List.getElem?_set_ne c]
    show E.nx (σ.set j (some (.ref p))) H1
    rw [es]
    exact q σ S1 H1 st1 R1
  | false =>
    rw [if_neg (by decide)] at e ⊢
    obtain ⟨⟨d, e1⟩, ed, e⟩ := bind_some e
    dsimp only at e
    split at e <;> cases e
    rename_i hlt
    refine h env σ S1 H1 R1 d e1 ed _ fun p vs ds S2 H2 hd g R2 h1 h2 h3 h4 => ?_
    subst hd
    have hn : j < σ.length := by have := R2.len; omega
    refine q _ S2 H2 (st1.trans ⟨g, fun a ⟨i, hi, ea⟩ => ?_, fun i hi => ?_⟩) (R2.reown hn hj h2 h3 h4 (R1.notOwn h1))
    · by_cases c : j = i
      · subst c
        rw [List.getElem?_set_self hn] at ea
        cases ea
        exact .inr h1
      · rw [List.getElem?_set_ne c] at ea
        exact .inl ⟨i, hi, ea⟩
    · rw [List.getElem?_set_ne (ne_mem hi hp)]
end
section
variable {ι : Type} {X : ι → Cx} {K : PySem.W.Frag} {k : Nat} {m pn ml : List Nat} {fr : Bool} {e c : Expr} {pos : Pos} {Ge : En → Option (D × En)} {Ft : En → Option Bool}
theorem sOwnI (j : Nat) {x : Str} {px p1 p2 : Pos} (C : Cok X K k) (ht : DT X K m c Ft) (h : DF X K m e Ge) (hj : j ∈ m := by decide) (hp : j ∉ pn := by decide) (hN : ∀ i, (X i).N[j]? = some x := by intro _; rfl) (hx : ∀ i, Loc (X i).env.scope x := by intro _; first | exact Or.inl rfl | exact Or.inr rfl)
    (hv : ∀ i, Vis (X i).env.scope x := by intro _; first | exact Or.inl rfl | exact Or.inr (Or.inl rfl) | exact Or.inr (Or.inr rfl)) (hd : (x == ("__debug__" : Str)) = false := by decide) (hcd : (x == ("__classdict__" : Str)) = false := by decide)
    (hs : ∀ i, swapsWith (.IfExp c (.Name x p1) e p2) (some (.Name x px)) pos.line (X i).env = pure false := by intro _; rfl) (hf : ∀ i, (X i).fn x = true ∨ (X i).env.scope.names.lookup x = some .local := by intro _; first | exact .inl rfl | exact .inr rfl) :
    DS X K fr pn m ml m (.Assign [.Name x px] (.IfExp c (.Name x p1) e p2) pos) (sOwnIf j Ft Ge) := by
  obtain ⟨t1, q1, s1⟩ := ht
  obtain ⟨t2, q2, s2⟩ := h
  exact ⟨_, fun i => ps_set (C.nd i) (hN i) (hx i) (pe_ifExp (q1 i) (pe_var (hN i) (hv i) hd hcd) (q2 i)) (hs i) (hf i), semS_ownIf s1 s2 hj hp⟩
/-- a slice is fresh -/
def gSlF (G : En → Option (D × En)) (Fl Fh : En → Option (Option Int)) : En → Option (D × En) := fun env => (G env).bind fun r => (asL r.1).bind fun ds => (Fl r.2).bind fun l => (Fh r.2).bind fun h => some (.list (cutD ds l h), r.2)
theorem fSlM {lo hi : Option Expr} {p2 : Pos} {Flo Fhi : En → Option (Option Int)} (C : Cok X K k) (h : DM X K m e Ge) (hl : DO X K m lo Flo) (hh : DO X K m hi Fhi) : DF X K m (.Subscript e (.Slice lo hi none p2) pos) (gSlF Ge Flo Fhi) := by
  obtain ⟨t, p, s⟩ := h
  obtain ⟨t2, p2, s2⟩ := hl
  obtain ⟨t3, p3, s3⟩ := hh
  refine ⟨_, fun i => pe_slice (by have h := @sl_U (X i); rw [C.hK i] at h; exact h) (p i) (p2 i) (p3 i), fun env σ S H R d env' ee Q q => ?_⟩
  obtain ⟨⟨a, e1⟩, ea, ee⟩ := bind_some ee
  obtain ⟨ds, eds, ee⟩ := bind_some ee
  obtain ⟨l, el, ee⟩ := bind_some ee
  obtain ⟨u, eu, ee⟩ := bind_some ee
  cases ee
  have := asL_some eds
  dsimp only at this
  subst this
  refine s env σ S H R _ e1 ea _ fun v S1 H1 g1 R1 r => s2 e1 σ S1 H1 R1 l el _ fun S2 H2 k2 => s3 e1 σ S2 H2 (R1.gz k2) u eu _ fun S3 H3 k3 => ?_
  have R3 := (R1.gz k2).gz k3
  obtain ⟨a, xs, rfl, hx, rx⟩ := (r.mono (k2.s.trans k3.s)).list_inv
  have hx3 := R3.ex _ _ hx
  have hz : (cutV xs l u).length ≤ sizeLine := by
    have h0 : xs.length ≤ sizeLine := R3.sz _ _ hx3
    have r2 := (rx.cut l u).length
    rw [r2]
    exact Nat.le_trans (cutD_le _ l u) (by rw [← rx.length]; exact h0)
  refine .inl ⟨a, xs, rfl, SqL.of hx3, fun p hp => ?_⟩
  obtain ⟨w1, w2, w3, w4⟩ := fresh_new R3 (g1.trans (k2.trans k3).gm) hp hz
  exact q p _ _ _ _ rfl w1 w2 w3 w4 upd_same (rx.cut l u)
end
end CS

/-! CsY: sorted(set(..)) of ints, k not in range(..), three names at once. -/
namespace CS
open PySem PySem.Spec PyProof.Rows L2
open Evl (Ex ex_l ex_t)
section
variable {P : Program} {w : World} {A : Around} {E : Value → Shared → Prop} {s : Shared}
set_option maxRecDepth 100000 in
set_option maxHeartbeats 3200000 in
/-- set(xs), xs a list of ints -/
theorem call_set_listI {l : Addr} {items : Array Value} (ns : List Int) {Q : Value → Shared → Prop} (hh : A.handled = none) (hl : s.heap.IsList l items) (hit : IntsAre items.toList ns) (hb : ns.length + 1 < scanBound)
    (h : ∀ (h' : Heap) (tk c : Nat), SetR w h' s.heap.objs.size (fun j => decide (j ∈ ns)) c → c ≤ ns.length → (∀ b o, s.heap.get? b = some o → h'.get? b = some o) → Q (.ref s.heap.objs.size) { s with heap := h', toks := tk }) :
    wpAny (model P w) A (call (.type "set") [.ref l]) Q E s := by
  have hisz : items.size = ns.length := by
    have q := IntsAre.length hit
    rw [Array.length_toList] at q
    exact q
  obtain ⟨c, tl, hmro⟩ := F.called_set.mro
  have hmade := F.called_set.made
  have hsub := F.called_set.sub
  refine wpAny_call (codeAny_of_tree ?_)
  show wpAny _ _ (callAny (.type "set") _) _ _ _
  refine wpAny_pure ⟨Code.quiet_builtin _ (by decide +kernel), codeAny_builtin F.entry_type_call ?_⟩
  rw [Around.under_plain (weight_type_call_type "set" [.ref l] []) rfl]
  have h1 := F.called_set.notType
  have h2 := F.called_set.canCreate
  have hct := F.typeCall_set_1 (.ref l)
  repeat (any_goals (first | assumption | wp_step))
  generalize hfr : ({ cls := .type "set", dict := none, data := .set #[] 0 (.fresh 0 0 (!w.params.followText "set-order")) } : Obj) = fresh
  refine codeAny_mono (code_set_led1 (.ref l) (E := E) (Q₁ := fun obj s₁ => obj = .ref s.heap.objs.size ∧ s₁ = { s with heap := s.heap.push fresh }) ⟨rfl, by rw [← hfr]⟩) fun r s₁ hr => ?_
  cases r with
  | error e => exact hr
  | ok fl =>
    cases fl with
    | ret obj =>
      obtain ⟨rfl, rfl⟩ := hr
      have hS : (s.heap.push fresh).get? s.heap.objs.size = some fresh := Heap.get?_push_size _ (by rw [← hfr]; rfl)
      have hT : Shared.TypeIs { s with heap := s.heap.push fresh } (.ref s.heap.objs.size) "set" := ⟨_, hS, by rw [← hfr]⟩
      have hli := F.called_set.init.lookup
      have hbi := F.called_set.init.bind (.ref s.heap.objs.size)
      repeat (any_goals (first | assumption | wp_step))
      refine codeAny_mono (codeAny_call_builtin (R := wants (fun r s₂ => r = .none ∧ ∃ h' tk c, s₂ = { s with heap := h', toks := tk } ∧ SetR w h' s.heap.objs.size (fun j => decide (j ∈ ns)) c ∧ c ≤ ns.length ∧
          (∀ b o, s.heap.get? b = some o → h'.get? b = some o)) E) F.called_set.init.plain F.entry_set_init (check_set_init_1 hT ?_)) fun r₂ s₂ hr₂ => ?_
      · obtain ⟨ol, hol, hcl, nl, hdl⟩ := hl
        obtain ⟨ocls, odict, odata, oslots⟩ := ol
        simp only at hcl hdl
        subst hcl; subst hdl
        have hol' : (s.heap.push fresh).get? l = some { cls := .type "list", dict := odict, data := .seq items nl, slots := oslots } := Heap.get?_push_of_some _ hol
        have hsls := F.sub_list_set
        have hslf := F.sub_list_frozenset
        have hne : (Value.type "list" == Value.type "dict") = false := by decide
        have hl1 : (s.heap.push fresh).IsList l items := ⟨_, hol', rfl, nl, rfl⟩
        subst hfr
        unfold Builtin.«set.__init__» noKeywords Builtin.Frozenset.updateFrom
        generalize hPI : pyIter = PI
        wp_walk
        subst hPI
        refine wpAny_pyIter_list hl1 ?_
        refine wpAny_bind (wpAny_runValue ?_)
        have hlS : l < s.heap.objs.size := Heap.lt_size hol
        have hh3 : A.in1.in1.in1.handled = none := by simp [hh]
        have hz1 : (s.heap.push { cls := .type "set", dict := none, data := .set #[] 0 (.fresh 0 0 (!w.params.followText "set-order")) }).objs.size = s.heap.objs.size + 1 := Heap.size_push ..
        have hneI : l ≠ (s.heap.push { cls := .type "set", dict := none, data := .set #[] 0 (.fresh 0 0 (!w.params.followText "set-order")) }).objs.size := by rw [Heap.size_push]; exact Nat.ne_of_lt (Nat.lt_succ_of_lt hlS)
        have hSf : s.heap.objs.size ∉ [(s.heap.push { cls := .type "set", dict := none, data := .set #[] 0 (.fresh 0 0 (!w.params.followText "set-order")) }).objs.size, l] := by
          rw [Heap.size_push]; simp only [List.mem_cons, List.not_mem_nil, or_false, not_or]
          exact ⟨Nat.ne_of_lt (Nat.lt_succ_self _), Nat.ne_of_gt hlS⟩
        have hval : ∀ (i : Nat) (v : Value), items[i]? = some v → ∃ k t, ns[i]? = some k ∧ v = .int k t := fun i v hv => by
          have hi : i < ns.length := by rw [← hisz]; exact (Array.getElem?_eq_some_iff.mp hv).1
          obtain ⟨t, e⟩ := PyProof.Rows.IntsAre.int_at hit i v (by rw [Array.getElem?_toList]; exact hv)
          refine ⟨ns[i], t, List.getElem?_eq_getElem hi, ?_⟩
          rw [e, List.getD_eq_getElem?_getD, List.getElem?_eq_getElem hi] <;> rfl
        refine set_update_ints ((Walks.list hh3 _ l hneI items).toS) s.heap.objs.size
          hSf ns hisz hb hval (items.size - 0) 0 _ (by omega) (Nat.zero_le _)
          ⟨⟨_, Heap.get?_push_size _ rfl, rfl, rfl⟩, (hl1.push _)⟩ ?hS0 ?hR
        case hS0 =>
          exact ⟨0, Nat.le_refl 0, setR_new_at (Heap.get?_push_of_some _ hS)⟩
        case hR =>
          intro s' c' hm hc' hS'
          obtain ⟨h', gn, d', tk', os'⟩ := s'
          have eg : gn = s.gens := hm.gens
          have ed : d' = s.drawn := hm.drawn
          have eo : os' = s.os := hm.os
          subst eg; subst ed; subst eo
          show wpAny _ _ _ _ _ _
          refine wpAny_pure ?_
          show wpAny _ _ (ret Value.none) _ _ _
          rw [hisz] at hc'
          refine wpAny_pure ⟨rfl, h', tk', c', rfl, hS', hc', fun b o e => ?_⟩
          have hb0 : b < s.heap.objs.size := Heap.lt_size e
          have hb2 : b ≠ (s.heap.push { cls := .type "set", dict := none, data := .set #[] 0 (.fresh 0 0 (!w.params.followText "set-order")) }).objs.size := by rw [Heap.size_push]; exact Nat.ne_of_lt (Nat.lt_succ_of_lt hb0)
          exact hm.heap b o (by simp only [List.mem_cons, List.not_mem_nil, or_false, not_or]; exact ⟨Nat.ne_of_lt hb0, hb2⟩) (Heap.get?_push_of_some _ (Heap.get?_push_of_some _ e))
      · cases r₂ with
        | error e => exact hr₂
        | ok fl₂ =>
          cases fl₂ with
          | ret r =>
            obtain ⟨rfl, h', tk, c', rfl, hS', hc', hk'⟩ := hr₂
            repeat (any_goals (first | assumption | wp_step))
            exact h _ _ _ hS' hc' hk'
          | _ => exact hr₂.elim
    | _ => exact hr.elim
/-- sorted of a set of ints, any number of them -/
theorem sorted_setI {a : Addr} {S : Int → Bool} {n : Nat} {Q : Value → Shared → Prop} (R : SetR w s.heap a S n) (hh : A.handled = none)
    (hQ : ∀ s' p (out : Array Value) (c : Nat) (ns : List Int), (∀ b o, s.heap.get? b = some o → s'.heap.get? b = some o) → s'.gens = s.gens → s'.os = s.os → s.heap.objs.size ≤ p →
      s'.heap.get? p = some (seqObj "list" out c) → IntsAre out.toList ns → ns.Pairwise (· < ·) → (∀ k, k ∈ ns ↔ S k = true) → ns.length ≤ sizeLine → Q (.ref p) s') :
    wpAny (model P w) A (call (.builtin "sorted") [.ref a]) Q E s := by
  obtain ⟨o, es, ep, t, ho, hex, hd, g, nd, hm, hb, hf, hn, hr, hl⟩ := R
  refine Calls.call_function_entry kind_sorted plain_sorted entry_sorted (args_sorted1 _) ?_
  unfold Builtin.«sorted»
  refine wpAny_bind (m := checkCount "sorted" 1 1 _) (wpAny_pure ?_)
  refine wpAny_bind (collect_set (A := A.in1) hh ⟨o, ho, hex.1, hd⟩ hf hb hr hl fun s1 vs k1 hz g1 o1 pm => ?_)
  have hI : IntsAre vs (vs.map Builtin.Re.reRawOf) := ints_of vs fun v hv => by
    obtain ⟨e, he, q⟩ := List.mem_map.mp (pm.mem_iff.mp hv)
    obtain ⟨k, tk, h1, _⟩ := g e he
    exact ⟨k, tk, by rw [← q]; exact h1⟩
  have pk : (vs.map Builtin.Re.reRawOf).Perm (es.toList.map keyOf) := by
    have q := pm.map Builtin.Re.reRawOf
    rw [List.map_map] at q
    exact q
  have hzl : vs.length ≤ sizeLine := by
    have h1 : vs.length = es.size := by rw [pm.length_eq, List.length_map, Array.length_toList]
    have h2 : es.size < 4096 := hb
    rw [sizeLine_eq]
    omega
  refine wpAny_bind (wpAny_newList ?_ hzl)
  have hnew : (s1.heap.push (seqObj "list" vs.toArray 0)).get? s1.heap.objs.size = some (seqObj "list" vs.toArray 0) := Heap.get?_push_size _ rfl
  refine wpAny_bind (wpAny_holding (wpAny_call_entry slot_list_sort ⟨_, hnew, rfl⟩ entry_list_sort (SrtO.list_sort_ord SrtO.swo_int hnew hzl (fun h2 => SrtO.ints_sortable hI h2) fun out hs hb2 => ⟨_, rfl, ?_⟩) (args_list_sort _)))
  obtain ⟨k4, k5, k6⟩ := SrtO.ints_out hI hs hb2
  obtain ⟨c, hc⟩ := sortedHeap_at (vs := vs) (out := out.toArray) hnew
  have pn : (out.map SrtO.iv).Perm (es.toList.map keyOf) := k5.trans pk
  refine wpAny_pure ⟨_, rfl, hQ _ s1.heap.objs.size out.toArray c (out.map SrtO.iv) (fun b u e => ?_) g1 o1 hz hc (by simpa using k4) (lt_of_le_nodup _ k6 (pn.nodup_iff.mpr nd)) (fun k => by rw [pn.mem_iff, ← hm k]) ?_⟩
  · have q := k1 b u e
    have hlt := Heap.lt_size q
    show (sortedHeap (s1.heap.push (seqObj "list" vs.toArray 0)) s1.heap.objs.size vs out.toArray).get? b = some u
    rw [sortedHeap_old (Nat.ne_of_lt hlt) (by rw [size_push']; exact Nat.lt_succ_of_lt hlt)]
    exact Heap.get?_push_of_some _ q
  · rw [k5.length_eq, List.length_map]; exact hzl
end
/-! ### sorted(set(xs)), a list of ints -/
/-- each once, ascending -/
def setI (ns : List Int) : List Int := sortI (ns.foldr (fun x r => if x ∈ r then r else x :: r) [])
theorem onceI_mem (ls : List Int) : ∀ x, x ∈ (ls.foldr (fun x r => if x ∈ r then r else x :: r) []) ↔ x ∈ ls := by
  induction ls with
  | nil => simp
  | cons y r ih =>
    intro x
    simp only [List.foldr_cons]
    split
    · rename_i hy
      rw [ih x, List.mem_cons]
      refine ⟨.inr, fun h => h.elim (fun e => ?_) id⟩
      subst e
      exact (ih x).mp hy
    · rw [List.mem_cons, List.mem_cons, ih x]
theorem onceI_nodup (ls : List Int) : (ls.foldr (fun x r => if x ∈ r then r else x :: r) []).Nodup := by
  induction ls with
  | nil => simp
  | cons y r ih =>
    simp only [List.foldr_cons]
    split
    · exact ih
    · rename_i hy
      exact List.nodup_cons.mpr ⟨fun h => hy h, ih⟩
theorem setI_mem (ns : List Int) (x : Int) : x ∈ setI ns ↔ x ∈ ns := by
  unfold setI
  rw [(sortI_perm _).mem_iff, onceI_mem]
theorem setI_uniq {ns ms : List Int} (hm : ∀ x, x ∈ ms ↔ x ∈ ns) (h : ms.Pairwise (· < ·)) : ms = setI ns := by
  refine sortI_uniq ((List.perm_ext_iff_of_nodup (h.imp fun h => Int.ne_of_lt h) (onceI_nodup ns)).mpr fun x => ?_) (h.imp fun h => Int.le_of_lt h)
  rw [hm x, onceI_mem]
def tSortSetI (K : PySem.W.Frag) (ta : TE) : TE := fun σ H Q => ta σ H fun x H1 => ∃ (l : Addr) (ns : List Int), x = V.ref l ∧ SqL K H1 l (ns.map V.int) ∧ ns.length < 4000 ∧
  ∀ (ms : List Int) (p : Addr), (∀ k, k ∈ ms ↔ k ∈ ns) → ms.Pairwise (· < ·) → ms.length ≤ sizeLine → H1 p = none → Q (.ref p) (L2.upd H1 p (.lst (ms.map V.int)))
theorem pe_sortSetI {X : Cx} {a : Expr} {ta : TE} {p p2 q pos : Pos} (hc : X.calm = true) (hg : Gl X "sorted") (hm : X.mg "sorted" = none) (hg2 : Gl X "set") (hm2 : X.mg "set" = none) (ha : PE X a ta)
    (n1 : starEach [.Call (.Name "set" p2) [a] [] q] X.env = (false, eval (.Call (.Name "set" p2) [a] [] q) X.env) :: starEach [] X.env) (na : starEach [a] X.env = (false, eval a X.env) :: starEach [] X.env) : PE X (.Call (.Name "sorted" p) [.Call (.Name "set" p2) [a] [] q] [] pos) (tSortSetI X.K ta) := by
  refine ⟨fun pins s σ H Q I h => ?_⟩
  refine Call_ (ld_blt I hg hm PyProof.Rows.boot_sorted ?_)
  refine PyProof.Rows.callWith_builtin1 (PyProof.Rows.args_cons ?_ n1) n1 rfl
  refine Call_ (ld_blt I hg2 hm2 PyProof.Rows.boot_set ?_)
  refine PyProof.Rows.callWith_type1 (PyProof.Rows.args_cons (thn (ha.run pins s σ H _ I h) fun v s1 ⟨x, H1, I1, r1, q1⟩ => PyProof.Rows.args_nil ?_) na) na rfl
  obtain ⟨l, ns, rfl, hq, h1, q1⟩ := q1
  cases r1
  obtain ⟨its, r, pl, hz⟩ := I1.list hq
  refine call_set_listI ns (I1.ok.hd hc) pl.isList (by simpa using r.ints) (by unfold scanBound; omega) fun h' tk c hS hcl hk => ?_
  refine PyProof.Rows.args_nil ?_
  have I2 : Inv X pins σ H1 { s1 with heap := h', toks := tk } := I1.kept hk
  refine sorted_setI (s := { s1 with heap := h', toks := tk }) hS (I1.ok.hd hc) fun s' p out c ms keep hg ho hsz hout hI hlt hmem hlen => ?_
  have free : H1 p = none := I2.hok.fresh hsz
  have small : (ms.map V.int).length ≤ sizeLine := by rw [List.length_map]; exact hlen
  have vals : Vals (ms.map V.int) out.toList := vals_of_ints hI
  have J : Inv X pins σ (L2.upd H1 p (.lst (ms.map V.int))) { ({ s1 with heap := h', toks := tk } : Shared) with heap := s'.heap, gens := s'.gens, drawn := s'.drawn, toks := s'.toks } := I2.call (ch := []) (Un.laid keep hsz free) (I2.hok.laid keep hsz ⟨small, out.toList, c, vals, hout⟩) (by rw [hg]; exact I2.bare) (fun _ z => nomatch z)
  have same : s' = { ({ s1 with heap := h', toks := tk } : Shared) with heap := s'.heap, gens := s'.gens, drawn := s'.drawn, toks := s'.toks } := by
    cases s'
    cases s1
    cases ho
    rfl
  rw [same]
  exact ⟨.ref p, _, J, rfl, q1 ms p (fun k => by rw [hmem k]; simp) hlt hlen free⟩
def dSortSetI : D → Option D
  | .list ds => (asInts ds).bind fun ns => if ns.length < 4000 then some (.list ((setI ns).map .int)) else none
  | _ => none
theorem semP_sortSetI {K : PySem.W.Frag} {m : List Nat} {te : TE} {F : En → Option D} (h : SemP K m te F) : SemP K m (tSortSetI K te) (f1 dSortSetI F) := fun env σ S H R d e Q q => by
  obtain ⟨a, ea, e⟩ := bind_some e
  unfold dSortSetI at e
  split at e
  · obtain ⟨ns, hns, e'⟩ := bind_some e
    clear e
    have := asInts_some hns
    subst this
    split at e'
    case isFalse => cases e'
    rename_i hl
    cases e'
    refine h env σ S H R _ ea _ fun v S1 H1 k1 r => ?_
    obtain ⟨l, xs, rfl, hx, rx⟩ := r.list_inv
    have := rx.ints_inv
    subst this
    refine ⟨l, ns, rfl, SqL.of (k1.x _ _ hx), hl, fun ms p hm hlt hlen hp => ?_⟩
    have := setI_uniq hm hlt
    subst this
    obtain ⟨k3, k4⟩ := newL k1.x k1.z (RpAll.ints (K := K) (H := S1) (setI ns)) (by rw [List.length_map]; exact hlen) hp
    exact q _ _ _ (k1.trans k3) k4
  · cases e
theorem eSortSetI {ι : Type} {X : ι → Cx} {P : Program} {w : World} {K : PySem.W.Frag} {mg : Str → Option Value} {base : Heap} {k : Nat} {m : List Nat} {e : Expr} {p1 p2 q1 q2 : Pos} {F : En → Option D} (C : Cw X P w K mg base k) (hs : mg "sorted" = none) (ht : mg "set" = none) (h : DE X K m e F)
    (hg1 : ∀ i, Gl (X i) "sorted" := by intro _; rfl) (hg2 : ∀ i, Gl (X i) "set" := by intro _; rfl)
    (he1 : ∀ i, starEach [.Call (.Name "set" p2) [e] [] q2] (X i).env = (false, eval (.Call (.Name "set" p2) [e] [] q2) (X i).env) :: starEach [] (X i).env := by intro _; rfl) (he2 : ∀ i, starEach [e] (X i).env = (false, eval e (X i).env) :: starEach [] (X i).env := by intro _; rfl) :
    DE X K m (.Call (.Name "sorted" p1) [.Call (.Name "set" p2) [e] [] q2] [] q1) (f1 dSortSetI F) := by
  obtain ⟨t, pp, s⟩ := h
  refine ⟨_, fun i => ?_, semP_sortSetI s⟩
  have a3 := C.hK i; have a4 := C.hm i
  have := pe_sortSetI (pos := q1) (C.calm i) (hg1 i) (p := p1) (by rw [a4]; exact hs) (hg2 i) (by rw [a4]; exact ht) (pp i) (he1 i) (he2 i)
  rw [a3] at this
  exact this
end CS

/-! CsZ: k not in range(..), sorted ints that are fresh, three names at once. -/
namespace CS
open PySem PySem.Spec PyProof.Rows L2
open Evl (Ex ex_l ex_t)
section
variable {X : Cx}
theorem cr_range1 : CallR X (.type "range") (fun vs H Q => ∃ n, vs = [V.int n] ∧ ∀ p, H p = none → Q (.ref p) (L2.upd H p (.rng 0 n))) := by
  intro pins s σ H vs us Q I r h
  obtain ⟨n, rfl, q⟩ := h
  obtain ⟨u, rfl, ru⟩ := vals1 r
  obtain ⟨t, rfl⟩ := ru
  refine call_range_1 ⟨.ref _, L2.upd H _ (.rng 0 n), I.laid (t' := _) (fun b o e => Heap.get?_push_of_some _ e) (Nat.le_refl _) ?_, rfl, q _ (I.hok.fresh (Nat.le_refl _))⟩
  exact ⟨_, _, _, Heap.get?_push_size _ rfl⟩
/-- i not in r -/
theorem op_notIn_rng : OpR X (compareOp .NotIn) (fun x y H Q => ∃ i a lo hi, x = V.int i ∧ y = V.ref a ∧ H a = some (.rng lo hi) ∧ Q (.bl (!decide (lo ≤ i ∧ i < hi))) H) := by
  intro pins s σ H x y v u Q I rx ry h
  obtain ⟨i, a, lo, hi, rfl, rfl, ha, q⟩ := h
  obtain ⟨k, rfl⟩ := rx
  obtain rfl : u = Value.ref a := ry
  obtain ⟨t1, t2, t3, ho⟩ := I.hok a _ ha
  show wpAny _ _ (do return Value.bool (!(← contains (Value.ref a) (Value.int i k)))) _ _ s
  refine wpAny_bind (wpAny_contains_slot (T := "range") ⟨_, ho, rfl⟩ F.slot_range_contains (call_meets F.slot_range_contains ⟨_, ho, rfl⟩ F.entry_range_contains (F.args_range_contains_2 _ _) (q_contains a lo hi i t1 t2 t3 k)
    ⟨ho, wpAny_truthy_bool (wpAny_pure ⟨.bl _, H, I, rfl, ?_⟩)⟩))
  rw [place1]
  exact q
end
def dNotInR : D → List D → Option D
  | .int i, [.int n] => some (.bool (!decide (0 ≤ i ∧ i < n)))
  | _, _ => none
def fNotInR (Fa : En → Option D) (Fl : En → Option (List D)) : En → Option D := fun env => (Fa env).bind fun x => (Fl env).bind fun l => dNotInR x l
theorem semP_notInR {K : PySem.W.Frag} {m : List Nat} {ta : TE} {tb : TA} {Fa : En → Option D} {Fl : En → Option (List D)} (ha : SemP K m ta Fa) (hb : SemPA K m tb Fl) :
    SemP K m (tOp (fun x y H Q => ∃ i a lo hi, x = V.int i ∧ y = V.ref a ∧ H a = some (.rng lo hi) ∧ Q (.bl (!decide (lo ≤ i ∧ i < hi))) H) ta (tCB (fun vs H Q => ∃ n, vs = [V.int n] ∧ ∀ p, H p = none → Q (.ref p) (L2.upd H p (.rng 0 n))) tb)) (fNotInR Fa Fl) := fun env σ S H R d e Q q => by
  obtain ⟨x, ex, e⟩ := bind_some e
  obtain ⟨l, el, e⟩ := bind_some e
  unfold dNotInR at e
  split at e
  · rename_i iz nz _
    cases e
    refine ha env σ S H R _ ex _ fun v S1 H1 k1 r1 => hb env σ S1 H1 (R.gz k1) _ el _ fun vs S2 H2 k2 r2 => ?_
    obtain ⟨u, rfl, ru⟩ := r2.one_inv
    have := ru.int_inv
    subst this
    refine ⟨_, rfl, fun p hp => ⟨_, p, 0, _, r1.int_inv, rfl, upd_same, ?_⟩⟩
    have hS := ex_free k2.x hp
    have g3 : Gz S2 H2 S2 (L2.upd H2 p (.rng 0 nz)) := ⟨Ex.refl _, Ex.new hp, fun _ _ => rfl, fun a o e => by
      rw [upd_ne (ne_of_none e hS)]; exact k2.x a o e, k2.z.upd trivial⟩
    exact q _ S2 _ ((k1.trans k2).trans g3) (.bl _)
  · cases e
section
variable {ι : Type} {X : ι → Cx} {K : PySem.W.Frag} {mg : Str → Option Value} {k : Nat} {m : List Nat} {a e : Expr} {es : List Expr} {p q pos : Pos} {Fa : En → Option D} {Fl : En → Option (List D)}
theorem eNotInR (C : Cok X K k) (hmg : mg "range" = none) (h : DE X K m a Fa) (ha : DA X K m [e] Fl) (hm : behindInMarks .NotIn (.Call (.Name "range" p) [e] [] q) = false := by first | exact nomark _ | with_unfolding_all rfl)
    (hmm : ∀ i, (X i).mg = mg := by intro _; rfl) (hgl : ∀ i, Gl (X i) "range" := by intro _; rfl) (he : ∀ i, starEach [e] (X i).env = (false, eval e (X i).env) :: starEach [] (X i).env := by intro _; rfl) (hpl : ∀ i, (backTo q (starEach [] (X i).env)).any (·.1) = false := by intro _; rfl) :
    DE X K m (.Compare a [.NotIn] [.Call (.Name "range" p) [e] [] q] pos) (fNotInR Fa Fl) := by
  obtain ⟨t1, p1, s1⟩ := h
  obtain ⟨t2, p2, s2⟩ := ha
  exact ⟨_, fun i => pe_cmpR op_notIn_rng (p1 i) (pe_callTy cr_range1 (hgl i) (by rw [hmm i]; exact hmg) (by decide +kernel) (p2 i) (by decide) (by decide) (he i) (hpl i)) hm, semP_notInR s1 s2⟩
theorem tNotInR (C : Cok X K k) (hmg : mg "range" = none) (h : DE X K m a Fa) (ha : DA X K m [e] Fl) (hm : behindInMarks .NotIn (.Call (.Name "range" p) [e] [] q) = false := by first | exact nomark _ | with_unfolding_all rfl)
    (hmm : ∀ i, (X i).mg = mg := by intro _; rfl) (hgl : ∀ i, Gl (X i) "range" := by intro _; rfl) (he : ∀ i, starEach [e] (X i).env = (false, eval e (X i).env) :: starEach [] (X i).env := by intro _; rfl) (hpl : ∀ i, (backTo q (starEach [] (X i).env)).any (·.1) = false := by intro _; rfl) :
    DT X K m (.Compare a [.NotIn] [.Call (.Name "range" p) [e] [] q] pos) (fTest (fNotInR Fa Fl)) := by
  obtain ⟨t1, p1, s1⟩ := h
  obtain ⟨t2, p2, s2⟩ := ha
  exact ⟨_, fun i => pt_cmpR op_notIn_rng (p1 i) (pe_callTy cr_range1 (hgl i) (by rw [hmm i]; exact hmg) (by decide +kernel) (p2 i) (by decide) (by decide) (he i) (hpl i)) hm, semPT_test (semP_notInR s1 s2)⟩
end
/-! ### sorted ints, fresh -/
def dSortI : List D → Option D
  | [.list ds] => (asInts ds).map fun ns => .list ((sortI ns).map .int)
  | _ => none
theorem semFP_sortI {K : PySem.W.Frag} {m : List Nat} {ta : TA} {Fa : En → Option (List D)} (ha : SemPA K m ta Fa) : SemFP K m (tCB (rSortedI K) ta) (fCall dSortI Fa) := fun env σ S H R d e Q q => by
  obtain ⟨as, ea, e⟩ := bind_some e
  refine ha env σ S H R as ea _ fun vs S1 H1 k1 r1 => ?_
  unfold dSortI at e
  split at e
  · obtain ⟨ns, hns, e'⟩ := map_some e
    have := asInts_some hns
    subst this
    subst e'
    obtain ⟨v, rfl, rv⟩ := r1.one_inv
    obtain ⟨l, xs, rfl, hx, rx⟩ := rv.list_inv
    have := rx.ints_inv
    subst this
    have hl : (ns.map V.int).length ≤ sizeLine := k1.z l _ (k1.x _ _ hx)
    refine ⟨l, ns, rfl, SqL.of (k1.x _ _ hx), fun ns' p hperm hs hp => ?_⟩
    have := sortI_uniq hperm hs
    subst this
    obtain ⟨w1, w2⟩ := fresh_gz (S := S1) (xs := (sortI ns).map V.int) k1.x k1.z hp (by rw [List.length_map, (sortI_perm ns).length_eq]; simpa using hl)
    refine q p _ _ S1 _ rfl (k1.trans w1) ?_ w2 upd_same (RpAll.ints (K := K) (H := S1) (sortI ns))
    cases c : H p with
    | none => rfl
    | some u => exact absurd (k1.h _ _ c) (by rw [hp]; simp)
  · cases e
section
variable {ι : Type} {X : ι → Cx} {K : PySem.W.Frag} {mg : Str → Option Value} {k : Nat} {m : List Nat} {e : Expr} {es : List Expr} {p pos : Pos} {Fl : En → Option (List D)}
theorem fpSortI (C : Cok X K k) (hmg : mg "sorted" = none) (ha : DA X K m (e :: es) Fl)
    (hm : ∀ i, (X i).mg = mg := by intro _; rfl) (hgl : ∀ i, Gl (X i) "sorted" := by intro _; rfl) (he : ∀ i, starEach (e :: es) (X i).env = (false, eval e (X i).env) :: starEach es (X i).env := by intro _; rfl) (hpl : ∀ i, (backTo pos (starEach es (X i).env)).any (·.1) = false := by intro _; rfl) :
    DFP X K m (.Call (.Name "sorted" p) (e :: es) [] pos) (fCall dSortI Fl) := by
  obtain ⟨t, pp, s⟩ := ha
  exact ⟨_, fun i => pe_callB (by have h := @cr_sortedI (X i); rw [C.hK i] at h; exact h) (hgl i) (by rw [hm i]; exact hmg) (by decide +kernel) (pp i) (by decide) (by decide) (he i) (hpl i), semFP_sortI s⟩
end
/-! ### a, b, c = x, a fresh list, a fresh list -/
def sPar3F (i j l : Nat) (G1 G2 G3 : En → Option (D × En)) : En → Option Out := fun env => (G1 env).bind fun r1 => (G2 r1.2).bind fun r2 => (G3 r2.2).bind fun r3 => if i < r3.2.length ∧ j < r3.2.length ∧ l < r3.2.length then some (.nx (setE l r3.1 (setE j r2.1 (setE i r1.1 r3.2)))) else none
section
variable {K : PySem.W.Frag} {fr : Bool} {pn m ml : List Nat}
theorem semS_par3F {i j l : Nat} {t1 t2 t3 : TE} {G1 G2 G3 : En → Option (D × En)} (h1 : Sem K m t1 G1) (h2 : SemF K m t2 G2) (h3 : SemF K m t3 G3) (hi : i ∉ m) (hj : j ∉ m) (hl : l ∉ m) (hij : i ≠ j) (hil : i ≠ l) (hjl : j ≠ l) (hp : ∀ k, k ∈ pn → k ≠ i ∧ k ≠ j ∧ k ≠ l) :
    SemS K fr pn m ml (l :: j :: m) (tPar3 i j l (tCons t1 (tCons t2 (tCons t3 tNil)))) (sPar3F i j l G1 G2 G3) := fun env σ S H R o e E q => by
  obtain ⟨⟨d1, e1⟩, ed1, e⟩ := bind_some e
  obtain ⟨⟨d2, e2⟩, ed2, e⟩ := bind_some e
  obtain ⟨⟨d3, e3⟩, ed3, e⟩ := bind_some e
  dsimp only at e
  split at e
  case isFalse => cases e
  rename_i hlt
  cases e
  refine h1 env σ S H R d1 e1 ed1 _ fun v1 S1 H1 g1 R1 r1 => ?_
  refine h2 e1 σ S1 H1 R1 d2 e2 ed2 _ fun p2 vs2 ds2 S2 H2 hd2 g2' R2 n2 n2s hp2 rp2 => ?_
  refine h3 e2 σ S2 H2 R2 d3 e3 ed3 _ fun p3 vs3 ds3 S3 H3 hd3 g3 R3 n3 n3s hp3 rp3 => ?_
  subst hd2 hd3
  have no2 : ¬ Own m σ p2 := R1.notOwn n2
  have no3 : ¬ Own m σ p3 := R2.notOwn n3
  have hp2' : H3 p2 = some (.lst vs2) := g3.h _ _ hp2 no2
  have sp2 : S3 p2 = none := (g3.n p2 no2 (by rw [hp2]; simp)).trans n2s
  have hne : p3 ≠ p2 := fun c => by rw [c, hp2] at n3; cases n3
  have len : e3.length = σ.length := R3.len
  have Ra := R3.set hi (r1.mono (g2'.s.trans g3.s))
  have ow1 : ¬ Own m (σ.set i (some v1)) p2 := fun ⟨k, hk, ek⟩ => no2 ⟨k, hk, by rw [List.getElem?_set_ne (ne_mem hk hi)] at ek; exact ek⟩
  have Rb := Ra.own (j := j) (p := p2) (vs := vs2) (ds := ds2) hj (by rw [List.length_set]; omega) sp2 hp2' (rp2.mono g3.s) ow1
  have ow2 : ¬ Own (j :: m) ((σ.set i (some v1)).set j (some (.ref p2))) p3 := fun ⟨k, hk, ek⟩ => by
    by_cases c : j = k
    · subst c
      rw [List.getElem?_set_self (by rw [List.length_set]; omega)] at ek
      cases ek
      exact hne rfl
    · rw [List.getElem?_set_ne c] at ek
      simp at hk
      rcases hk with hk | hk
      · exact absurd hk.symm c
      · rw [List.getElem?_set_ne (ne_mem hk hi)] at ek
        exact no3 ⟨k, hk, ek⟩
  have Rc := Rb.own (j := l) (p := p3) (vs := vs3) (ds := ds3) (by simp only [List.mem_cons, not_or]; exact ⟨fun c => hjl c.symm, hl⟩) (by rw [List.length_set, List.length_set]; omega) n3s hp3 rp3 ow2
  have n20 : H p2 = none := by
    cases c : H p2 with
    | none => rfl
    | some u => exact absurd n2 (g1.d p2 (by rw [c]; simp))
  have n30 : H p3 = none := by
    cases c : H p3 with
    | none => rfl
    | some u => exact absurd n3 ((g1.trans g2').d p3 (by rw [c]; simp))
  refine ⟨v1, .ref p2, .ref p3, rfl, q _ S3 H3 ⟨(g1.trans g2').trans g3, fun a ⟨k, hk, ek⟩ => ?_, fun k hk => ?_⟩ Rc⟩
  · by_cases c : l = k
    · subst c
      rw [List.getElem?_set_self (by rw [List.length_set, List.length_set]; omega)] at ek
      cases ek
      exact .inr n30
    · rw [List.getElem?_set_ne c] at ek
      by_cases c2 : j = k
      · subst c2
        rw [List.getElem?_set_self (by rw [List.length_set]; omega)] at ek
        cases ek
        exact .inr n20
      · rw [List.getElem?_set_ne c2] at ek
        have hk' : k ∈ m := by
          simp only [List.mem_cons] at hk
          rcases hk with z | z | z
          · exact absurd z.symm c
          · exact absurd z.symm c2
          · exact z
        rw [List.getElem?_set_ne (ne_mem hk' hi)] at ek
        exact .inl ⟨k, hk', ek⟩
  · rw [List.getElem?_set_ne (Ne.symm (hp k hk).2.2), List.getElem?_set_ne (Ne.symm (hp k hk).2.1), List.getElem?_set_ne (Ne.symm (hp k hk).1)]
end
section
variable {ι : Type} {X : ι → Cx} {K : PySem.W.Frag} {k : Nat} {m pn ml : List Nat} {fr : Bool} {pos : Pos}
theorem sPr3F (i j l : Nat) {x y z : Str} {a b c : Expr} {px py pz pt : Pos} {kt k2 : Nat} {pt2} {G1 G2 G3 : En → Option (D × En)} (C : Cok X K k) (h1 : DM X K m a G1) (h2 : DF X K m b G2) (h3 : DF X K m c G3) (hi : i ∉ m := by decide) (hj : j ∉ m := by decide) (hl : l ∉ m := by decide) (hij : i ≠ j := by decide) (hil : i ≠ l := by decide) (hjl : j ≠ l := by decide) (hp : ∀ k, k ∈ pn → k ≠ i ∧ k ≠ j ∧ k ≠ l := by decide)
    (hNi : ∀ q, (X q).N[i]? = some x := by intro _; rfl) (hNj : ∀ q, (X q).N[j]? = some y := by intro _; rfl) (hNl : ∀ q, (X q).N[l]? = some z := by intro _; rfl) (hx : ∀ q, (X q).env.scope.names.lookup x = some .local := by intro _; rfl) (hy : ∀ q, (X q).env.scope.names.lookup y = some .local := by intro _; rfl) (hz : ∀ q, (X q).env.scope.names.lookup z = some .local := by intro _; rfl)
    (ha : ∀ q, starEach [a, b, c] (X q).env = (false, eval a (X q).env) :: starEach [b, c] (X q).env := by intro _; rfl) (hb : ∀ q, starEach [b, c] (X q).env = (false, eval b (X q).env) :: starEach [c] (X q).env := by intro _; rfl) (hc : ∀ q, starEach [c] (X q).env = (false, eval c (X q).env) :: starEach [] (X q).env := by intro _; rfl)
    (hw : ∀ q, swappedStores [.Tuple [.Name x px, .Name y py, .Name z pz] kt pt] (.Tuple [a, b, c] k2 pt2) (X q).env = pure (some [x, y, z]) := by intro _; rfl)
    (hs : ∀ q, swapsWithSole [.Tuple [.Name x px, .Name y py, .Name z pz] kt pt] (.Tuple [a, b, c] k2 pt2) pos.line (X q).env = pure false := by intro _; rfl) :
    DS X K fr pn m ml (l :: j :: m) (.Assign [.Tuple [.Name x px, .Name y py, .Name z pz] kt pt] (.Tuple [a, b, c] k2 pt2) pos) (sPar3F i j l G1 G2 G3) := by
  obtain ⟨t1, p1, s1⟩ := h1
  obtain ⟨t2, p2, s2⟩ := h2
  obtain ⟨t3, p3, s3⟩ := h3
  exact ⟨_, fun q => ps_par3 (C.calm q) (C.nd q) (hNi q) (hNj q) (hNl q) hij hil hjl (hx q) (hy q) (hz q) (pa_cons (p1 q) (pa_cons (p2 q) (pa_cons (p3 q) pa_nil (hc q)) (hb q)) (ha q)) (hw q) (hs q), semS_par3F s1 s2 s3 hi hj hl hij hil hjl hp⟩
end
end CS

/-! CsK: sorted of any data that are alike, starred items, any of ints, defs that call themselves. -/
namespace CS
open PySem PySem.Spec PyProof.Rows L2
open Evl (Ex ex_l ex_t)
/-! ### sorted(xs), data of any depth -/
def dataLeF (a b : D) : Bool := !PySem.W.dataLt b a
def okSort (ds : List D) : Prop := (∀ d ∈ ds, ∀ d' ∈ ds, PySem.W.alike d d' = true) ∧ ((∀ d ∈ ds, ∃ e, d = .list e) ∨ (∀ d ∈ ds, ∃ x r, d = .tuple (x :: r))) ∧ PyData.canLayAll0 ds = true ∧ PyData.depthAll ds ≤ 60
open Classical in
noncomputable def dSortD : List D → Option D
  | [.list ds] => if okSort ds then some (.list (ds.mergeSort dataLeF)) else none
  | _ => none
def rSortD (K : PySem.W.Frag) : List V → Hp → VK → Prop := fun vs H Q => ∃ (a : Addr) (xs : List V) (ds : List D), vs = [V.ref a] ∧ SqL K H a xs ∧ DpAll K H xs ds ∧ okSort ds ∧
  ∀ (bs : List (V × D)) (p : Addr), bs = (xs.zip ds).mergeSort (fun b c => dataLeF b.2 c.2) → H p = none → Q (.ref p) (L2.upd H p (.lst (bs.map (·.1))))
theorem each_zip {I : V → Value → Prop} : ∀ {xs : List V} {us : List Value} {ds : List D}, Vals xs us → xs.length = ds.length → PySem.W.EachIs (fun u (b : V × D) => RelV b.1 u) us (xs.zip ds)
  | [], _, [], .nil, _ => .nil
  | _ :: _, _, _ :: _, .cons r t, h => .cons r (each_zip (I := I) t (by simpa using h))
theorem each_reads {X : Cx} {pins : List (Addr × Obj)} {σ : L2.St} {H : Hp} {s : Shared} (J : Inv X pins σ H s) : ∀ {xs : List V} {us : List Value} {ds : List D}, Vals xs us → DpAll X.K H xs ds → PySem.W.EachIs (fun u (b : V × D) => ∃ as, Reads s.heap u b.2 as) us (xs.zip ds)
  | [], _, [], .nil, .nil => .nil
  | _ :: _, _, _ :: _, .cons r t, .cons d e => .cons (Dp.reads J _ _ _ d r) (each_reads J t e)
theorem each_vals : ∀ {us : List Value} {bs : List (V × D)}, PySem.W.EachIs (fun u (b : V × D) => RelV b.1 u) us bs → Vals (bs.map (·.1)) us
  | _, _, .nil => .nil
  | _, _, .cons r t => .cons r (each_vals t)
theorem dpAll_len {K : PySem.W.Frag} {H : Hp} : ∀ {xs : List V} {ds : List D}, DpAll K H xs ds → xs.length = ds.length
  | _, _, .nil => rfl
  | _, _, .cons _ t => by simp [dpAll_len t]
theorem zip_snd : ∀ {xs : List V} {ds : List D}, xs.length = ds.length → (xs.zip ds).map (·.2) = ds
  | [], [], _ => rfl
  | _ :: xs, _ :: ds, h => by simp [zip_snd (xs := xs) (ds := ds) (by simpa using h)]
theorem cr_sortD {X : Cx} (hu : X.A.units + 100 < cLine) : CallR X (.builtin "sorted") (rSortD X.K) := by
  intro pins s σ H vs us Q J r h
  obtain ⟨a, xs, ds, rfl, hs, hd, ⟨o1, o2, o3, o4⟩, q⟩ := h
  obtain ⟨its, rv, hl, hz⟩ := J.list hs
  rw [Vals.ref1 r]
  have hlen := dpAll_len hd
  have hsnd := zip_snd hlen
  have hdep : ∀ d ∈ ds, d.depth ≤ 60 := fun d hm => by
    have : ∀ l : List D, d ∈ l → d.depth ≤ PyData.depthAll l := by
      intro l
      induction l with
      | nil => intro h; simp at h
      | cons x l ih =>
        intro h
        simp only [PyData.depthAll]
        rcases List.mem_cons.mp h with rfl | h
        · exact Nat.le_max_left _ _
        · exact Nat.le_trans (ih h) (Nat.le_max_right _ _)
    exact Nat.le_trans (this ds hm) o4
  have hzl : (xs.zip ds).length = xs.length := by rw [List.length_zip, ← hlen, Nat.min_self]
  refine PySem.W.sorted_data (s := s) (vs := its) (bs := xs.zip ds) (enc := fun b : V × D => b.2) (R := fun u b => RelV b.1 u) hl.isList (each_zip (I := fun _ _ => True) rv hlen) (each_reads J rv hd) (by rw [hsnd]; exact o1) ?_ (by rw [hzl]; exact hz) (fun b hb => ?_) fun out h1 h2 => ?_
  · rw [hsnd]
    rcases o2 with o2 | o2
    · refine .inr fun d hm => ?_
      obtain ⟨e, rfl⟩ := o2 d hm
      exact ⟨nofun, nofun⟩
    · exact .inl o2
  · have hm : b.2 ∈ ds := by rw [← hsnd]; exact List.mem_map.mpr ⟨b, hb, rfl⟩
    have := hdep _ hm
    omega
  · have ee : PySem.W.dataLe false (fun b : V × D => b.2) = fun b c => dataLeF b.2 c.2 := by
      rw [PySem.W.dataLe_eq]
      rfl
    rw [ee] at h2
    obtain ⟨ep, he'⟩ := PyProof.Rows.sortedAll_at s.heap its out.toArray
    have hv := each_vals h2
    refine ⟨.ref _, L2.upd H (s.heap.objs.size + 1) (.lst (((xs.zip ds).mergeSort fun b c => dataLeF b.2 c.2).map (·.1))), J.laid (t' := s.toks) (fun _ _ => PyProof.Rows.sortedAll_old) (Nat.le_succ _) ⟨?_, out, ep, hv, he'⟩, rfl, q _ _ rfl (J.hok.fresh (Nat.le_succ _))⟩
    rw [List.length_map, List.length_mergeSort, hzl]; exact hz
theorem rp_zip {K : PySem.W.Frag} {S : Hp} : ∀ {xs : List V} {ds : List D}, RpAll K S xs ds → ∀ b ∈ xs.zip ds, Rp K S b.1 b.2
  | _, _, .nil, b, h => by simp at h
  | x :: xs, d :: ds, .cons r t, b, h => by
    simp only [List.zip_cons_cons, List.mem_cons] at h
    rcases h with rfl | h
    · exact r
    · exact rp_zip t b h
theorem rp_of_zip {K : PySem.W.Frag} {S : Hp} : ∀ {bs : List (V × D)}, (∀ b ∈ bs, Rp K S b.1 b.2) → RpAll K S (bs.map (·.1)) (bs.map (·.2))
  | [], _ => .nil
  | b :: bs, h => .cons (h b List.mem_cons_self) (rp_of_zip fun c hc => h c (List.mem_cons_of_mem _ hc))
theorem rpAll_dp {K : PySem.W.Frag} {H : Hp} : ∀ {xs : List V} {ds : List D}, PyData.canLayAll0 ds = true → RpAll K H xs ds → DpAll K H xs ds
  | _, _, _, .nil => .nil
  | _, d :: ds, l, .cons r t => by
    simp only [PyData.canLayAll0, Bool.and_eq_true] at l
    exact .cons (r.dp l.1) (rpAll_dp l.2 t)
section
variable {K : PySem.W.Frag}
theorem calld_sortD : CallD K (rSortD K) dSortD := fun S H xs as d e z r g Q q => by
  unfold dSortD at g
  split at g
  · rename_i ds
    by_cases ho : okSort ds
    case neg => rw [if_neg ho] at g; cases g
    rw [if_pos ho] at g
    cases g
    obtain ⟨v, rfl, rv⟩ := r.one_inv
    obtain ⟨l, ys, rfl, hx, rx⟩ := rv.list_inv
    have hl : ys.length ≤ sizeLine := z l _ (e _ _ hx)
    refine ⟨l, ys, ds, rfl, SqL.of (e _ _ hx), rpAll_dp ho.2.2.1 (rx.mono e), ho, fun bs p hb hp => ?_⟩
    subst hb
    have hperm := List.mergeSort_perm (ys.zip ds) fun b c => dataLeF b.2 c.2
    have r2 := rp_of_zip (K := K) (S := S) (bs := (ys.zip ds).mergeSort fun b c => dataLeF b.2 c.2) fun b hb => rp_zip rx b (hperm.mem_iff.mp hb)
    have e2 : ((ys.zip ds).mergeSort fun b c => dataLeF b.2 c.2).map (·.2) = ds.mergeSort dataLeF := by
      rw [List.map_mergeSort (s := dataLeF) (fun a _ b _ => rfl), zip_snd rx.length]
    rw [e2] at r2
    obtain ⟨k1, k2⟩ := newL e z r2 (by rw [List.length_mergeSort, ← rx.length]; exact hl) hp
    exact q _ _ _ k1 k2
  · cases g
end
theorem bSortD {ι : Type} {X : ι → Cx} {K : PySem.W.Frag} {k : Nat} (C : Cok X K k) : BR X K "sorted" (fun K => rSortD K) dSortD := ⟨fun i => cr_sortD (by have := (C.room i).un; omega), calld_sortD⟩
/-! ### starred items -/
section
variable {K : PySem.W.Frag} {m : List Nat}
def fStar (Fe : En → Option D) (Fs : En → Option (List D)) : En → Option (List D) := fun env => (Fe env).bind fun x => (asS x).bind fun xs => (Fs env).map fun ys => xs ++ ys
theorem semPA_star {te : TE} {t : TA} {Fe : En → Option D} {Fs : En → Option (List D)} (he : SemP K m te Fe) (hs : SemPA K m t Fs) : SemPA K m (StX.tStar K te t) (fStar Fe Fs) := fun env σ S H R d e Q q => by
  obtain ⟨x, ex, e⟩ := bind_some e
  obtain ⟨xs, exs, e⟩ := bind_some e
  obtain ⟨ys, eys, rfl⟩ := map_some e
  refine he env σ S H R x ex _ fun v S1 H1 k1 r1 => ?_
  unfold asS at exs
  split at exs
  · cases exs
    obtain ⟨p, vs, rfl, hx, rx⟩ := r1.list_inv
    exact ⟨p, vs, rfl, .inr (SqL.of (k1.x _ _ hx)), hs env σ S1 H1 (R.gz k1) ys eys _ fun ws S2 H2 k2 r2 => q _ S2 H2 (k1.trans k2) ((rx.mono k2.s).append r2)⟩
  · cases exs
    obtain ⟨p, vs, rfl, hx, rx⟩ := r1.tuple_inv
    exact ⟨p, vs, rfl, .inl (SqT.of (k1.x _ _ hx)), hs env σ S1 H1 (R.gz k1) ys eys _ fun ws S2 H2 k2 r2 => q _ S2 H2 (k1.trans k2) ((rx.mono k2.s).append r2)⟩
  · cases exs
end
section
variable {ι : Type} {X : ι → Cx} {K : PySem.W.Frag} {m : List Nat} {e : Expr} {es : List Expr} {p : Pos} {Fe : En → Option D} {Fs : En → Option (List D)} {k : Nat}
theorem aStar (C : Cok X K k) (h : DE X K m e Fe) (hs : DA X K m es Fs) (hst : ∀ i, starEach (.Starred e p :: es) (X i).env = (true, eval e (X i).env) :: starEach es (X i).env := by intro _; rfl) : DA X K m (.Starred e p :: es) (fStar Fe Fs) := by
  obtain ⟨t1, p1, s1⟩ := h
  obtain ⟨t2, p2, s2⟩ := hs
  exact ⟨_, fun i => by have q := StX.pa_star (p1 i) (p2 i) (hst i); rw [C.hK i] at q; exact q, semPA_star s1 s2⟩
end
/-! ### any of ints -/
def dAnyI : List D → Option D
  | [.list ds] => (asInts ds).map fun ns => .bool (ns.any fun n => decide (n ≠ 0))
  | _ => none
def rAnyI (K : PySem.W.Frag) : List V → Hp → VK → Prop := fun vs H Q => ∃ (a : Addr) (ns : List Int), vs = [V.ref a] ∧ SqL K H a (ns.map V.int) ∧ Q (.bl (ns.any fun n => decide (n ≠ 0))) H
theorem anyI_range : ∀ ns : List Int, (List.range ns.length).any (fun i => decide (ns.getD i 0 ≠ 0)) = ns.any fun n => decide (n ≠ 0)
  | [] => rfl
  | b :: ns => by
    rw [List.length_cons, List.range_succ_eq_map, List.any_cons, List.any_map, List.any_cons, ← anyI_range ns]
    rfl
theorem truth_ints {prog : Program} {w : World} {A : Around} {ns : List Int} {its : List Value} (h : IntsAre its ns) : TruthOf prog w A (fun i v => its.toArray[i]? = some v) (fun i => decide (ns.getD i 0 ≠ 0)) := fun i v s Q E hv hq => by
  have hv' : its[i]? = some v := by simpa using hv
  obtain ⟨t, e⟩ := PyProof.Rows.IntsAre.int_at h i v hv'
  subst e
  refine PySem.P.truthy_int ?_
  have : (ns.getD i 0 != 0) = decide (ns.getD i 0 ≠ 0) := by
    by_cases c : ns.getD i 0 = 0
    · rw [c]; rfl
    · rw [decide_eq_true c]; simpa using c
  rw [this]
  exact hq
theorem cr_anyI {X : Cx} (hc : X.calm = true) : CallR X (.builtin "any") (rAnyI X.K) := by
  intro pins s σ H vs us Q I r h
  obtain ⟨a, ns, rfl, hs, q⟩ := h
  obtain ⟨its, rv, hl, _⟩ := I.list hs
  rw [Vals.ref1 r]
  have hi := rv.ints
  have hsz : its.toArray.size = ns.length := by rw [List.size_toArray, ← hi.length]
  refine call_any_walk (iter_any hl.isList fun s₂ e2 st hne => ?_)
  subst e2
  refine ⟨_, _, _, _, _, _, _, rfl, Walks.list (A := X.A.in1) (I.ok.hd hc) _ a hne its.toArray, st, truth_ints hi, fun h' tk hk => ?_⟩
  refine ⟨.bl _, H, I.kept fun b o eo => hk b o (fun hmem => ?_) (Heap.get?_push_of_some _ eo), ?_, q⟩
  · rcases List.mem_cons.mp hmem with e1 | hmem
    · exact absurd (e1 ▸ Heap.lt_size eo) (Nat.lt_irrefl _)
    · cases hmem
  · show Value.bool _ = Value.bool _
    rw [← anyI_range, hsz]
section
variable {K : PySem.W.Frag}
theorem calld_anyI : CallD K (rAnyI K) dAnyI := fun S H xs as d e z r g Q q => by
  unfold dAnyI at g
  split at g
  · obtain ⟨ns, hns, g'⟩ := map_some g
    have := asInts_some hns
    subst this
    subst g'
    obtain ⟨v, rfl, rv⟩ := r.one_inv
    obtain ⟨l, ys, rfl, hx, rx⟩ := rv.list_inv
    have := rx.ints_inv
    subst this
    exact ⟨l, ns, rfl, SqL.of (e _ _ hx), q _ S H (Gz.refl e z) (.bl _)⟩
  · cases g
end
theorem bAnyI {ι : Type} {X : ι → Cx} {K : PySem.W.Frag} {k : Nat} (C : Cok X K k) : BR X K "any" (fun K => rAnyI K) dAnyI := ⟨fun i => cr_anyI (C.calm i), calld_anyI⟩
end CS

/-! CsL: xs[i] += e, xs = [.. for x in xs ..], defs that call themselves. -/
namespace CS
open PySem PySem.Spec PyProof.Rows L2
open Evl (Ex ex_l ex_t)
theorem get_list {X : Cx} : PGet X (rIxL X.K) := by
  intro pins s σ H x y v u Q I rx ry h
  obtain ⟨p, xs, i, z, rfl, rfl, hq, he, q⟩ := h
  cases rx
  obtain ⟨t, rfl⟩ := ry
  obtain ⟨its, r, pl, hz⟩ := I.list hq
  obtain ⟨j, h1, h2, h3, h4, h5⟩ := atI_get he
  obtain ⟨w, ew, rw'⟩ := r.get h2
  have hl := r.length
  have hn := line63
  have fin : EP X pins σ Q w s := ⟨z, H, I, rw', q⟩
  by_cases h0 : 0 ≤ i
  · have hj : i.toNat = j := by
      rw [seqIndex_of h0 h5] at h1
      exact Option.some.inj h1
    exact wpAny_getItem_list (x := w) pl.isList h0 (by omega) (by rw [hj]; simpa using ew) fin
  · have hj : (i + (its.toArray.size : Int)).toNat = j := by
      rw [seqIndex_neg (by omega) h4] at h1
      rw [List.size_toArray, ← hl]
      exact Option.some.inj h1
    exact wpAny_getItem_list_neg (x := w) pl.isList (by omega) (by rw [List.size_toArray] <;> omega) (by omega) (by rw [hj]; simpa using ew) fin
/-- xs[i] += e, xs owned, ints -/
def sAugI (j : Nat) (Fi Fe : En → Option D) : En → Option Out := fun env => ((Fi env).bind asI).bind fun i => ((gv j env).bind asL).bind fun ds => ((dAt ds i).bind asI).bind fun a => ((Fe env).bind asI).bind fun b => (setAt ds i (.int (a + b))).map fun ds' => .nx (setE j (.list ds') env)
section
variable {K : PySem.W.Frag} {fr : Bool} {pn m ml : List Nat}
theorem semS_augI {j : Nat} {ti te : TE} {Fi Fe : En → Option D} (hi : SemP K m ti Fi) (he : SemP K m te Fe) (hj : j ∈ m) : SemS K fr pn m ml m (tAugS (tVar j) ti te (rIxL K) (ipI fun i j => i + j) rSetL) (sAugI j Fi Fe) := fun env σ S H R o e E q => by
  obtain ⟨i, ei, e⟩ := bind_some e
  obtain ⟨di, edi, ei⟩ := bind_some ei
  cases asI_some ei
  obtain ⟨ds, eds, e⟩ := bind_some e
  obtain ⟨d0, ed0, eds⟩ := bind_some eds
  cases asL_some eds
  obtain ⟨a, ea, e⟩ := bind_some e
  obtain ⟨da, eda, ea⟩ := bind_some ea
  cases asI_some ea
  obtain ⟨b, eb, e⟩ := bind_some e
  obtain ⟨db, edb, eb⟩ := bind_some eb
  cases asI_some eb
  obtain ⟨ds', eg, rfl⟩ := map_some e
  obtain ⟨k, ek, rfl⟩ := map_some eg
  obtain ⟨p, vs, as, h1, h2, h3, h4, h5⟩ := R.ow j hj
  have h1' := gv_some ed0
  rw [h1] at h1'; cases h1'
  refine ⟨.ref p, h2, hi env σ S H R _ edi _ fun w S1 H1 g1 rw1 => ?_⟩
  have R1 := R.gz g1
  obtain ⟨z, ez, rz⟩ := (h5.mono g1.s).atI eda
  have hp1 := g1.h _ _ h4
  refine ⟨p, vs, i, z, rfl, rw1.int_inv, SqL.of hp1, ez, ?_⟩
  refine he env σ S1 H1 R1 _ edb _ fun y S2 H2 g2' ry => ?_
  have R2 := R1.gz g2'
  have hp2 := g2'.h _ _ hp1
  refine ⟨a, b, rz.int_inv, ry.int_inv, p, vs, i, k, rfl, rw1.int_inv, hp2, by rw [h5.length]; exact ek, ?_⟩
  obtain ⟨g3, R3⟩ := R2.mut hj h2 hp2 (vs' := vs.set k (.int (a + b))) (by rw [List.length_set]; exact R2.sz p _ hp2) (((h5.mono g1.s).mono g2'.s).set (.int (a + b)) k)
  exact q σ S2 _ (stp_e ((g1.gm.trans g2'.gm).trans g3)) R3
/-- a comprehension of pure parts is fresh -/
theorem semFP_lc {wi : TI} {g : TG} {tt : TT} {te : TE} {vs ts : List Nat} {Fi : En → Option (List D)} {Gt : D → En → Option En} {Ft : En → Option Bool} {Fe : En → Option D}
    (hi : SemPI K m wi Fi) (hg : SemG K m ts g Gt) (ht : SemPT K m tt Ft) (he : SemP K m te Fe) (hv : ∀ i, i ∈ m → i ∉ vs) (hts : ∀ i, i ∈ ts → i ∈ vs) : SemFP K m (tLc wi g tt te vs) (lcF vs Fi Gt Ft Fe) := fun env σ S H R d e Q q => by
  obtain ⟨ds, eds, e⟩ := bind_some e
  obtain ⟨res, hres, rfl⟩ := map_some e
  refine hi env σ S H R ds eds _ fun J S1 H1 k1 hsz hw Dl hD => ?_
  obtain ⟨G, Y, W, hG, hY⟩ := hw
  have hS : S1 Dl = none := ex_free k1.x hD
  refine lc_it W (fun i H' => ∃ S' acc as, Gz S1 H1 S' H' ∧ S' Dl = none ∧ H' Dl = some (.lst acc) ∧ RpAll K S' acc as ∧ compD (fun d => (Gt d (wipeE env vs)).bind fun e => (Ft e).bind fun b => if b = true then (Fe e).map some else some none) (ds.take i) = some as)
    ⟨S1, [], [], ⟨Ex.refl _, Ex.new hD, fun _ _ => rfl, fun a o e => by
      rw [upd_ne (ne_of_none e hS)]
      exact k1.x a o e, k1.z.upd (by show 0 ≤ sizeLine; omega)⟩, hS, upd_same, .nil, rfl⟩ (fun i H' _ p => ?_) (fun i x H2 H3 hlt p y => ?_) (fun H' p => ?_)
  · obtain ⟨S', acc, as, g1, _⟩ := p
    exact hG H' (g1.s.trans g1.x)
  · obtain ⟨S2, acc, as, g1, h2, h3, h4, h5⟩ := p
    have hx : ds[i]? = some ds[i] := List.getElem?_eq_getElem hlt
    obtain ⟨a', y', c1, c2, c3⟩ := compD_take hres hx
    rw [h5] at c1; cases c1
    obtain ⟨S3, g3, r3⟩ := hY i S2 H2 x H3 _ hx g1.s g1.x g1.z y
    obtain ⟨e2, ge, c2⟩ := bind_some c2
    obtain ⟨b, tb, c2⟩ := bind_some c2
    have R3 := ((R.gz k1).gz (g1.trans g3)).wipe hv
    refine hg _ _ S3 H3 R3 x _ e2 r3 ge _ fun σ2 hl2 hf2 _ R2 => ⟨?_, ?_⟩
    · rw [wipe_eq (σ := wipe σ vs) hl2 fun i hi => hf2 i fun z => hi (hts i z)]
      exact wipe_eq (wipe_length _ _) fun i hi => wipe_out hi
    · refine ht e2 σ2 S3 H3 R2 b tb _ fun S4 H4 k4 => ?_
      have g4 := (g1.trans g3).trans k4
      have hD4 : H4 Dl = some (.lst acc) := k4.h _ _ (g3.h _ _ h3)
      have hS4 : S4 Dl = none := by
        rw [k4.n Dl (by rw [g3.h _ _ h3]; simp), g3.n Dl (by rw [h3]; simp)]
        exact h2
      cases b with
      | false =>
        simp at c2
        subst c2
        exact ⟨S4, acc, as, g4, hS4, hD4, h4.mono (g3.s.trans k4.s), by simpa using c3⟩
      | true =>
        simp only [if_true] at c2 ⊢
        obtain ⟨z, ez, rfl⟩ := map_some c2
        refine he e2 σ2 S4 H4 (R2.gz k4) z ez _ fun w S5 H5 k5 r5 => ?_
        have g5 := g4.trans k5
        have hD5 : H5 Dl = some (.lst acc) := k5.h _ _ hD4
        have hS5 : S5 Dl = none := by rw [k5.n Dl (by rw [hD4]; simp)]; exact hS4
        have hlen : acc.length < sizeLine := by
          have h6 := compD_len h5
          rw [List.length_take] at h6
          rw [h4.length]
          omega
        refine ⟨acc, hD5, hlen, S5, acc ++ [w], as ++ [z], ⟨g5.s, fun a o e => ?_, g5.n, fun a o e => ?_, g5.z.upd (by show (acc ++ [w]).length ≤ sizeLine; simp; omega)⟩, hS5, upd_same, ((h4.mono ((g3.s.trans k4.s).trans k5.s)).append (.cons r5 .nil)), by simpa using c3⟩
        · rw [upd_ne (ne_of_none e hD)]
          exact g5.h a o e
        · rw [upd_ne (ne_of_none e hS5)]
          exact g5.x a o e
  · obtain ⟨S2, acc, as, g1, h2, h3, h4, h5⟩ := p
    rw [List.take_length, hres] at h5
    cases h5
    have hD0 : H Dl = none := by
      cases c : H Dl with
      | none => rfl
      | some u => exact absurd (k1.h _ _ c) (by rw [hD]; simp)
    refine q Dl acc res S2 H' rfl ⟨k1.s.trans g1.s, fun a o e => g1.h a o (k1.h a o e), fun a ha => (g1.n a (ex_some k1.h ha)).trans (k1.n a ha), g1.x, g1.z⟩ hD0 h2 h3 h4
/-- an owned name set anew by a fresh list -/
def sReF (j : Nat) (F : En → Option D) : En → Option Out := fun env => (F env).bind fun d => if j < env.length then some (.nx (setE j d env)) else none
theorem semS_reF {j : Nat} {te : TE} {F : En → Option D} (h : SemFP K m te F) (hj : j ∈ m) (hp : j ∉ pn) : SemS K fr pn m ml m (tAsg te (gName j)) (sReF j F) := fun env σ S H R o e E q => by
  obtain ⟨d, ed, e⟩ := bind_some e
  split at e
  case isFalse => cases e
  rename_i hlt
  cases e
  refine h env σ S H R d ed _ fun p vs ds S2 H2 hd g h1 h2 h3 h4 => ?_
  subst hd
  have R2 := R.gz g
  have hn : j < σ.length := by have := R.len; omega
  refine q _ S2 H2 ⟨g.gm, fun a ⟨i, hi, ea⟩ => ?_, fun i hi => ?_⟩ (R2.reown hn hj h2 h3 h4 (R.notOwn h1))
  · by_cases c : j = i
    · subst c
      rw [List.getElem?_set_self hn] at ea
      cases ea
      exact .inr h1
    · rw [List.getElem?_set_ne c] at ea
      exact .inl ⟨i, hi, ea⟩
  · rw [List.getElem?_set_ne (ne_mem hi hp)]
end
section
variable {ι : Type} {X : ι → Cx} {K : PySem.W.Frag} {k : Nat} {m pn ml : List Nat} {fr : Bool} {e : Expr} {pos : Pos} {Fi Fe F : En → Option D}
theorem sAugIx (j : Nat) {x : Str} {i : Expr} {px tpos : Pos} (C : Cok X K k) (hi : DE X K m i Fi) (he : DE X K m e Fe) (hj : j ∈ m := by decide) (hN : ∀ i, (X i).N[j]? = some x := by intro _; rfl)
    (hv : ∀ i, Vis (X i).env.scope x := by intro _; first | exact Or.inl rfl | exact Or.inr (Or.inl rfl) | exact Or.inr (Or.inr rfl)) (hd : (x == ("__debug__" : Str)) = false := by decide) (hcd : (x == ("__classdict__" : Str)) = false := by decide)
    (ha : ∀ ov iv new, augStore i ov iv new = (do holding [new, ov, iv] (setItem ov iv new); release [new, ov, iv] []; pure .next) := by intros; rfl) :
    DS X K fr pn m ml m (.AugAssign (.Subscript (.Name x px) i tpos) .Add e pos) (sAugI j Fi Fe) := by
  obtain ⟨t1, p1, s1⟩ := hi
  obtain ⟨t2, p2, s2⟩ := he
  exact ⟨_, fun q => ps_augS (pe_var (hN q) (hv q) hd hcd) (p1 q) (by have g := @get_list (X q); rw [C.hK q] at g; exact g) (p2 q) ip_add set_list ha, semS_augI s1 s2 hj⟩
variable {elt tg iter : Expr} {ifs : List Expr} {scope : Scope} {ts : List Nat} {Gt : D → En → Option En}
theorem sReLc (j : Nat) (own : List (Str × Nat)) {m2 : List Nat} {y : Str} {py spos : Pos} {Fi : En → Option (List D)} {Ft : En → Option Bool} {Fe' : En → Option D} (C : Cok X K k) (hi : DI X K m2 tg iter Fi) (hg : DG (blkX X scope) K m2 ts tg Gt) (ht : DTs (blkX X scope) K m2 ifs Ft) (he : DE (blkX X scope) K m2 elt Fe')
    (hj : j ∈ m := by decide) (hm : m2 = m.filter (· ≠ j) := by decide) (hp : j ∉ pn := by decide) (hN : ∀ i, (X i).N[j]? = some y := by intro _; rfl) (hx : ∀ i, (X i).env.scope.names.lookup y = some .local := by intro _; rfl)
    (hsw : ∀ i, swapsWith (.ListComp elt [⟨tg, iter, ifs, 0⟩] scope pos) (some (.Name y py)) spos.line (X i).env = pure true := by intro _; exact sw_true rfl rfl rfl (by decide +kernel))
    (ok : ∀ i, BlkOk (X i).N (X i).env.scope scope own := by intro _; exact blkOk_by (by kernel_rfl)) (hv : ∀ i, i ∈ m2 → i ∉ own.map (·.2) := by decide) (hts : ∀ i, i ∈ ts → i ∈ own.map (·.2) := by decide) (hs : ∀ i x, foldedSetIterable iter (X i).env x = pure x := by intro _ _; rfl) :
    DS X K fr pn m ml m (.Assign [.Name y py] (.ListComp elt [⟨tg, iter, ifs, 0⟩] scope pos) spos) (sReF j (fBor (lcF (own.map (·.2)) Fi Gt Ft Fe'))) := by
  obtain ⟨t1, p1, s1⟩ := hi; obtain ⟨t2, p2, s2⟩ := hg; obtain ⟨t3, p3, s3⟩ := ht; obtain ⟨t4, p4, s4⟩ := he
  exact ⟨_, fun i => ps_setLc (C.calm i) (C.nd i) (hN i) (hx i) (hsw i) (p1 i) (ok i) (fun s H Ca cl fp => p2 ⟨i, s, H, Ca, cl, fp⟩) (fun s H Ca cl fp => p3 ⟨i, s, H, Ca, cl, fp⟩) (fun s H Ca cl fp => p4 ⟨i, s, H, Ca, cl, fp⟩) (hs i), semS_reF (semFP_bor (semFP_lc s1 s2 s3 s4 hv hts) hj hm) hj hp⟩
end
/-! ### a, b, c = x, y, a fresh list -/
def sPar3L (i j l : Nat) (G1 G2 G3 : En → Option (D × En)) : En → Option Out := fun env => (G1 env).bind fun r1 => (G2 r1.2).bind fun r2 => (G3 r2.2).bind fun r3 => if l < r3.2.length then some (.nx (setE l r3.1 (setE j r2.1 (setE i r1.1 r3.2)))) else none
section
variable {K : PySem.W.Frag} {fr : Bool} {pn m ml : List Nat}
theorem semS_par3L {i j l : Nat} {t1 t2 t3 : TE} {G1 G2 G3 : En → Option (D × En)} (h1 : Sem K m t1 G1) (h2 : Sem K m t2 G2) (h3 : SemF K m t3 G3) (hi : i ∉ m) (hj : j ∉ m) (hl : l ∉ m) (hp : ∀ k, k ∈ pn → k ≠ i ∧ k ≠ j ∧ k ≠ l) :
    SemS K fr pn m ml (l :: m) (tPar3 i j l (tCons t1 (tCons t2 (tCons t3 tNil)))) (sPar3L i j l G1 G2 G3) := fun env σ S H R o e E q => by
  obtain ⟨⟨d1, e1⟩, ed1, e⟩ := bind_some e
  obtain ⟨⟨d2, e2⟩, ed2, e⟩ := bind_some e
  obtain ⟨⟨d3, e3⟩, ed3, e⟩ := bind_some e
  dsimp only at e
  split at e
  case isFalse => cases e
  rename_i hlt
  cases e
  refine h1 env σ S H R d1 e1 ed1 _ fun v1 S1 H1 g1 R1 r1 => ?_
  refine h2 e1 σ S1 H1 R1 d2 e2 ed2 _ fun v2 S2 H2 g2' R2 r2 => ?_
  refine h3 e2 σ S2 H2 R2 d3 e3 ed3 _ fun p3 vs3 ds3 S3 H3 hd3 g3 R3 n3 n3s hp3 rp3 => ?_
  subst hd3
  have no3 : ¬ Own m σ p3 := R2.notOwn n3
  have len : e3.length = σ.length := R3.len
  have Ra := (R3.set hi (r1.mono (g2'.s.trans g3.s))).set hj (r2.mono g3.s)
  have ow2 : ¬ Own m ((σ.set i (some v1)).set j (some v2)) p3 := fun ⟨k, hk, ek⟩ => no3 ⟨k, hk, by rw [List.getElem?_set_ne (ne_mem hk hj), List.getElem?_set_ne (ne_mem hk hi)] at ek; exact ek⟩
  have Rc := Ra.own (j := l) (p := p3) (vs := vs3) (ds := ds3) hl (by rw [List.length_set, List.length_set]; omega) n3s hp3 rp3 ow2
  have n30 : H p3 = none := by
    cases c : H p3 with
    | none => rfl
    | some u => exact absurd n3 ((g1.trans g2').d p3 (by rw [c]; simp))
  refine ⟨v1, v2, .ref p3, rfl, q _ S3 H3 ⟨(g1.trans g2').trans g3, fun a ⟨k, hk, ek⟩ => ?_, fun k hk => ?_⟩ Rc⟩
  · by_cases c : l = k
    · subst c
      rw [List.getElem?_set_self (by rw [List.length_set, List.length_set]; omega)] at ek
      cases ek
      exact .inr n30
    · rw [List.getElem?_set_ne c] at ek
      have hk' : k ∈ m := by
        simp only [List.mem_cons] at hk
        rcases hk with z | z
        · exact absurd z.symm c
        · exact z
      rw [List.getElem?_set_ne (ne_mem hk' hj), List.getElem?_set_ne (ne_mem hk' hi)] at ek
      exact .inl ⟨k, hk', ek⟩
  · rw [List.getElem?_set_ne (Ne.symm (hp k hk).2.2), List.getElem?_set_ne (Ne.symm (hp k hk).2.1), List.getElem?_set_ne (Ne.symm (hp k hk).1)]
end
section
variable {ι : Type} {X : ι → Cx} {K : PySem.W.Frag} {k : Nat} {m pn ml : List Nat} {fr : Bool} {pos : Pos}
theorem sPr3L (i j l : Nat) {x y z : Str} {a b c : Expr} {px py pz pt : Pos} {kt k2 : Nat} {pt2} {G1 G2 G3 : En → Option (D × En)} (C : Cok X K k) (h1 : DM X K m a G1) (h2 : DM X K m b G2) (h3 : DF X K m c G3) (hi : i ∉ m := by decide) (hj : j ∉ m := by decide) (hl : l ∉ m := by decide) (hij : i ≠ j := by decide) (hil : i ≠ l := by decide) (hjl : j ≠ l := by decide) (hp : ∀ k, k ∈ pn → k ≠ i ∧ k ≠ j ∧ k ≠ l := by decide)
    (hNi : ∀ q, (X q).N[i]? = some x := by intro _; rfl) (hNj : ∀ q, (X q).N[j]? = some y := by intro _; rfl) (hNl : ∀ q, (X q).N[l]? = some z := by intro _; rfl) (hx : ∀ q, (X q).env.scope.names.lookup x = some .local := by intro _; rfl) (hy : ∀ q, (X q).env.scope.names.lookup y = some .local := by intro _; rfl) (hz : ∀ q, (X q).env.scope.names.lookup z = some .local := by intro _; rfl)
    (ha : ∀ q, starEach [a, b, c] (X q).env = (false, eval a (X q).env) :: starEach [b, c] (X q).env := by intro _; rfl) (hb : ∀ q, starEach [b, c] (X q).env = (false, eval b (X q).env) :: starEach [c] (X q).env := by intro _; rfl) (hc : ∀ q, starEach [c] (X q).env = (false, eval c (X q).env) :: starEach [] (X q).env := by intro _; rfl)
    (hw : ∀ q, swappedStores [.Tuple [.Name x px, .Name y py, .Name z pz] kt pt] (.Tuple [a, b, c] k2 pt2) (X q).env = pure (some [x, y, z]) := by intro _; rfl)
    (hs : ∀ q, swapsWithSole [.Tuple [.Name x px, .Name y py, .Name z pz] kt pt] (.Tuple [a, b, c] k2 pt2) pos.line (X q).env = pure false := by intro _; rfl) :
    DS X K fr pn m ml (l :: m) (.Assign [.Tuple [.Name x px, .Name y py, .Name z pz] kt pt] (.Tuple [a, b, c] k2 pt2) pos) (sPar3L i j l G1 G2 G3) := by
  obtain ⟨t1, p1, s1⟩ := h1
  obtain ⟨t2, p2, s2⟩ := h2
  obtain ⟨t3, p3, s3⟩ := h3
  exact ⟨_, fun q => ps_par3 (C.calm q) (C.nd q) (hNi q) (hNj q) (hNl q) hij hil hjl (hx q) (hy q) (hz q) (pa_cons (p1 q) (pa_cons (p2 q) (pa_cons (p3 q) pa_nil (hc q)) (hb q)) (ha q)) (hw q) (hs q), semS_par3L s1 s2 s3 hi hj hl hp⟩
end
/-! ### a def that calls itself: no call is promised yet -/
theorem fn_none {P : Program} {w : World} {K : PySem.W.Frag} {mg : Str → Option Value} {base : Heap} {k : Nat} {x : Str} {st : Stmt} {ps : List Str} (T : ∃ (f : Addr) (fd : FuncData), Fun K x x st f fd ∧ mg x = some (.ref f) ∧ Binds K fd ps []) : Fn P w K mg base k x st ps (spP K fun _ => none) := by
  obtain ⟨f, fd, hF, hm, hB⟩ := T
  refine ⟨f, fd, hF, ⟨fun vs H Q E h => ?_, fun A hr hg outer s H e0 args us vs hb hv Q E h => ?_⟩, hm, hB⟩
  · obtain ⟨_, _, _, _, _, _, h, _⟩ := h
    cases h
  · obtain ⟨_, _, _, _, _, _, h, _⟩ := h
    cases h
end CS

/-! CsM: xs.extend(e). -/
namespace CS
open PySem PySem.Spec PyProof.Rows L2
open Evl (Ex ex_l ex_t)
section
variable {ι : Type} {X : ι → Cx} {K : PySem.W.Frag} {k : Nat} {fr : Bool} {pn m ml m' : List Nat} {pos : Pos} {e : Expr} {Ge : En → Option (D × En)}
/-- xs.extend(e), xs owned -/
theorem sExt (j : Nat) {x : Str} {px ap cp : Pos} (C : Cok X K k) (h : DM X K m e Ge) (hj : j ∈ m := by decide) (hN : ∀ i, (X i).N[j]? = some x := by intro _; rfl) (hv : ∀ i, Vis (X i).env.scope x := by intro _; first | exact Or.inl rfl | exact Or.inr (Or.inl rfl) | exact Or.inr (Or.inr rfl))
    (hd : (x == ("__debug__" : Str)) = false := by decide) (hcd : (x == ("__classdict__" : Str)) = false := by decide)
    (hbase : ∀ i, attributeBase (.Name x px) "extend" (X i).env (eval (.Name x px) (X i).env) = eval (.Name x px) (X i).env := by intro _; rfl)
    (hfew : ∀ i, ((backTo cp (starEach [e] (X i).env)).all (fun x => !x.1) && (backToKw cp (keywordEach [] (X i).env)).all (fun x => x.1.isSome) && decide (([e] : List Expr).length + ([] : List Keyword).length + (if ([] : List Keyword).isEmpty then 0 else 1) < 30)) = true := by intro _; rfl)
    (hline : (ap.endLine == cp.line) = true := by rfl) (he : ∀ i, starEach [e] (X i).env = (false, eval e (X i).env) :: starEach [] (X i).env := by intro _; rfl) (hplain : ∀ i, (backTo cp (starEach [] (X i).env)).any (·.1) = false := by intro _; rfl)
    (hs : ∀ i, swapsWith (.Call (.Attribute (.Name x px) "extend" ap) [e] [] cp) none pos.line (X i).env = pure false := by intro _; rfl) :
    DS X K fr pn m ml m (.Expr (.Call (.Attribute (.Name x px) "extend" ap) [e] [] cp) pos) (sMut j gExtend Ge) := by
  obtain ⟨t, p, s⟩ := h
  refine ⟨_, fun i => ps_expr ?_ (hs i), semS_mut mut_extend s hj⟩
  have q := pe_bm (X := X i) PySem.F.plainAttrs_list PySem.F.slot_list_extend PySem.F.type_list_extend mt_extend (pe_var (pos := px) (hN i) (hv i) hd hcd) (pa_cons (p i) pa_nil (he i)) (hbase i) (hfew i) hline (he i) (hplain i)
  rw [C.hK i] at q
  exact q
end
section
variable {K : PySem.W.Frag}
/-! ### repr of an int of up to 4300 digits -/
def rReprN : List V → Hp → VK → Prop := fun xs H Q => ∃ i : Int, xs = [.int i] ∧ i.natAbs < 10 ^ 4300 ∧ Q (.str (Str.ofString (toString i))) H
theorem cr_reprN {X : Cx} (hd : PySem.W.nsIn X.K cStatics (Str.ofString "sys.int_max_str_digits") = some none) (ho : PySem.W.nsOkIn X.K cStatics = true) (hc : X.calm = true) (hu : X.A.units + 1 < cLine) : CallR X (.builtin "repr") rReprN := by
  intro pins s σ H xs us Q I r h
  obtain ⟨i, rfl, hi, q⟩ := h
  obtain ⟨u, rfl, ru⟩ := vals1 r
  obtain ⟨t, rfl⟩ := ru
  have hk := I.kIn
  have hN : s.heap.NoDigits := by
    have h1 := PySem.W.isNs_of_in hk ho
    have h2 := PySem.Heap.Ns.of_isNs h1
    exact ⟨_, h2, PySem.W.ns_none_of hk h2 hd⟩
  refine call_repr_slot (T := "int") hu rfl PySem.F.slot_int_repr.toG ?_
  refine PyProof.Rows.call_int_repr_or (I.ok.hd hc) hN (fun _ => ?_) (fun h2 => absurd hi (Nat.not_lt.mpr h2))
  exact ⟨_, _, rfl, ⟨.str _, H, I.kept fun _ _ e => e, ⟨_, rfl⟩, q⟩⟩
def dReprN : List D → Option D
  | [.int i] => if i.natAbs < 10 ^ 4300 then some (.str (Str.ofString (toString i))) else none
  | _ => none
theorem calld_reprN : CallD K rReprN dReprN := fun S H xs as d e z r g Q q => by
  unfold dReprN at g
  split at g
  · rename_i i
    split at g <;> cases g
    rename_i hs
    obtain ⟨v, rfl, rv⟩ := r.one_inv
    exact ⟨i, by rw [rv.int_inv], hs, q _ S H (Gz.refl e z) (.str _)⟩
  · cases g
theorem bReprN {ι : Type} {X : ι → Cx} {K : PySem.W.Frag} {k : Nat} (C : Cok X K k) (hz : PySem.W.nsIn K cStatics (Str.ofString "sys.int_max_str_digits") = some none ∧ PySem.W.nsOkIn K cStatics = true) : BR X K "repr" (fun _ => rReprN) dReprN :=
  ⟨fun i => cr_reprN (by rw [C.hK i]; exact hz.1) (by rw [C.hK i]; exact hz.2) (C.calm i) (by have := (C.room i).un; omega), calld_reprN⟩
end
end CS

/-! law_k21_boxes_and_one_kind_more: the defs, printed by gen.py -/
namespace CSk21
open PySem PySem.Spec PyProof.Rows L2 CS
noncomputable section
def topS (i : Nat) : Stmt := PySem.Challenge.pw_clashsize_k21_boxes_and_one_kind_more.main.body.getD i (.Pass ⟨0, 0, 0, 0⟩)
abbrev s_is_integer : Stmt := topS 9
abbrev s_are_integers : Stmt := topS 10
abbrev s_common : Stmt := topS 11
abbrev s_divisor_of : Stmt := topS 12
abbrev s_is_kind : Stmt := topS 13
abbrev s_is_book : Stmt := topS 14
abbrev s_need_book : Stmt := topS 15
abbrev s_need_number : Stmt := topS 16
abbrev s_with_items : Stmt := topS 18
abbrev s_boxes : Stmt := topS 19
abbrev s_box_size : Stmt := topS 20
abbrev s_against : Stmt := topS 22
abbrev s_row_of : Stmt := topS 23
abbrev s_knots_behind : Stmt := topS 24
abbrev s_knots_of : Stmt := topS 25
abbrev s_knots_in : Stmt := topS 26
abbrev s_greatest_size : Stmt := topS 27
abbrev s_clash_size : Stmt := topS 28
abbrev s_law_source : Stmt := topS 30
abbrev s_law_draw : Stmt := topS 31
abbrev s_law_common : Stmt := topS 32
abbrev s_law_least : Stmt := topS 33
abbrev s_law_vector : Stmt := topS 34
abbrev s_law_thin : Stmt := topS 35
abbrev s_law : Stmt := topS 36
abbrev N_is_integer : List Str := ["value"]
theorem sc_is_integer : FnScope N_is_integer ["value"] (defScope s_is_integer) := ⟨rfl, rfl, rfl, by decide +kernel, rfl, by decide +kernel, by decide +kernel⟩
abbrev N_are_integers : List Str := ["value", "many", "one"]
theorem sc_are_integers : FnScope N_are_integers ["value", "many"] (defScope s_are_integers) := ⟨rfl, rfl, rfl, by decide +kernel, rfl, by decide +kernel, by decide +kernel⟩
abbrev N_common : List Str := ["one", "other"]
theorem sc_common : FnScope N_common ["one", "other"] (defScope s_common) := ⟨rfl, rfl, rfl, by decide +kernel, rfl, by decide +kernel, by decide +kernel⟩
abbrev N_divisor_of : List Str := ["numbers", "found", "number"]
theorem sc_divisor_of : FnScope N_divisor_of ["numbers"] (defScope s_divisor_of) := ⟨rfl, rfl, rfl, by decide +kernel, rfl, by decide +kernel, by decide +kernel⟩
abbrev N_is_kind : List Str := ["value", "one"]
theorem sc_is_kind : FnScope N_is_kind ["value"] (defScope s_is_kind) := ⟨rfl, rfl, rfl, by decide +kernel, rfl, by decide +kernel, by decide +kernel⟩
abbrev N_is_book : List Str := ["value", "one", "other"]
theorem sc_is_book : FnScope N_is_book ["value"] (defScope s_is_book) := ⟨rfl, rfl, rfl, by decide +kernel, rfl, by decide +kernel, by decide +kernel⟩
abbrev N_need_book : List Str := ["book"]
theorem sc_need_book : FnScope N_need_book ["book"] (defScope s_need_book) := ⟨rfl, rfl, rfl, by decide +kernel, rfl, by decide +kernel, by decide +kernel⟩
abbrev N_need_number : List Str := ["value", "low", "high"]
theorem sc_need_number : FnScope N_need_number ["value", "low", "high"] (defScope s_need_number) := ⟨rfl, rfl, rfl, by decide +kernel, rfl, by decide +kernel, by decide +kernel⟩
abbrev N_with_items : List Str := ["size", "items", "found", "index", "item"]
theorem sc_with_items : FnScope N_with_items ["size", "items"] (defScope s_with_items) := ⟨rfl, rfl, rfl, by decide +kernel, rfl, by decide +kernel, by decide +kernel⟩
abbrev N_boxes : List Str := ["number", "ups", "index"]
theorem sc_boxes : FnScope N_boxes ["number"] (defScope s_boxes) := ⟨rfl, rfl, rfl, by decide +kernel, rfl, by decide +kernel, by decide +kernel⟩
abbrev N_box_size : List Str := ["kind", "item"]
theorem sc_box_size : FnScope N_box_size ["kind"] (defScope s_box_size) := ⟨rfl, rfl, rfl, by decide +kernel, rfl, by decide +kernel, by decide +kernel⟩
abbrev N_against : List Str := ["basis", "vector", "rest", "scale", "found", "pivot", "row", "parts", "top", "bottom", "one", "other", "index", "part"]
theorem sc_against : FnScope N_against ["basis", "vector"] (defScope s_against) := ⟨rfl, rfl, rfl, by decide +kernel, rfl, by decide +kernel, by decide +kernel⟩
abbrev N_row_of : List Str := ["rest", "scale", "parts", "pivot", "index", "one", "least", "part"]
theorem sc_row_of : FnScope N_row_of ["rest", "scale", "parts"] (defScope s_row_of) := ⟨rfl, rfl, rfl, by decide +kernel, rfl, by decide +kernel, by decide +kernel⟩
abbrev N_knots_behind : List Str := ["vectors", "first", "chosen", "basis", "found", "index", "rest", "scale", "parts", "longer", "least", "one", "part"]
theorem sc_knots_behind : FnScope N_knots_behind ["vectors", "first", "chosen", "basis"] (defScope s_knots_behind) := ⟨rfl, rfl, rfl, by decide +kernel, rfl, by decide +kernel, by decide +kernel⟩
abbrev N_knots_of : List Str := ["vectors"]
theorem sc_knots_of : FnScope N_knots_of ["vectors"] (defScope s_knots_of) := ⟨rfl, rfl, rfl, by decide +kernel, rfl, by decide +kernel, by decide +kernel⟩
abbrev N_knots_in : List Str := ["book"]
theorem sc_knots_in : FnScope N_knots_in ["book"] (defScope s_knots_in) := ⟨rfl, rfl, rfl, by decide +kernel, rfl, by decide +kernel, by decide +kernel⟩
abbrev N_greatest_size : List Str := ["found", "knot"]
theorem sc_greatest_size : FnScope N_greatest_size ["found"] (defScope s_greatest_size) := ⟨rfl, rfl, rfl, by decide +kernel, rfl, by decide +kernel, by decide +kernel⟩
abbrev N_clash_size : List Str := ["book"]
theorem sc_clash_size : FnScope N_clash_size ["book"] (defScope s_clash_size) := ⟨rfl, rfl, rfl, by decide +kernel, rfl, by decide +kernel, by decide +kernel⟩
abbrev N_law_source : List Str := ["entry", "k", "great"]
theorem sc_law_source : FnScope N_law_source ["entry", "k"] (defScope s_law_source) := ⟨rfl, rfl, rfl, by decide +kernel, rfl, by decide +kernel, by decide +kernel⟩
abbrev N_law_draw : List Str := ["source", "count", "digit", "mixed_here"]
theorem sc_law_draw : FnScope N_law_draw ["source", "count"] (defScope s_law_draw) := ⟨rfl, rfl, rfl, by decide +kernel, rfl, by decide +kernel, by decide +kernel⟩
abbrev N_law_common : List Str := ["one", "two"]
theorem sc_law_common : FnScope N_law_common ["one", "two"] (defScope s_law_common) := ⟨rfl, rfl, rfl, by decide +kernel, rfl, by decide +kernel, by decide +kernel⟩
abbrev N_law_least : List Str := ["vector", "found", "one"]
theorem sc_law_least : FnScope N_law_least ["vector"] (defScope s_law_least) := ⟨rfl, rfl, rfl, by decide +kernel, rfl, by decide +kernel, by decide +kernel⟩
abbrev N_law_vector : List Str := ["source", "many", "wide", "some", "k", "least", "one"]
theorem sc_law_vector : FnScope N_law_vector ["source", "many", "wide"] (defScope s_law_vector) := ⟨rfl, rfl, rfl, by decide +kernel, rfl, by decide +kernel, by decide +kernel⟩
abbrev N_law_thin : List Str := ["source", "many", "some", "one", "least", "k"]
theorem sc_law_thin : FnScope N_law_thin ["source", "many"] (defScope s_law_thin) := ⟨rfl, rfl, rfl, by decide +kernel, rfl, by decide +kernel, by decide +kernel⟩
abbrev N_law : List Str := ["script", "k", "entry", "source", "many", "vector", "due", "one", "some"]
theorem sc_law : FnScope N_law ["script"] (defScope s_law) := ⟨rfl, rfl, rfl, by decide +kernel, rfl, by decide +kernel, by decide +kernel⟩
def F_is_integer : En → Option Out := (sRetP [] (fAndV (fCall (dIsi "int") (fCons (gv 0) fNil)) (fNotV (fCall (dIsi "bool") (fCons (gv 0) fNil)))))
def g_is_integer : List D → Option D := shut fun ds => if ds.length = 1 then (F_is_integer (env0 N_is_integer ds)).bind resP else none
theorem g_is_integer_eq : g_is_integer = fun ds => if ds.length = 1 then (F_is_integer (env0 N_is_integer ds)).bind resP else none := shut_eq _
def C1_are_integers : En → Option D := (lcF [2] (fun env => ((gv 0) env).bind asS) (fun d env => some (setE 2 d env)) (fun _ => some true) (fCall g_is_integer (fCons (gv 2) fNil)))
def F_are_integers : En → Option Out := (sRetP [] (fAndV (fCall (dIsi "tuple") (fCons (gv 0) fNil)) (fAndV (f2 (dEq false) (fCall dLen (fCons (gv 0) fNil)) (gv 1)) (fCall dAll (fCons C1_are_integers fNil)))))
def g_are_integers : List D → Option D := shut fun ds => if ds.length = 2 then (F_are_integers (env0 N_are_integers ds)).bind resP else none
theorem g_are_integers_eq : g_are_integers = fun ds => if ds.length = 2 then (F_are_integers (env0 N_are_integers ds)).bind resP else none := shut_eq _
def B1_common : En → Option Out := (sPar 0 1 (gConsE (up (gv 1)) (gConsE (up (f2 dMod (gv 0) (gv 1))) gNilE)))
def F_common : En → Option Out := (fSeq (sPar 0 1 (gConsE (up (fCall dAbs (fCons (gv 0) fNil))) (gConsE (up (fCall dAbs (fCons (gv 1) fNil))) gNilE)))
    (fSeq (sWhile (up (fTest (f2 dGt (gv 1) (fun _ => some (.int 0)))))
    B1_common)
    (sRetP [] (gv 0))))
def g_common : List D → Option D := shut fun ds => if ds.length = 2 then (F_common (env0 N_common ds)).bind resP else none
theorem g_common_eq : g_common = fun ds => if ds.length = 2 then (F_common (env0 N_common ds)).bind resP else none := shut_eq _
def B1_divisor_of : En → Option Out := (sForget [2] (sAsgP (fCall g_common (fCons (gv 1) (fCons (gv 2) fNil))) (fun d env => some (setE 1 d env))))
def F_divisor_of : En → Option Out := (fSeq (sAsgP (fun _ => some (.int 0)) (fun d env => some (setE 1 d env)))
    (fSeq (sFor (up (fun env => ((gv 0) env).bind asS)) (fun d env => some (setE 2 d env))
    B1_divisor_of)
    (sRetP [] (gv 1))))
def g_divisor_of : List D → Option D := shut fun ds => if ds.length = 1 then (F_divisor_of (env0 N_divisor_of ds)).bind resP else none
theorem g_divisor_of_eq : g_divisor_of = fun ds => if ds.length = 1 then (F_divisor_of (env0 N_divisor_of ds)).bind resP else none := shut_eq _
def C1_is_kind : En → Option D := (lcF [1] (fun env => ((gv 0) env).bind asS) (fun d env => some (setE 1 d env)) (fun _ => some true) (f2 dLe (fCall dAbs (fCons (gv 1) fNil)) (fun _ => some (.int 20))))
def F_is_kind : En → Option Out := (fSeq (sIfP (fOr (fNot (fTest (fCall (dIsi "tuple") (fCons (gv 0) fNil)))) (fOr (fNot (fTest (fChain dLe dLe (fun _ => some (.int 1)) (fCall dLen (fCons (gv 0) fNil)) (fun _ => some (.int 5))))) (fNot (fTest (fCall g_are_integers (fCons (gv 0) (fCons (fCall dLen (fCons (gv 0) fNil)) fNil)))))))
    (sRetP [] (fun _ => some (.bool false)))
    fNext)
    (sRetP [] (fAndV (fCall dAll (fCons C1_is_kind fNil)) (f2 (dEq false) (fCall g_divisor_of (fCons (gv 0) fNil)) (fun _ => some (.int 1))))))
def g_is_kind : List D → Option D := shut fun ds => if ds.length = 1 then (F_is_kind (env0 N_is_kind ds)).bind resP else none
theorem g_is_kind_eq : g_is_kind = fun ds => if ds.length = 1 then (F_is_kind (env0 N_is_kind ds)).bind resP else none := shut_eq _
def C1_is_book : En → Option D := (lcF [1] (fun env => ((gv 0) env).bind asS) (fun d env => some (setE 1 d env)) (fun _ => some true) (fCall g_is_kind (fCons (gv 1) fNil)))
def C2_is_book : En → Option D := (lcF [1] (fun env => ((gv 0) env).bind asS) (fun d env => some (setE 1 d env)) (fun _ => some true) (f2 (dEq false) (fCall dLen (fCons (gv 1) fNil)) (fCall dLen (fCons (f2 dIx (gv 0) (fun _ => some (.int 0))) fNil))))
def C3_is_book : En → Option D := (lcF [1, 2] (fun env => ((fCons (gv 0) (fCons (fSl (gv 0) (fun env => ((fun _ => some (.int 1)) env |>.bind asI).map some) (fun _ => some none)) fNil)) env).bind zipB) (tgTup (tgCons (fun d env => some (setE 1 d env)) (tgCons (fun d env => some (setE 2 d env)) tgNil))) (fun _ => some true) (f2 dLtT (gv 1) (gv 2)))
def F_is_book : En → Option Out := (fSeq (sIfP (fOr (fNot (fTest (fCall (dIsi "list") (fCons (gv 0) fNil)))) (fOr (fNot (fTest (fChain dLe dLe (fun _ => some (.int 1)) (fCall dLen (fCons (gv 0) fNil)) (fun _ => some (.int 12))))) (fNot (fTest (fCall dAll (fCons C1_is_book fNil))))))
    (sRetP [] (fun _ => some (.bool false)))
    fNext)
    (fSeq (sIfP (fNot (fTest (fCall dAll (fCons C2_is_book fNil))))
    (sRetP [] (fun _ => some (.bool false)))
    fNext)
    (sRetP [] (fCall dAll (fCons C3_is_book fNil)))))
def g_is_book : List D → Option D := shut fun ds => if ds.length = 1 then (F_is_book (env0 N_is_book ds)).bind resP else none
theorem g_is_book_eq : g_is_book = fun ds => if ds.length = 1 then (F_is_book (env0 N_is_book ds)).bind resP else none := shut_eq _
def F_need_book : En → Option Out := (sIfP (fNot (fTest (fCall g_is_book (fCons (gv 0) fNil))))
    (fun _ => none)
    fNext)
def g_need_book : List D → Option D := shut fun ds => if ds.length = 1 then (F_need_book (env0 N_need_book ds)).bind resP else none
theorem g_need_book_eq : g_need_book = fun ds => if ds.length = 1 then (F_need_book (env0 N_need_book ds)).bind resP else none := shut_eq _
def F_need_number : En → Option Out := (sIfP (fOr (fNot (fTest (fCall g_is_integer (fCons (gv 0) fNil)))) (fOr (fTest (f2 dLt (gv 0) (gv 1))) (fAnd (fTest (f2 dNotN (gv 2) (fun _ => some .none))) (fTest (f2 dGt (gv 0) (gv 2))))))
    (fun _ => none)
    fNext)
def g_need_number : List D → Option D := shut fun ds => if ds.length = 3 then (F_need_number (env0 N_need_number ds)).bind resP else none
theorem g_need_number_eq : g_need_number = fun ds => if ds.length = 3 then (F_need_number (env0 N_need_number ds)).bind resP else none := shut_eq _
def B1_with_items : En → Option Out := (sForget [3, 4] (sSetI 2 (up (gv 4)) (up (gv 3))))
def F_with_items : En → Option Out := (fSeq (sAsgF 2 (g2 dRepL (up (fLst (fCons (fun _ => some (.int 0)) fNil))) (up (gv 0))))
    (fSeq (sFor (up (fun env => ((gv 1) env).bind asS)) (tgTup (tgCons (fun d env => some (setE 3 d env)) (tgCons (fun d env => some (setE 4 d env)) tgNil)))
    B1_with_items)
    (sRetP [] (fCall dTupOf (fCons (gv 2) fNil)))))
def g_with_items : List D → Option D := shut fun ds => if ds.length = 2 then (F_with_items (env0 N_with_items ds)).bind resP else none
theorem g_with_items_eq : g_with_items = fun ds => if ds.length = 2 then (F_with_items (env0 N_with_items ds)).bind resP else none := shut_eq _
def C1_boxes : En → Option D := (lcF [2] (fun env => ((fCons (gv 0) fNil) env).bind rng1) (fun d env => some (setE 2 d env)) (fun _ => some true) (fCall g_with_items (fCons (gv 0) (fCons (fLst (fCons (fTup (fCons (gv 2) (fCons (fun _ => some (.int 1)) fNil))) fNil)) fNil))))
def C2_boxes : En → Option D := (lcF [2] (fun env => ((fCons (gv 0) fNil) env).bind rng1) (fun d env => some (setE 2 d env)) (fun _ => some true) (fCall g_with_items (fCons (gv 0) (fCons (fLst (fCons (fTup (fCons (gv 2) (fCons (f1 dNeg (fun _ => some (.int 1))) fNil))) fNil)) fNil))))
def F_boxes : En → Option Out := (fSeq (sDrop (up (fCall g_need_number (fCons (gv 0) (fCons (fun _ => some (.int 1)) (fCons (fun _ => some (.int 5)) fNil))))))
    (fSeq (sAsgP C1_boxes (fun d env => some (setE 1 d env)))
    (sRetP [] (fCall dSortAll (fCons (f2 dAdd (gv 1) C2_boxes) fNil)))))
def g_boxes : List D → Option D := shut fun ds => if ds.length = 1 then (F_boxes (env0 N_boxes ds)).bind resP else none
theorem g_boxes_eq : g_boxes = fun ds => if ds.length = 1 then (F_boxes (env0 N_boxes ds)).bind resP else none := shut_eq _
def C1_box_size : En → Option D := (lcF [1] (fun env => ((gv 0) env).bind asS) (fun d env => some (setE 1 d env)) (fTest (f2 (dEq true) (gv 1) (fun _ => some (.int 0)))) (gv 1))
def F_box_size : En → Option Out := (fSeq (sIfP (fNot (fTest (fCall g_is_kind (fCons (gv 0) fNil))))
    (fun _ => none)
    fNext)
    (sRetP [] (fCall dMax (fCons (fun _ => some (.int 2)) (fCons (f2 dAdd (fun _ => some (.int 1)) (fCall dLen (fCons C1_box_size fNil))) fNil)))))
def g_box_size : List D → Option D := shut fun ds => if ds.length = 1 then (F_box_size (env0 N_box_size ds)).bind resP else none
theorem g_box_size_eq : g_box_size = fun ds => if ds.length = 1 then (F_box_size (env0 N_box_size ds)).bind resP else none := shut_eq _
def C1_against : En → Option D := (lcF [10, 11] (fun env => ((fCons (gv 2) (fCons (gv 6) fNil)) env).bind zipB) (tgTup (tgCons (fun d env => some (setE 10 d env)) (tgCons (fun d env => some (setE 11 d env)) tgNil))) (fun _ => some true) (f2 dSub (f2 dMul (gv 9) (gv 10)) (f2 dMul (gv 8) (gv 11))))
def C2_against : En → Option D := (lcF [10] (fun env => ((gv 4) env).bind asS) (fun d env => some (setE 10 d env)) (fun _ => some true) (f2 dMul (gv 9) (gv 10)))
def B1_against : En → Option Out := (sForget [12, 13] (sSetI 4 (up (f2 dAdd (fIxP 4 (gv 12)) (f2 dMul (gv 8) (gv 13)))) (up (gv 12))))
def B2_against : En → Option Out := (sForget [5, 6, 7, 8, 9, 12, 13] (fSeq (sAsgP (fTup (fCons (f2 dIx (gv 2) (gv 5)) (fCons (f2 dIx (gv 6) (gv 5)) fNil))) (tgTup (tgCons (fun d env => some (setE 8 d env)) (tgCons (fun d env => some (setE 9 d env)) tgNil))))
    (sIfP (fTest (f2 (dEq true) (gv 8) (fun _ => some (.int 0))))
    (fSeq (sAsgP C1_against (fun d env => some (setE 2 d env)))
    (fSeq (sAsgP (f2 dMul (gv 3) (gv 9)) (fun d env => some (setE 3 d env)))
    (fSeq (sReF 4 (fBor C2_against))
    (sFor (up (fun env => ((fCons (gv 7) fNil) env).bind enumA)) (tgTup (tgCons (fun d env => some (setE 12 d env)) (tgCons (fun d env => some (setE 13 d env)) tgNil)))
    B1_against))))
    fNext)))
def F_against : En → Option Out := (fSeq (sPar3L 2 3 4 (up (fCall dListOf (fCons (gv 1) fNil))) (up (fun _ => some (.int 1))) (g2 dRepL (up (fLst (fCons (fun _ => some (.int 0)) fNil))) (up (fCall dLen (fCons (gv 0) fNil)))))
    (fSeq (sFor (up (fun env => ((gv 0) env).bind asS)) (tgTup (tgCons (fun d env => some (setE 5 d env)) (tgCons (fun d env => some (setE 6 d env)) (tgCons (fun d env => some (setE 7 d env)) tgNil))))
    B2_against)
    (sRetP [] (fTup (fCons (gv 2) (fCons (gv 3) (fCons (gv 4) fNil)))))))
def g_against : List D → Option D := shut fun ds => if ds.length = 2 then (F_against (env0 N_against ds)).bind resP else none
theorem g_against_eq : g_against = fun ds => if ds.length = 2 then (F_against (env0 N_against ds)).bind resP else none := shut_eq _
def C1_row_of : En → Option D := (lcF [4, 5] (fun env => ((fCons (gv 0) fNil) env).bind enumA) (tgTup (tgCons (fun d env => some (setE 4 d env)) (tgCons (fun d env => some (setE 5 d env)) tgNil))) (fTest (f2 (dEq true) (gv 5) (fun _ => some (.int 0)))) (gv 4))
def C2_row_of : En → Option D := (lcF [7] (fun env => ((gv 2) env).bind asS) (fun d env => some (setE 7 d env)) (fun _ => some true) (f1 dNeg (f2 dFdiv (gv 7) (gv 6))))
def C3_row_of : En → Option D := (lcF [5] (fun env => ((gv 0) env).bind asS) (fun d env => some (setE 5 d env)) (fun _ => some true) (f2 dFdiv (gv 5) (gv 6)))
def F_row_of : En → Option Out := (fSeq (sAsgP (f2 dIx C1_row_of (fun _ => some (.int 0))) (fun d env => some (setE 3 d env)))
    (fSeq (sAsgP (fCall g_divisor_of (fCons (fLst (fStar (gv 0) (fCons (gv 1) (fStar (gv 2) fNil)))) fNil)) (fun d env => some (setE 6 d env)))
    (fSeq (sIfP (fTest (f2 dLt (f2 dIx (gv 0) (gv 3)) (fun _ => some (.int 0))))
    (sAsgP (f1 dNeg (gv 6)) (fun d env => some (setE 6 d env)))
    fNext)
    (sRetP [] (fTup (fCons (gv 3) (fCons C3_row_of (fCons (fLst (fStar C2_row_of (fCons (f2 dFdiv (gv 1) (gv 6)) fNil))) fNil))))))))
def g_row_of : List D → Option D := shut fun ds => if ds.length = 3 then (F_row_of (env0 N_row_of ds)).bind resP else none
theorem g_row_of_eq : g_row_of = fun ds => if ds.length = 3 then (F_row_of (env0 N_row_of ds)).bind resP else none := shut_eq _
def C1_knots_behind (r : List D → Option D) : En → Option D := (lcF [11, 12] (fun env => ((fCons (gv 2) (fCons (gv 8) fNil)) env).bind zipB) (tgTup (tgCons (fun d env => some (setE 11 d env)) (tgCons (fun d env => some (setE 12 d env)) tgNil))) (fun _ => some true) (fTup (fCons (gv 11) (fCons (f2 dFdiv (f1 dNeg (gv 12)) (gv 10)) fNil))))
def B1_knots_behind (r : List D → Option D) : En → Option Out := (sForget [5, 6, 7, 8, 9, 10] (fSeq (sAsgP (fCall g_against (fCons (gv 3) (fCons (f2 dIx (gv 0) (gv 5)) fNil))) (tgTup (tgCons (fun d env => some (setE 6 d env)) (tgCons (fun d env => some (setE 7 d env)) (tgCons (fun d env => some (setE 8 d env)) tgNil)))))
    (sIfP (fTest (fCall dAnyI (fCons (gv 6) fNil)))
    (fSeq (sAsgP (fLst (fStar (gv 3) (fCons (fCall g_row_of (fCons (gv 6) (fCons (gv 7) (fCons (gv 8) fNil)))) fNil))) (fun d env => some (setE 9 d env)))
    (sMut 4 gExtend (up (fCall r (fCons (gv 0) (fCons (f2 dAdd (gv 5) (fun _ => some (.int 1))) (fCons (fLst (fStar (gv 2) (fCons (gv 5) fNil))) (fCons (gv 9) fNil))))))))
    (sIfP (fTest (f2 dLt (fCall dMax (fCons (fLst (fCons (f1 dNeg (fun _ => some (.int 1))) (fStar (gv 8) fNil))) fNil)) (fun _ => some (.int 0))))
    (fSeq (sAsgP (fCall g_divisor_of (fCons (fLst (fStar (gv 8) (fCons (gv 7) fNil))) fNil)) (fun d env => some (setE 10 d env)))
    (sMut 4 gAppend (up (fLst (fStar (C1_knots_behind r) (fCons (fTup (fCons (gv 5) (fCons (f2 dFdiv (gv 7) (gv 10)) fNil))) fNil))))))
    fNext))))
def F_knots_behind (r : List D → Option D) : En → Option Out := (fSeq (sAsgF 4 (gLstE gNilE))
    (fSeq (sFor (up (fun env => ((fCons (gv 1) (fCons (fCall dLen (fCons (gv 0) fNil)) fNil)) env).bind rng2)) (fun d env => some (setE 5 d env))
    (B1_knots_behind r))
    (sRetP [] (gv 4))))
def r_knots_behind : Nat → List D → Option D
  | 0 => fun _ => none
  | n + 1 => fun ds => if ds.length = 4 then (F_knots_behind (r_knots_behind n) (env0 N_knots_behind ds)).bind resP else none
def g_knots_behind : Nat → List D → Option D := shut r_knots_behind
theorem g_knots_behind_zero : g_knots_behind 0 = fun _ => none := by unfold g_knots_behind; rw [shut_eq]; rfl
theorem g_knots_behind_succ (n : Nat) : g_knots_behind (n + 1) = fun ds => if ds.length = 4 then (F_knots_behind (g_knots_behind n) (env0 N_knots_behind ds)).bind resP else none := by unfold g_knots_behind; rw [shut_eq]; rfl
def F_knots_of : En → Option Out := (sRetP [] (fCall dSortD (fCons (fCall (g_knots_behind 8) (fCons (gv 0) (fCons (fun _ => some (.int 0)) (fCons (fLst fNil) (fCons (fLst fNil) fNil))))) fNil)))
def g_knots_of : List D → Option D := shut fun ds => if ds.length = 1 then (F_knots_of (env0 N_knots_of ds)).bind resP else none
theorem g_knots_of_eq : g_knots_of = fun ds => if ds.length = 1 then (F_knots_of (env0 N_knots_of ds)).bind resP else none := shut_eq _
def F_knots_in : En → Option Out := (sRetP [] (fCall g_knots_of (fCons (gv 0) fNil)))
def g_knots_in : List D → Option D := shut fun ds => if ds.length = 1 then (F_knots_in (env0 N_knots_in ds)).bind resP else none
theorem g_knots_in_eq : g_knots_in = fun ds => if ds.length = 1 then (F_knots_in (env0 N_knots_in ds)).bind resP else none := shut_eq _
def C1_greatest_size : En → Option D := (lcF [1] (fun env => ((gv 0) env).bind asS) (fun d env => some (setE 1 d env)) (fun _ => some true) (fCall dLen (fCons (gv 1) fNil)))
def F_greatest_size : En → Option Out := (sRetP [] (fCall dMax (fCons (fLst (fCons (fun _ => some (.int 0)) (fStar C1_greatest_size fNil))) fNil)))
def g_greatest_size : List D → Option D := shut fun ds => if ds.length = 1 then (F_greatest_size (env0 N_greatest_size ds)).bind resP else none
theorem g_greatest_size_eq : g_greatest_size = fun ds => if ds.length = 1 then (F_greatest_size (env0 N_greatest_size ds)).bind resP else none := shut_eq _
def F_clash_size : En → Option Out := (fSeq (sDrop (up (fCall g_need_book (fCons (gv 0) fNil))))
    (sRetP [] (fCall g_greatest_size (fCons (fCall g_knots_in (fCons (gv 0) fNil)) fNil))))
def g_clash_size : List D → Option D := shut fun ds => if ds.length = 1 then (F_clash_size (env0 N_clash_size ds)).bind resP else none
theorem g_clash_size_eq : g_clash_size = fun ds => if ds.length = 1 then (F_clash_size (env0 N_clash_size ds)).bind resP else none := shut_eq _
def F_law_source : En → Option Out := (fSeq (sAsgP (fCall dAbs (fCons (gv 0) fNil)) (fun d env => some (setE 2 d env)))
    (sRet [] (gLstE (gConsE (up (fCall dMax (fCons (fun _ => some (.int 0)) (fCons (f2 dSub (gv 2) (f2 dPow (fun _ => some (.int 10)) (fun _ => some (.int 18)))) fNil)))) (gConsE (up (f2 dAdd (f2 dAdd (f2 dMul (f2 dMod (fCall dInt (fCons (gv 2) fNil)) (f2 dAdd (f2 dPow (fun _ => some (.int 10)) (fun _ => some (.int 44))) (fun _ => some (.int 31)))) (fun _ => some (.int 97))) (f2 dMul (fun _ => some (.int 2)) (gv 1))) (fCall dInt (fCons (f2 dLt (gv 0) (fun _ => some (.int 0))) fNil)))) (gConsE (up (fun _ => some (.int 0))) gNilE))))))
def g_law_source : List D → Option D := shut fun ds => if ds.length = 2 then (F_law_source (env0 N_law_source ds)).bind resF else none
theorem g_law_source_eq : g_law_source = fun ds => if ds.length = 2 then (F_law_source (env0 N_law_source ds)).bind resF else none := shut_eq _
def F_law_draw : En → Option Out := (fSeq (sIfP (fTest (f2 dGt (fIxP 0 (fun _ => some (.int 0))) (fun _ => some (.int 0))))
    (fSeq (sAsgP (f2 dMod (fCall dInt (fCons (fIxP 0 (fun _ => some (.int 0))) fNil)) (gv 1)) (fun d env => some (setE 2 d env)))
    (fSeq (sSetI 0 (up (f2 dFdiv (fIxP 0 (fun _ => some (.int 0))) (gv 1))) (up (fun _ => some (.int 0))))
    (sRetP [0] (gv 2))))
    fNext)
    (fSeq (sSetI 0 (up (f2 dAdd (fIxP 0 (fun _ => some (.int 2))) (fun _ => some (.int 1)))) (up (fun _ => some (.int 2))))
    (fSeq (sAsgP (f2 dMod (fCall dInt (fCons (f2 dPow (f2 dAdd (fIxP 0 (fun _ => some (.int 1))) (f2 dMul (fun _ => some (.int 900007)) (fIxP 0 (fun _ => some (.int 2))))) (fun _ => some (.int 3))) fNil)) (f2 dAdd (f2 dPow (fun _ => some (.int 10)) (fun _ => some (.int 39))) (fun _ => some (.int 3)))) (fun d env => some (setE 3 d env)))
    (fSeq (sAsgP (f2 dMod (fCall dInt (fCons (f2 dPow (f2 dAdd (f2 dMul (gv 3) (fIxP 0 (fun _ => some (.int 2)))) (fun _ => some (.int 60013))) (fun _ => some (.int 3))) fNil)) (f2 dAdd (f2 dPow (fun _ => some (.int 10)) (fun _ => some (.int 40))) (fun _ => some (.int 121)))) (fun d env => some (setE 3 d env)))
    (sRetP [0] (f2 dMod (fCall dInt (fCons (f2 dFdiv (gv 3) (fun _ => some (.int 104729))) fNil)) (gv 1)))))))
def g_law_draw : List D → List D → Option (D × List D) := shut fun ds as => if as.length + 1 = 2 then (F_law_draw (env0 N_law_draw (.list ds :: as))).bind resM else none
theorem g_law_draw_eq : g_law_draw = fun ds as => if as.length + 1 = 2 then (F_law_draw (env0 N_law_draw (.list ds :: as))).bind resM else none := shut_eq _
def B1_law_common : En → Option Out := (sPar 0 1 (gConsE (up (gv 1)) (gConsE (up (f2 dMod (fCall dInt (fCons (gv 0) fNil)) (gv 1))) gNilE)))
def F_law_common : En → Option Out := (fSeq (sPar 0 1 (gConsE (up (fCall dAbs (fCons (gv 0) fNil))) (gConsE (up (fCall dAbs (fCons (gv 1) fNil))) gNilE)))
    (fSeq (sWhile (up (fTest (f2 dGt (gv 1) (fun _ => some (.int 0)))))
    B1_law_common)
    (sRetP [] (gv 0))))
def g_law_common : List D → Option D := shut fun ds => if ds.length = 2 then (F_law_common (env0 N_law_common ds)).bind resP else none
theorem g_law_common_eq : g_law_common = fun ds => if ds.length = 2 then (F_law_common (env0 N_law_common ds)).bind resP else none := shut_eq _
def B1_law_least : En → Option Out := (sForget [2] (sAsgP (fCall g_law_common (fCons (gv 1) (fCons (gv 2) fNil))) (fun d env => some (setE 1 d env))))
def F_law_least : En → Option Out := (fSeq (sAsgP (fun _ => some (.int 0)) (fun d env => some (setE 1 d env)))
    (fSeq (sFor (up (fun env => ((gv 0) env).bind asS)) (fun d env => some (setE 2 d env))
    B1_law_least)
    (sRetP [] (gv 1))))
def g_law_least : List D → Option D := shut fun ds => if ds.length = 1 then (F_law_least (env0 N_law_least ds)).bind resP else none
theorem g_law_least_eq : g_law_least = fun ds => if ds.length = 1 then (F_law_least (env0 N_law_least ds)).bind resP else none := shut_eq _
def C1_law_vector : En → Option (D × En) := (lcG [0] [4] (up (fun env => ((fCons (gv 1) fNil) env).bind rng1)) (fun d env => some (setE 4 d env)) (fun env => some (true, env)) (g2 dSub (gCallM 0 g_law_draw (gConsE (up (f2 dAdd (f2 dMul (fun _ => some (.int 2)) (gv 2)) (fun _ => some (.int 1)))) gNilE)) (up (gv 2))))
def C2_law_vector : En → Option D := (lcF [6] (fun env => ((gv 3) env).bind asS) (fun d env => some (setE 6 d env)) (fun _ => some true) (f2 dFdiv (gv 6) (gv 5)))
def F_law_vector : En → Option Out := (fSeq (sAsgF 3 C1_law_vector)
    (fSeq (sIfP (fTest (f2 (dEq false) (fCall g_law_least (fCons (gv 3) fNil)) (fun _ => some (.int 0))))
    (sSetI 3 (g2 dIx (up (fLst (fCons (fun _ => some (.int 1)) (fCons (f1 dNeg (fun _ => some (.int 1))) fNil)))) (gCallM 0 g_law_draw (gConsE (up (fun _ => some (.int 2))) gNilE))) (gCallM 0 g_law_draw (gConsE (up (gv 1)) gNilE)))
    fNext)
    (fSeq (sAsgP (fCall g_law_least (fCons (gv 3) fNil)) (fun d env => some (setE 5 d env)))
    (sRetP [0] (fCall dTupOf (fCons C2_law_vector fNil))))))
def g_law_vector : List D → List D → Option (D × List D) := shut fun ds as => if as.length + 1 = 3 then (F_law_vector (env0 N_law_vector (.list ds :: as))).bind resM else none
theorem g_law_vector_eq : g_law_vector = fun ds as => if as.length + 1 = 3 then (F_law_vector (env0 N_law_vector (.list ds :: as))).bind resM else none := shut_eq _
def C1_law_thin : En → Option (D × En) := (lcG [0] [3] (fun env => ((gCallM 0 g_law_vector (gConsE (up (gv 1)) (gConsE (g2 dIx (up (fLst (fCons (fun _ => some (.int 2)) (fCons (fun _ => some (.int 20)) fNil)))) (gCallM 0 g_law_draw (gConsE (up (fun _ => some (.int 2))) gNilE))) gNilE))) env).bind fun r => (asS r.1).map fun ds => (ds, r.2)) (fun d env => some (setE 3 d env)) (fun env => some (true, env)) (g2 dMul (up (gv 3)) (gCallM 0 g_law_draw (gConsE (up (fun _ => some (.int 2))) gNilE))))
def C2_law_thin : En → Option D := (lcF [5] (fun env => ((fCons (gv 1) fNil) env).bind rng1) (fun d env => some (setE 5 d env)) (fun _ => some true) (fCall dInt (fCons (f2 (dEq false) (gv 5) (fun _ => some (.int 0))) fNil)))
def C3_law_thin : En → Option D := (lcF [3] (fun env => ((gv 2) env).bind asS) (fun d env => some (setE 3 d env)) (fun _ => some true) (f2 dFdiv (gv 3) (gv 4)))
def F_law_thin : En → Option Out := (fSeq (sAsg C1_law_thin (fun d env => some (setE 2 d env)))
    (fSeq (sAsgP (fCall g_law_least (fCons (gv 2) fNil)) (fun d env => some (setE 4 d env)))
    (fSeq (sIfP (fTest (f2 (dEq false) (gv 4) (fun _ => some (.int 0))))
    (sRetP [0] (fCall dTupOf (fCons C2_law_thin fNil)))
    fNext)
    (sRetP [0] (fCall dTupOf (fCons C3_law_thin fNil))))))
def g_law_thin : List D → List D → Option (D × List D) := shut fun ds as => if as.length + 1 = 2 then (F_law_thin (env0 N_law_thin (.list ds :: as))).bind resM else none
theorem g_law_thin_eq : g_law_thin = fun ds as => if as.length + 1 = 2 then (F_law_thin (env0 N_law_thin (.list ds :: as))).bind resM else none := shut_eq _
def C1_law : En → Option D := (lcF [7] (fun env => ((gv 5) env).bind asS) (fun d env => some (setE 7 d env)) (fTest (f2 (dEq true) (gv 7) (fun _ => some (.int 0)))) (gv 7))
def B1_law : En → Option Out := (sForget [5, 6] (fSeq (sAsgP (fCall dMax (fCons (fun _ => some (.int 2)) (fCons (f2 dAdd (fun _ => some (.int 1)) (fCall dLen (fCons C1_law fNil))) fNil))) (fun d env => some (setE 6 d env)))
    (fSeq (sIfP (fTest (f2 (dEq true) (fCall dRepr (fCons (fLst (fCons (fCall g_box_size (fCons (gv 5) fNil)) (fCons (fCall (kwG 1 [0] g_box_size) (fCons (gv 5) fNil)) fNil))) fNil)) (fCall dRepr (fCons (fLst (fCons (gv 6) (fCons (gv 6) fNil))) fNil))))
    (sRetP [] (fun _ => some (.bool false)))
    fNext)
    (sIfP (fAnd (fTest (f2 dLt (gv 4) (fun _ => some (.int 4)))) (fTest (f2 (dEq true) (fCall g_clash_size (fCons (f1 dSortSet (f2 dAdd (fCall g_boxes (fCons (gv 4) fNil)) (fLst (fCons (gv 5) fNil)))) fNil)) (gv 6))))
    (sRetP [] (fun _ => some (.bool false)))
    fNext))))
def B2_law : En → Option Out := (sForget [4, 5, 6] (sFor (fun env => ((gTupE (gConsE (gCallM 3 g_law_thin (gConsE (up (gv 4)) gNilE)) (gConsE (gCallM 3 g_law_vector (gConsE (up (gv 4)) (gConsE (up (fun _ => some (.int 20))) gNilE))) gNilE))) env).bind fun r => (asS r.1).map fun ds => (ds, r.2)) (fun d env => some (setE 5 d env))
    B1_law))
def B3_law : En → Option Out := (sForget [1, 2, 3, 4, 5, 6] (fSeq (sAsgF 3 (gCall g_law_source (gConsE (up (gv 2)) (gConsE (up (gv 1)) gNilE))))
    (sFor (up (fun env => ((fCons (fun _ => some (.int 1)) (fCons (fun _ => some (.int 6)) fNil)) env).bind rng2)) (fun d env => some (setE 4 d env))
    B2_law)))
def C2_law : En → Option D := (lcF [5] (fun env => ((gv 8) env).bind asS) (fun d env => some (setE 5 d env)) (fun _ => some true) (fCall g_box_size (fCons (gv 5) fNil)))
def F_law : En → Option Out := (fSeq (sFor (up (fun env => ((fCons (fSl (f2 dAdd (gv 0) (fLst (fCons (fun _ => some (.int 0)) fNil))) (fun _ => some none) (fun env => ((fCall dMax (fCons (fun _ => some (.int 1)) (fCons (fCall dMin (fCons (fCall dLen (fCons (gv 0) fNil)) (fCons (fun _ => some (.int 8)) fNil))) fNil))) env |>.bind asI).map some)) fNil) env).bind enumA)) (tgTup (tgCons (fun d env => some (setE 1 d env)) (tgCons (fun d env => some (setE 2 d env)) tgNil)))
    B3_law)
    (fSeq (sAsgP (fLst (fCons (fTup (fCons (fun _ => some (.int 1)) (fCons (fun _ => some (.int 0)) (fCons (f1 dNeg (fun _ => some (.int 2))) fNil)))) (fCons (fTup (fCons (fun _ => some (.int 1)) fNil)) (fCons (fTup (fCons (f1 dNeg (fun _ => some (.int 1))) fNil)) (fCons (fTup (fCons (fun _ => some (.int 0)) (fCons (fun _ => some (.int 1)) fNil))) (fCons (fTup (fCons (fun _ => some (.int 20)) (fCons (f1 dNeg (fun _ => some (.int 19))) fNil))) (fCons (fTup (fCons (fun _ => some (.int 1)) (fCons (fun _ => some (.int 1)) (fCons (fun _ => some (.int 1)) (fCons (fun _ => some (.int 1)) (fCons (fun _ => some (.int 1)) fNil)))))) (fCons (fTup (fCons (fun _ => some (.int 0)) (fCons (fun _ => some (.int 0)) (fCons (fun _ => some (.int 0)) (fCons (fun _ => some (.int 0)) (fCons (f1 dNeg (fun _ => some (.int 1))) fNil)))))) (fCons (fTup (fCons (fun _ => some (.int 3)) (fCons (fun _ => some (.int 0)) (fCons (fun _ => some (.int 0)) (fCons (fun _ => some (.int 0)) (fCons (fun _ => some (.int 4)) fNil)))))) fNil))))))))) (fun d env => some (setE 8 d env)))
    (sRetP [] (f2 (dEq false) C2_law (fLst (fCons (fun _ => some (.int 3)) (fCons (fun _ => some (.int 2)) (fCons (fun _ => some (.int 2)) (fCons (fun _ => some (.int 2)) (fCons (fun _ => some (.int 3)) (fCons (fun _ => some (.int 6)) (fCons (fun _ => some (.int 2)) (fCons (fun _ => some (.int 3)) fNil)))))))))))))
def g_law : List D → Option D := shut fun ds => if ds.length = 1 then (F_law (env0 N_law ds)).bind resP else none
theorem g_law_eq : g_law = fun ds => if ds.length = 1 then (F_law (env0 N_law ds)).bind resP else none := shut_eq _
structure Top (K : PySem.W.Frag) (mg : Str → Option Value) : Prop where
  d_is_integer : ∃ (f : Addr) (fd : FuncData), Fun K "is_integer" "is_integer" s_is_integer f fd ∧ mg "is_integer" = some (.ref f) ∧ Binds K fd ["value"] []
  d_are_integers : ∃ (f : Addr) (fd : FuncData), Fun K "are_integers" "are_integers" s_are_integers f fd ∧ mg "are_integers" = some (.ref f) ∧ Binds K fd ["value", "many"] []
  d_common : ∃ (f : Addr) (fd : FuncData), Fun K "common" "common" s_common f fd ∧ mg "common" = some (.ref f) ∧ Binds K fd ["one", "other"] []
  d_divisor_of : ∃ (f : Addr) (fd : FuncData), Fun K "divisor_of" "divisor_of" s_divisor_of f fd ∧ mg "divisor_of" = some (.ref f) ∧ Binds K fd ["numbers"] []
  d_is_kind : ∃ (f : Addr) (fd : FuncData), Fun K "is_kind" "is_kind" s_is_kind f fd ∧ mg "is_kind" = some (.ref f) ∧ Binds K fd ["value"] []
  d_is_book : ∃ (f : Addr) (fd : FuncData), Fun K "is_book" "is_book" s_is_book f fd ∧ mg "is_book" = some (.ref f) ∧ Binds K fd ["value"] []
  d_need_book : ∃ (f : Addr) (fd : FuncData), Fun K "need_book" "need_book" s_need_book f fd ∧ mg "need_book" = some (.ref f) ∧ Binds K fd ["book"] []
  d_need_number : ∃ (f : Addr) (fd : FuncData), Fun K "need_number" "need_number" s_need_number f fd ∧ mg "need_number" = some (.ref f) ∧ Binds K fd ["value", "low", "high"] []
  d_with_items : ∃ (f : Addr) (fd : FuncData), Fun K "with_items" "with_items" s_with_items f fd ∧ mg "with_items" = some (.ref f) ∧ Binds K fd ["size", "items"] []
  d_boxes : ∃ (f : Addr) (fd : FuncData), Fun K "boxes" "boxes" s_boxes f fd ∧ mg "boxes" = some (.ref f) ∧ Binds K fd ["number"] []
  d_box_size : ∃ (f : Addr) (fd : FuncData), Fun K "box_size" "box_size" s_box_size f fd ∧ mg "box_size" = some (.ref f) ∧ Binds K fd ["kind"] []
  d_against : ∃ (f : Addr) (fd : FuncData), Fun K "against" "against" s_against f fd ∧ mg "against" = some (.ref f) ∧ Binds K fd ["basis", "vector"] []
  d_row_of : ∃ (f : Addr) (fd : FuncData), Fun K "row_of" "row_of" s_row_of f fd ∧ mg "row_of" = some (.ref f) ∧ Binds K fd ["rest", "scale", "parts"] []
  d_knots_behind : ∃ (f : Addr) (fd : FuncData), Fun K "knots_behind" "knots_behind" s_knots_behind f fd ∧ mg "knots_behind" = some (.ref f) ∧ Binds K fd ["vectors", "first", "chosen", "basis"] []
  d_knots_of : ∃ (f : Addr) (fd : FuncData), Fun K "knots_of" "knots_of" s_knots_of f fd ∧ mg "knots_of" = some (.ref f) ∧ Binds K fd ["vectors"] []
  d_knots_in : ∃ (f : Addr) (fd : FuncData), Fun K "knots_in" "knots_in" s_knots_in f fd ∧ mg "knots_in" = some (.ref f) ∧ Binds K fd ["book"] []
  d_greatest_size : ∃ (f : Addr) (fd : FuncData), Fun K "greatest_size" "greatest_size" s_greatest_size f fd ∧ mg "greatest_size" = some (.ref f) ∧ Binds K fd ["found"] []
  d_clash_size : ∃ (f : Addr) (fd : FuncData), Fun K "clash_size" "clash_size" s_clash_size f fd ∧ mg "clash_size" = some (.ref f) ∧ Binds K fd ["book"] []
  d_law_source : ∃ (f : Addr) (fd : FuncData), Fun K "_law_source" "_law_source" s_law_source f fd ∧ mg "_law_source" = some (.ref f) ∧ Binds K fd ["entry", "k"] []
  d_law_draw : ∃ (f : Addr) (fd : FuncData), Fun K "_law_draw" "_law_draw" s_law_draw f fd ∧ mg "_law_draw" = some (.ref f) ∧ Binds K fd ["source", "count"] []
  d_law_common : ∃ (f : Addr) (fd : FuncData), Fun K "_law_common" "_law_common" s_law_common f fd ∧ mg "_law_common" = some (.ref f) ∧ Binds K fd ["one", "two"] []
  d_law_least : ∃ (f : Addr) (fd : FuncData), Fun K "_law_least" "_law_least" s_law_least f fd ∧ mg "_law_least" = some (.ref f) ∧ Binds K fd ["vector"] []
  d_law_vector : ∃ (f : Addr) (fd : FuncData), Fun K "_law_vector" "_law_vector" s_law_vector f fd ∧ mg "_law_vector" = some (.ref f) ∧ Binds K fd ["source", "many", "wide"] []
  d_law_thin : ∃ (f : Addr) (fd : FuncData), Fun K "_law_thin" "_law_thin" s_law_thin f fd ∧ mg "_law_thin" = some (.ref f) ∧ Binds K fd ["source", "many"] []
  d_law : ∃ (f : Addr) (fd : FuncData), Fun K "law" "law" s_law f fd ∧ mg "law" = some (.ref f) ∧ Binds K fd ["script"] []
  z_abs : mg "abs" = none
  z_all : mg "all" = none
  z_any : mg "any" = none
  z_bool : mg "bool" = none
  z_enumerate : mg "enumerate" = none
  z_int : mg "int" = none
  z_isinstance : mg "isinstance" = none
  z_len : mg "len" = none
  z_list : mg "list" = none
  z_max : mg "max" = none
  z_min : mg "min" = none
  z_range : mg "range" = none
  z_repr : mg "repr" = none
  z_set : mg "set" = none
  z_sorted : mg "sorted" = none
  z_tuple : mg "tuple" = none
  z_zip : mg "zip" = none
  c_MOST_ITEM : ∃ t, mg "MOST_ITEM" = some (.int 20 t)
  c_MOST_KINDS : ∃ t, mg "MOST_KINDS" = some (.int 12 t)
  c_MOST_UNKNOWNS : ∃ t, mg "MOST_UNKNOWNS" = some (.int 5 t)
theorem kb_box_size_kind : KwB "box_size" s_box_size ["kind"] 0 ["kind"] [0] := fun _ _ _ _ _ _ us ws hl hl2 => match us, ws, hl, hl2 with | [], [_], _, _ => rfl
section
variable {P : Program} {w : World} {K : PySem.W.Frag} {mg : Str → Option Value} {base : Heap}
theorem b_is_integer (T : Top K mg) (f : Addr) : DSs (bodyX P w K mg base N_is_integer "is_integer" (defScope s_is_integer) f 0) K false [] [] [] [] (defBody s_is_integer) F_is_integer := by
  have C := bodyX_at (P := P) (w := w) (K := K) (mg := mg) (base := base) (k := 0) (qual := "is_integer") (f := f) sc_is_integer
  exact ssO (sR (eAndV (eIsi (T := "int") C.1 T.z_isinstance T.z_int (eN 0)) (eOne (eNotV (eIsi (T := "bool") C.1 T.z_isinstance T.z_bool (eN 0))))))
theorem fn_is_integer (T : Top K mg) : Fn P w K mg base 1 "is_integer" s_is_integer ["value"] (spP K g_is_integer) := by
  obtain ⟨f, fd, hF, hm, hB⟩ := T.d_is_integer
  exact ⟨f, fd, hF, fnP hF sc_is_integer (b_is_integer T f) (by rw [g_is_integer_eq]; exact gP_of rfl), hm, hB⟩
theorem b_are_integers (T : Top K mg) (f : Addr) : DSs (bodyX P w K mg base N_are_integers "are_integers" (defScope s_are_integers) f 1) K false [] [] [] [] (defBody s_are_integers) F_are_integers := by
  have C := bodyX_at (P := P) (w := w) (K := K) (mg := mg) (base := base) (k := 1) (qual := "are_integers") (f := f) sc_are_integers
  exact ssO (sR (eAndV (eIsi (T := "tuple") C.1 T.z_isinstance T.z_tuple (eN 0)) (eAndV (eC C.1 (cEq C.1) (eF bLen C.1 T.z_len (aC (eN 0) (aN))) (eN 1)) (eOne (eF (bAll C.1) C.1 T.z_all (aC (eLc [("one", 2)] C.1 (diS C.1 (eN 0)) (gN 2 (C.blk _).1) (tsN) (eCall (C.blk _) (fn_is_integer T) (aC (eN 2) (aN)))) (aN)))))))
theorem fn_are_integers (T : Top K mg) : Fn P w K mg base 2 "are_integers" s_are_integers ["value", "many"] (spP K g_are_integers) := by
  obtain ⟨f, fd, hF, hm, hB⟩ := T.d_are_integers
  exact ⟨f, fd, hF, fnP hF sc_are_integers (b_are_integers T f) (by rw [g_are_integers_eq]; exact gP_of rfl), hm, hB⟩
theorem b_common (T : Top K mg) (f : Addr) : DSs (bodyX P w K mg base N_common "common" (defScope s_common) f 0) K false [] [] [] [] (defBody s_common) F_common := by
  have C := bodyX_at (P := P) (w := w) (K := K) (mg := mg) (base := base) (k := 0) (qual := "common") (f := f) sc_common
  exact ssC (sPr 0 1 C.1 (amC ((eF bAbs C.1 T.z_abs (aC (eN 0) (aN))).up) (amC ((eF bAbs C.1 T.z_abs (aC (eN 1) (aN))).up) (amN))))
      (ssC (sW C.1 ((tC' C.1 cGt (eN 1) (eI)).up)
      (ssO (sPr 0 1 C.1 (amC ((eN 1).up) (amC ((eMod C.1 (eN 0) (eN 1)).up) (amN))))))
      (ssO (sR (eN 0))))
theorem fn_common (T : Top K mg) : Fn P w K mg base 1 "common" s_common ["one", "other"] (spP K g_common) := by
  obtain ⟨f, fd, hF, hm, hB⟩ := T.d_common
  exact ⟨f, fd, hF, fnP hF sc_common (b_common T f) (by rw [g_common_eq]; exact gP_of rfl), hm, hB⟩
theorem b_divisor_of (T : Top K mg) (f : Addr) : DSs (bodyX P w K mg base N_divisor_of "divisor_of" (defScope s_divisor_of) f 1) K false [] [] [] [] (defBody s_divisor_of) F_divisor_of := by
  have C := bodyX_at (P := P) (w := w) (K := K) (mg := mg) (base := base) (k := 1) (qual := "divisor_of") (f := f) sc_divisor_of
  exact ssC (sSet 1 C.1 (eI))
      (ssC (sF C.1 ((diS C.1 (eN 0)).up) (gN 2 C.1)
      (ssFgt [2] (ssO (sSet 1 C.1 (eCall C (fn_common T) (aC (eN 1) (aC (eN 2) (aN))))))))
      (ssO (sR (eN 1))))
theorem fn_divisor_of (T : Top K mg) : Fn P w K mg base 2 "divisor_of" s_divisor_of ["numbers"] (spP K g_divisor_of) := by
  obtain ⟨f, fd, hF, hm, hB⟩ := T.d_divisor_of
  exact ⟨f, fd, hF, fnP hF sc_divisor_of (b_divisor_of T f) (by rw [g_divisor_of_eq]; exact gP_of rfl), hm, hB⟩
theorem b_is_kind (T : Top K mg) (f : Addr) : DSs (bodyX P w K mg base N_is_kind "is_kind" (defScope s_is_kind) f 2) K false [] [] [] [] (defBody s_is_kind) F_is_kind := by
  have C := bodyX_at (P := P) (w := w) (K := K) (mg := mg) (base := base) (k := 2) (qual := "is_kind") (f := f) sc_is_kind
  exact ssC (sIP ((wOr (tNot' (tV (eIsi (T := "tuple") C.1 T.z_isinstance T.z_tuple (eN 0)))) (wOr (tNot' (tCh C.1 cLe cLe (eI) (eF bLen C.1 T.z_len (aC (eN 0) (aN))) (eGI T.c_MOST_UNKNOWNS))) (wOr1 (tNot' (tV (eCall C (fn_are_integers T) (aC (eN 0) (aC (eF bLen C.1 T.z_len (aC (eN 0) (aN))) (aN))))))))).t)
      (ssO (sR (eB)))
      (ssN))
      (ssO (sR (eAndV (eF (bAll C.1) C.1 T.z_all (aC (eLc [("one", 1)] C.1 (diS C.1 (eN 0)) (gN 1 (C.blk _).1) (tsN) (eC (C.blk _).1 cLe (eF bAbs (C.blk _).1 T.z_abs (aC (eN 1) (aN))) (eGI T.c_MOST_ITEM))) (aN))) (eOne (eC C.1 (cEq C.1) (eCall C (fn_divisor_of T) (aC (eN 0) (aN))) (eI))))))
theorem fn_is_kind (T : Top K mg) : Fn P w K mg base 3 "is_kind" s_is_kind ["value"] (spP K g_is_kind) := by
  obtain ⟨f, fd, hF, hm, hB⟩ := T.d_is_kind
  exact ⟨f, fd, hF, fnP hF sc_is_kind (b_is_kind T f) (by rw [g_is_kind_eq]; exact gP_of rfl), hm, hB⟩
theorem b_is_book (T : Top K mg) (f : Addr) : DSs (bodyX P w K mg base N_is_book "is_book" (defScope s_is_book) f 3) K false [] [] [] [] (defBody s_is_book) F_is_book := by
  have C := bodyX_at (P := P) (w := w) (K := K) (mg := mg) (base := base) (k := 3) (qual := "is_book") (f := f) sc_is_book
  exact ssC (sIP ((wOr (tNot' (tV (eIsi (T := "list") C.1 T.z_isinstance T.z_list (eN 0)))) (wOr (tNot' (tCh C.1 cLe cLe (eI) (eF bLen C.1 T.z_len (aC (eN 0) (aN))) (eGI T.c_MOST_KINDS))) (wOr1 (tNot' (tV (eF (bAll C.1) C.1 T.z_all (aC (eLc [("one", 1)] C.1 (diS C.1 (eN 0)) (gN 1 (C.blk _).1) (tsN) (eCall (C.blk _) (fn_is_kind T) (aC (eN 1) (aN)))) (aN)))))))).t)
      (ssO (sR (eB)))
      (ssN))
      (ssC (sIP (tNot' (tV (eF (bAll C.1) C.1 T.z_all (aC (eLc [("one", 1)] C.1 (diS C.1 (eN 0)) (gN 1 (C.blk _).1) (tsN) (eC (C.blk _).1 (cEq (C.blk _).1) (eF bLen (C.blk _).1 T.z_len (aC (eN 1) (aN))) (eF bLen (C.blk _).1 T.z_len (aC (eIx (C.blk _).1 (eN 0) (eI)) (aN))))) (aN)))))
      (ssO (sR (eB)))
      (ssN))
      (ssO (sR (eF (bAll C.1) C.1 T.z_all (aC (eLc [("one", 1), ("other", 2)] C.1 (diZB C.1 T.z_zip (aC (eN 0) (aC (eSl C.1 (eN 0) (oS (eI)) (oN)) (aN)))) (gT (C.blk _).1 (gsC (gN 1 (C.blk _).1) (gsC (gN 2 (C.blk _).1) (gsN)))) (tsN) (eC (C.blk _).1 (cLtT (C.blk _).1) (eN 1) (eN 2))) (aN))))))
theorem fn_is_book (T : Top K mg) : Fn P w K mg base 4 "is_book" s_is_book ["value"] (spP K g_is_book) := by
  obtain ⟨f, fd, hF, hm, hB⟩ := T.d_is_book
  exact ⟨f, fd, hF, fnP hF sc_is_book (b_is_book T f) (by rw [g_is_book_eq]; exact gP_of rfl), hm, hB⟩
theorem b_need_book (T : Top K mg) (f : Addr) : DSs (bodyX P w K mg base N_need_book "need_book" (defScope s_need_book) f 4) K false [] [] [] [] (defBody s_need_book) F_need_book := by
  have C := bodyX_at (P := P) (w := w) (K := K) (mg := mg) (base := base) (k := 4) (qual := "need_book") (f := f) sc_need_book
  exact ssO (sIP (tNot' (tV (eCall C (fn_is_book T) (aC (eN 0) (aN)))))
      (ssX)
      (ssN))
theorem fn_need_book (T : Top K mg) : Fn P w K mg base 5 "need_book" s_need_book ["book"] (spP K g_need_book) := by
  obtain ⟨f, fd, hF, hm, hB⟩ := T.d_need_book
  exact ⟨f, fd, hF, fnP hF sc_need_book (b_need_book T f) (by rw [g_need_book_eq]; exact gP_of rfl), hm, hB⟩
theorem b_need_number (T : Top K mg) (f : Addr) : DSs (bodyX P w K mg base N_need_number "need_number" (defScope s_need_number) f 1) K false [] [] [] [] (defBody s_need_number) F_need_number := by
  have C := bodyX_at (P := P) (w := w) (K := K) (mg := mg) (base := base) (k := 1) (qual := "need_number") (f := f) sc_need_number
  exact ssO (sIP ((wOr (tNot' (tV (eCall C (fn_is_integer T) (aC (eN 0) (aN))))) (wOr (tC' C.1 cLt (eN 0) (eN 1)) (wOr1 ((wAnd (tC' C.1 cNotN (eN 2) (eZ)) (wAnd1 (tC' C.1 cGt (eN 0) (eN 2)))).t)))).t)
      (ssX)
      (ssN))
theorem fn_need_number (T : Top K mg) : Fn P w K mg base 2 "need_number" s_need_number ["value", "low", "high"] (spP K g_need_number) := by
  obtain ⟨f, fd, hF, hm, hB⟩ := T.d_need_number
  exact ⟨f, fd, hF, fnP hF sc_need_number (b_need_number T f) (by rw [g_need_number_eq]; exact gP_of rfl), hm, hB⟩
theorem b_with_items (T : Top K mg) (f : Addr) : DSs (bodyX P w K mg base N_with_items "with_items" (defScope s_with_items) f 0) K false [] [] [] [] (defBody s_with_items) F_with_items := by
  have C := bodyX_at (P := P) (w := w) (K := K) (mg := mg) (base := base) (k := 0) (qual := "with_items") (f := f) sc_with_items
  exact ssC (sSetF 2 C.1 (fRep C.1 ((eL (aC (eI) (aN))).up) ((eN 0).up)))
      (ssC (sF C.1 ((diS C.1 (eN 1)).up) (gT C.1 (gsC (gN 3 C.1) (gsC (gN 4 C.1) (gsN))))
      (ssFgt [3, 4] (ssO (sStI 2 C.1 ((eN 4).up) ((eN 3).up)))))
      (ssShareA 2 (m2 := []) (ssO (sR (eTy tyTup C.1 T.z_tuple (aC (eN 2) (aN)))))))
theorem fn_with_items (T : Top K mg) : Fn P w K mg base 1 "with_items" s_with_items ["size", "items"] (spP K g_with_items) := by
  obtain ⟨f, fd, hF, hm, hB⟩ := T.d_with_items
  exact ⟨f, fd, hF, fnP hF sc_with_items (b_with_items T f) (by rw [g_with_items_eq]; exact gP_of rfl), hm, hB⟩
theorem b_boxes (T : Top K mg) (f : Addr) : DSs (bodyX P w K mg base N_boxes "boxes" (defScope s_boxes) f 2) K false [] [] [] [] (defBody s_boxes) F_boxes := by
  have C := bodyX_at (P := P) (w := w) (K := K) (mg := mg) (base := base) (k := 2) (qual := "boxes") (f := f) sc_boxes
  exact ssC (sD ((eCall C (fn_need_number T) (aC (eN 0) (aC (eI) (aC (eI) (aN))))).up))
      (ssC (sLc 1 [("index", 2)] C.1 (diR1 C.1 T.z_range (aC (eN 0) (aN))) (gN 2 (C.blk _).1) (tsN) (eCall (C.blk _) (fn_with_items T) (aC (eN 0) (aC (eL (aC (eT (aC (eN 2) (aC (eI) (aN)))) (aN))) (aN)))))
      (ssO (sR (eF bSortAll C.1 T.z_sorted (aC (eAdd C.1 (eN 1) (eLc [("index", 2)] C.1 (diR1 C.1 T.z_range (aC (eN 0) (aN))) (gN 2 (C.blk _).1) (tsN) (eCall (C.blk _) (fn_with_items T) (aC (eN 0) (aC (eL (aC (eT (aC (eN 2) (aC (eNeg (eI)) (aN)))) (aN))) (aN)))))) (aN))))))
theorem fn_boxes (T : Top K mg) : Fn P w K mg base 3 "boxes" s_boxes ["number"] (spP K g_boxes) := by
  obtain ⟨f, fd, hF, hm, hB⟩ := T.d_boxes
  exact ⟨f, fd, hF, fnP hF sc_boxes (b_boxes T f) (by rw [g_boxes_eq]; exact gP_of rfl), hm, hB⟩
theorem b_box_size (T : Top K mg) (f : Addr) : DSs (bodyX P w K mg base N_box_size "box_size" (defScope s_box_size) f 3) K false [] [] [] [] (defBody s_box_size) F_box_size := by
  have C := bodyX_at (P := P) (w := w) (K := K) (mg := mg) (base := base) (k := 3) (qual := "box_size") (f := f) sc_box_size
  exact ssC (sIP (tNot' (tV (eCall C (fn_is_kind T) (aC (eN 0) (aN)))))
      (ssX)
      (ssN))
      (ssO (sR (eF (bMax C.1) C.1 T.z_max (aC (eI) (aC (eAdd C.1 (eI) (eF bLen C.1 T.z_len (aC (eLc [("item", 1)] C.1 (diS C.1 (eN 0)) (gN 1 (C.blk _).1) (tsO (tC' (C.blk _).1 (cNe (C.blk _).1) (eN 1) (eI))) (eN 1)) (aN)))) (aN))))))
theorem fn_box_size (T : Top K mg) : Fn P w K mg base 4 "box_size" s_box_size ["kind"] (spP K g_box_size) := by
  obtain ⟨f, fd, hF, hm, hB⟩ := T.d_box_size
  exact ⟨f, fd, hF, fnP hF sc_box_size (b_box_size T f) (by rw [g_box_size_eq]; exact gP_of rfl), hm, hB⟩
theorem b_against (T : Top K mg) (f : Addr) : DSs (bodyX P w K mg base N_against "against" (defScope s_against) f 0) K false [] [] [] [] (defBody s_against) F_against := by
  have C := bodyX_at (P := P) (w := w) (K := K) (mg := mg) (base := base) (k := 0) (qual := "against") (f := f) sc_against
  exact ssC (sPr3L 2 3 4 C.1 ((eTy tyList C.1 T.z_list (aC (eN 1) (aN))).up) ((eI).up) (fRep C.1 ((eL (aC (eI) (aN))).up) ((eF bLen C.1 T.z_len (aC (eN 0) (aN))).up)))
      (ssC (sF C.1 ((diS C.1 (eN 0)).up) (gT C.1 (gsC (gN 5 C.1) (gsC (gN 6 C.1) (gsC (gN 7 C.1) (gsN)))))
      (ssFgt [5, 6, 7, 8, 9, 12, 13] (ssC (sAs (eT (aC (eIx C.1 (eN 2) (eN 5)) (aC (eIx C.1 (eN 6) (eN 5)) (aN)))) (gT C.1 (gsC (gN 8 C.1) (gsC (gN 9 C.1) (gsN)))))
      (ssO (sIP (tC' C.1 (cNe C.1) (eN 8) (eI))
      (ssC (sLc 2 [("one", 10), ("other", 11)] C.1 (diZB C.1 T.z_zip (aC (eN 2) (aC (eN 6) (aN)))) (gT (C.blk _).1 (gsC (gN 10 (C.blk _).1) (gsC (gN 11 (C.blk _).1) (gsN)))) (tsN) (eSub (C.blk _).1 (eMul (C.blk _).1 (eN 9) (eN 10)) (eMul (C.blk _).1 (eN 8) (eN 11))))
      (ssC (sSet 3 C.1 (eMul C.1 (eN 3) (eN 9)))
      (ssC (sReLc 4 [("one", 10)] (m2 := []) C.1 (diS C.1 (eN 4)) (gN 10 (C.blk _).1) (tsN) (eMul (C.blk _).1 (eN 9) (eN 10)))
      (ssO (sF C.1 ((diE C.1 T.z_enumerate (aC (eN 7) (aN))).up) (gT C.1 (gsC (gN 12 C.1) (gsC (gN 13 C.1) (gsN))))
      (ssFgt [12, 13] (ssO (sStI 4 C.1 ((eAdd C.1 (eIxO 4 C.1 (eN 12)) (eMul C.1 (eN 8) (eN 13))).up) ((eN 12).up)))))))))
      (ssN))))))
      (ssShareA 4 (m2 := []) (ssO (sR (eT (aC (eN 2) (aC (eN 3) (aC (eN 4) (aN)))))))))
theorem fn_against (T : Top K mg) : Fn P w K mg base 1 "against" s_against ["basis", "vector"] (spP K g_against) := by
  obtain ⟨f, fd, hF, hm, hB⟩ := T.d_against
  exact ⟨f, fd, hF, fnP hF sc_against (b_against T f) (by rw [g_against_eq]; exact gP_of rfl), hm, hB⟩
theorem b_row_of (T : Top K mg) (f : Addr) : DSs (bodyX P w K mg base N_row_of "row_of" (defScope s_row_of) f 2) K false [] [] [] [] (defBody s_row_of) F_row_of := by
  have C := bodyX_at (P := P) (w := w) (K := K) (mg := mg) (base := base) (k := 2) (qual := "row_of") (f := f) sc_row_of
  exact ssC (sSet 3 C.1 (eIx C.1 (eLc [("index", 4), ("one", 5)] C.1 (diE C.1 T.z_enumerate (aC (eN 0) (aN))) (gT (C.blk _).1 (gsC (gN 4 (C.blk _).1) (gsC (gN 5 (C.blk _).1) (gsN)))) (tsO (tC' (C.blk _).1 (cNe (C.blk _).1) (eN 5) (eI))) (eN 4)) (eI)))
      (ssC (sSet 6 C.1 (eCall C (fn_divisor_of T) (aC (eL (aStar C.1 (eN 0) (aC (eN 1) (aStar C.1 (eN 2) (aN))))) (aN))))
      (ssC (sIP (tC' C.1 cLt (eIx C.1 (eN 0) (eN 3)) (eI))
      (ssO (sSet 6 C.1 (eNeg (eN 6))))
      (ssN))
      (ssO (sR (eT (aC (eN 3) (aC (eLc [("one", 5)] C.1 (diS C.1 (eN 0)) (gN 5 (C.blk _).1) (tsN) (eFdiv (C.blk _).1 (eN 5) (eN 6))) (aC (eL (aStar C.1 (eLc [("part", 7)] C.1 (diS C.1 (eN 2)) (gN 7 (C.blk _).1) (tsN) (eNeg (eFdiv (C.blk _).1 (eN 7) (eN 6)))) (aC (eFdiv C.1 (eN 1) (eN 6)) (aN)))) (aN)))))))))
theorem fn_row_of (T : Top K mg) : Fn P w K mg base 3 "row_of" s_row_of ["rest", "scale", "parts"] (spP K g_row_of) := by
  obtain ⟨f, fd, hF, hm, hB⟩ := T.d_row_of
  exact ⟨f, fd, hF, fnP hF sc_row_of (b_row_of T f) (by rw [g_row_of_eq]; exact gP_of rfl), hm, hB⟩
theorem b_knots_behind {L : Nat} {r : List D → Option D} (hL : 3 ≤ L) (T : Top K mg) (hr : Fn P w K mg base L "knots_behind" s_knots_behind ["vectors", "first", "chosen", "basis"] (spP K r)) (f : Addr) : DSs (bodyX P w K mg base N_knots_behind "knots_behind" (defScope s_knots_behind) f L) K false [] [] [] [] (defBody s_knots_behind) (F_knots_behind r) := by
  have C := bodyX_at (P := P) (w := w) (K := K) (mg := mg) (base := base) (k := L) (qual := "knots_behind") (f := f) sc_knots_behind
  exact ssC (sSetF 4 C.1 (fL (amN)))
      (ssC (sF C.1 ((diR2 C.1 T.z_range (aC (eN 1) (aC (eF bLen C.1 T.z_len (aC (eN 0) (aN))) (aN)))).up) (gN 5 C.1)
      (ssFgt [5, 6, 7, 8, 9, 10] (ssC (sAs (eCall C (fn_against T) (aC (eN 3) (aC (eIx C.1 (eN 0) (eN 5)) (aN)))) (gT C.1 (gsC (gN 6 C.1) (gsC (gN 7 C.1) (gsC (gN 8 C.1) (gsN))))))
      (ssO (sIP (tV (eF (bAnyI C.1) C.1 T.z_any (aC (eN 6) (aN))))
      (ssC (sSet 9 C.1 (eL (aStar C.1 (eN 3) (aC (eCall C (fn_row_of T) (aC (eN 6) (aC (eN 7) (aC (eN 8) (aN))))) (aN)))))
      (ssO (sExt 4 C.1 ((eCall C hr (aC (eN 0) (aC (eAdd C.1 (eN 5) (eI)) (aC (eL (aStar C.1 (eN 2) (aC (eN 5) (aN)))) (aC (eN 9) (aN)))))).up))))
      (ssO (sIP (tC' C.1 cLt (eF (bMax C.1) C.1 T.z_max (aC (eL (aC (eNeg (eI)) (aStar C.1 (eN 8) (aN)))) (aN))) (eI))
      (ssC (sSet 10 C.1 (eCall C (fn_divisor_of T) (aC (eL (aStar C.1 (eN 8) (aC (eN 7) (aN)))) (aN))))
      (ssO (sApp 4 C.1 ((eL (aStar C.1 (eLc [("one", 11), ("part", 12)] C.1 (diZB C.1 T.z_zip (aC (eN 2) (aC (eN 8) (aN)))) (gT (C.blk _).1 (gsC (gN 11 (C.blk _).1) (gsC (gN 12 (C.blk _).1) (gsN)))) (tsN) (eT (aC (eN 11) (aC (eFdiv (C.blk _).1 (eNeg (eN 12)) (eN 10)) (aN))))) (aC (eT (aC (eN 5) (aC (eFdiv C.1 (eN 7) (eN 10)) (aN)))) (aN)))).up))))
      (ssN))))))))
      (ssShareA 4 (m2 := []) (ssO (sR (eN 4)))))
theorem fn_knots_behind (T : Top K mg) : ∀ n : Nat, Fn P w K mg base (4 + n) "knots_behind" s_knots_behind ["vectors", "first", "chosen", "basis"] (spP K (g_knots_behind n))
  | 0 => by rw [g_knots_behind_zero]; exact fn_none T.d_knots_behind
  | n + 1 => by
    obtain ⟨f, fd, hF, hm, hB⟩ := T.d_knots_behind
    exact ⟨f, fd, hF, fnP hF sc_knots_behind (b_knots_behind (by omega) T (fn_knots_behind T n) f) (by rw [g_knots_behind_succ]; exact gP_of rfl), hm, hB⟩
theorem b_knots_of (T : Top K mg) (f : Addr) : DSs (bodyX P w K mg base N_knots_of "knots_of" (defScope s_knots_of) f 12) K false [] [] [] [] (defBody s_knots_of) F_knots_of := by
  have C := bodyX_at (P := P) (w := w) (K := K) (mg := mg) (base := base) (k := 12) (qual := "knots_of") (f := f) sc_knots_of
  exact ssO (sR (eF (bSortD C.1) C.1 T.z_sorted (aC (eCall C (fn_knots_behind T 8) (aC (eN 0) (aC (eI) (aC (eL (aN)) (aC (eL (aN)) (aN)))))) (aN))))
theorem fn_knots_of (T : Top K mg) : Fn P w K mg base 13 "knots_of" s_knots_of ["vectors"] (spP K g_knots_of) := by
  obtain ⟨f, fd, hF, hm, hB⟩ := T.d_knots_of
  exact ⟨f, fd, hF, fnP hF sc_knots_of (b_knots_of T f) (by rw [g_knots_of_eq]; exact gP_of rfl), hm, hB⟩
theorem b_knots_in (T : Top K mg) (f : Addr) : DSs (bodyX P w K mg base N_knots_in "knots_in" (defScope s_knots_in) f 13) K false [] [] [] [] (defBody s_knots_in) F_knots_in := by
  have C := bodyX_at (P := P) (w := w) (K := K) (mg := mg) (base := base) (k := 13) (qual := "knots_in") (f := f) sc_knots_in
  exact ssO (sR (eCall C (fn_knots_of T) (aC (eN 0) (aN))))
theorem fn_knots_in (T : Top K mg) : Fn P w K mg base 14 "knots_in" s_knots_in ["book"] (spP K g_knots_in) := by
  obtain ⟨f, fd, hF, hm, hB⟩ := T.d_knots_in
  exact ⟨f, fd, hF, fnP hF sc_knots_in (b_knots_in T f) (by rw [g_knots_in_eq]; exact gP_of rfl), hm, hB⟩
theorem b_greatest_size (T : Top K mg) (f : Addr) : DSs (bodyX P w K mg base N_greatest_size "greatest_size" (defScope s_greatest_size) f 0) K false [] [] [] [] (defBody s_greatest_size) F_greatest_size := by
  have C := bodyX_at (P := P) (w := w) (K := K) (mg := mg) (base := base) (k := 0) (qual := "greatest_size") (f := f) sc_greatest_size
  exact ssO (sR (eF (bMax C.1) C.1 T.z_max (aC (eL (aC (eI) (aStar C.1 (eLc [("knot", 1)] C.1 (diS C.1 (eN 0)) (gN 1 (C.blk _).1) (tsN) (eF bLen (C.blk _).1 T.z_len (aC (eN 1) (aN)))) (aN)))) (aN))))
theorem fn_greatest_size (T : Top K mg) : Fn P w K mg base 1 "greatest_size" s_greatest_size ["found"] (spP K g_greatest_size) := by
  obtain ⟨f, fd, hF, hm, hB⟩ := T.d_greatest_size
  exact ⟨f, fd, hF, fnP hF sc_greatest_size (b_greatest_size T f) (by rw [g_greatest_size_eq]; exact gP_of rfl), hm, hB⟩
theorem b_clash_size (T : Top K mg) (f : Addr) : DSs (bodyX P w K mg base N_clash_size "clash_size" (defScope s_clash_size) f 14) K false [] [] [] [] (defBody s_clash_size) F_clash_size := by
  have C := bodyX_at (P := P) (w := w) (K := K) (mg := mg) (base := base) (k := 14) (qual := "clash_size") (f := f) sc_clash_size
  exact ssC (sD ((eCall C (fn_need_book T) (aC (eN 0) (aN))).up))
      (ssO (sR (eCall C (fn_greatest_size T) (aC (eCall C (fn_knots_in T) (aC (eN 0) (aN))) (aN)))))
theorem fn_clash_size (T : Top K mg) : Fn P w K mg base 15 "clash_size" s_clash_size ["book"] (spP K g_clash_size) := by
  obtain ⟨f, fd, hF, hm, hB⟩ := T.d_clash_size
  exact ⟨f, fd, hF, fnP hF sc_clash_size (b_clash_size T f) (by rw [g_clash_size_eq]; exact gP_of rfl), hm, hB⟩
theorem b_law_source (T : Top K mg) (f : Addr) : DSs (bodyX P w K mg base N_law_source "_law_source" (defScope s_law_source) f 0) K true [] [] [] [] (defBody s_law_source) F_law_source := by
  have C := bodyX_at (P := P) (w := w) (K := K) (mg := mg) (base := base) (k := 0) (qual := "_law_source") (f := f) sc_law_source
  exact ssC (sSet 2 C.1 (eF bAbs C.1 T.z_abs (aC (eN 0) (aN))))
      (ssO (sRF (fL (amC ((eF (bMax C.1) C.1 T.z_max (aC (eI) (aC (eSub C.1 (eN 2) (ePow C.1 (eI) (eI))) (aN)))).up) (amC ((eAdd C.1 (eAdd C.1 (eMul C.1 (eMod C.1 (eTy tyInt C.1 T.z_int (aC (eN 2) (aN))) (eAdd C.1 (ePow C.1 (eI) (eI)) (eI))) (eI)) (eMul C.1 (eI) (eN 1))) (eTy tyInt C.1 T.z_int (aC (eC C.1 cLt (eN 0) (eI)) (aN)))).up) (amC ((eI).up) (amN)))))))
theorem fn_law_source (T : Top K mg) : Fn P w K mg base 1 "_law_source" s_law_source ["entry", "k"] (spF K g_law_source) := by
  obtain ⟨f, fd, hF, hm, hB⟩ := T.d_law_source
  exact ⟨f, fd, hF, fnF hF sc_law_source (b_law_source T f) (by rw [g_law_source_eq]; exact gF_of rfl), hm, hB⟩
theorem b_law_draw (T : Top K mg) (f : Addr) : DSs (bodyX P w K mg base N_law_draw "_law_draw" (defScope s_law_draw) f 0) K false [0] [0] [] [0] (defBody s_law_draw) F_law_draw := by
  have C := bodyX_at (P := P) (w := w) (K := K) (mg := mg) (base := base) (k := 0) (qual := "_law_draw") (f := f) sc_law_draw
  exact ssC (sIP (tC' C.1 cGt (eIxO 0 C.1 (eI)) (eI))
      (ssC (sSet 2 C.1 (eMod C.1 (eTy tyInt C.1 T.z_int (aC (eIxO 0 C.1 (eI)) (aN))) (eN 1)))
      (ssC (sStI 0 C.1 ((eFdiv C.1 (eIxO 0 C.1 (eI)) (eN 1)).up) ((eI).up))
      (ssO (sR (eN 2)))))
      (ssN))
      (ssC (sStI 0 C.1 ((eAdd C.1 (eIxO 0 C.1 (eI)) (eI)).up) ((eI).up))
      (ssC (sSet 3 C.1 (eMod C.1 (eTy tyInt C.1 T.z_int (aC (ePow C.1 (eAdd C.1 (eIxO 0 C.1 (eI)) (eMul C.1 (eI) (eIxO 0 C.1 (eI)))) (eI)) (aN))) (eAdd C.1 (ePow C.1 (eI) (eI)) (eI))))
      (ssC (sSet 3 C.1 (eMod C.1 (eTy tyInt C.1 T.z_int (aC (ePow C.1 (eAdd C.1 (eMul C.1 (eN 3) (eIxO 0 C.1 (eI))) (eI)) (eI)) (aN))) (eAdd C.1 (ePow C.1 (eI) (eI)) (eI))))
      (ssO (sR (eMod C.1 (eTy tyInt C.1 T.z_int (aC (eFdiv C.1 (eN 3) (eI)) (aN))) (eN 1)))))))
theorem fn_law_draw (T : Top K mg) : Fn P w K mg base 1 "_law_draw" s_law_draw ["source", "count"] (spM K g_law_draw) := by
  obtain ⟨f, fd, hF, hm, hB⟩ := T.d_law_draw
  exact ⟨f, fd, hF, fnM hF sc_law_draw (b_law_draw T f) (by decide) (by rw [g_law_draw_eq]; exact gM_of rfl), hm, hB⟩
theorem b_law_common (T : Top K mg) (f : Addr) : DSs (bodyX P w K mg base N_law_common "_law_common" (defScope s_law_common) f 0) K false [] [] [] [] (defBody s_law_common) F_law_common := by
  have C := bodyX_at (P := P) (w := w) (K := K) (mg := mg) (base := base) (k := 0) (qual := "_law_common") (f := f) sc_law_common
  exact ssC (sPr 0 1 C.1 (amC ((eF bAbs C.1 T.z_abs (aC (eN 0) (aN))).up) (amC ((eF bAbs C.1 T.z_abs (aC (eN 1) (aN))).up) (amN))))
      (ssC (sW C.1 ((tC' C.1 cGt (eN 1) (eI)).up)
      (ssO (sPr 0 1 C.1 (amC ((eN 1).up) (amC ((eMod C.1 (eTy tyInt C.1 T.z_int (aC (eN 0) (aN))) (eN 1)).up) (amN))))))
      (ssO (sR (eN 0))))
theorem fn_law_common (T : Top K mg) : Fn P w K mg base 1 "_law_common" s_law_common ["one", "two"] (spP K g_law_common) := by
  obtain ⟨f, fd, hF, hm, hB⟩ := T.d_law_common
  exact ⟨f, fd, hF, fnP hF sc_law_common (b_law_common T f) (by rw [g_law_common_eq]; exact gP_of rfl), hm, hB⟩
theorem b_law_least (T : Top K mg) (f : Addr) : DSs (bodyX P w K mg base N_law_least "_law_least" (defScope s_law_least) f 1) K false [] [] [] [] (defBody s_law_least) F_law_least := by
  have C := bodyX_at (P := P) (w := w) (K := K) (mg := mg) (base := base) (k := 1) (qual := "_law_least") (f := f) sc_law_least
  exact ssC (sSet 1 C.1 (eI))
      (ssC (sF C.1 ((diS C.1 (eN 0)).up) (gN 2 C.1)
      (ssFgt [2] (ssO (sSet 1 C.1 (eCall C (fn_law_common T) (aC (eN 1) (aC (eN 2) (aN))))))))
      (ssO (sR (eN 1))))
theorem fn_law_least (T : Top K mg) : Fn P w K mg base 2 "_law_least" s_law_least ["vector"] (spP K g_law_least) := by
  obtain ⟨f, fd, hF, hm, hB⟩ := T.d_law_least
  exact ⟨f, fd, hF, fnP hF sc_law_least (b_law_least T f) (by rw [g_law_least_eq]; exact gP_of rfl), hm, hB⟩
theorem b_law_vector (T : Top K mg) (f : Addr) : DSs (bodyX P w K mg base N_law_vector "_law_vector" (defScope s_law_vector) f 2) K false [0] [0] [] [0] (defBody s_law_vector) F_law_vector := by
  have C := bodyX_at (P := P) (w := w) (K := K) (mg := mg) (base := base) (k := 2) (qual := "_law_vector") (f := f) sc_law_vector
  exact ssC (sLcF 3 [("k", 4)] C.1 ((diR1 C.1 T.z_range (aC (eN 1) (aN))).up) (gN 4 (C.blk _).1) (tsmN) (mSub (C.blk _).1 (mCallM 0 (C.blk _) (fn_law_draw T) (amC ((eAdd (C.blk _).1 (eMul (C.blk _).1 (eI) (eN 2)) (eI)).up) (amN))) ((eN 2).up)))
      (ssC (sIP (tO 3 (m2 := [0]) (tC' C.1 (cEq C.1) (eCall C (fn_law_least T) (aC (eN 3) (aN))) (eI)))
      (ssO (sStI 3 C.1 (mIx C.1 ((eL (aC (eI) (aC (eNeg (eI)) (aN)))).up) (mCallM 0 C (fn_law_draw T) (amC ((eI).up) (amN)))) (mCallM 0 C (fn_law_draw T) (amC ((eN 1).up) (amN)))))
      (ssN))
      (ssShareA 3 (m2 := [0]) (ssC (sSet 5 C.1 (eCall C (fn_law_least T) (aC (eN 3) (aN))))
      (ssO (sR (eTy tyTup C.1 T.z_tuple (aC (eLc [("one", 6)] C.1 (diS C.1 (eN 3)) (gN 6 (C.blk _).1) (tsN) (eFdiv (C.blk _).1 (eN 6) (eN 5))) (aN))))))))
theorem fn_law_vector (T : Top K mg) : Fn P w K mg base 3 "_law_vector" s_law_vector ["source", "many", "wide"] (spM K g_law_vector) := by
  obtain ⟨f, fd, hF, hm, hB⟩ := T.d_law_vector
  exact ⟨f, fd, hF, fnM hF sc_law_vector (b_law_vector T f) (by decide) (by rw [g_law_vector_eq]; exact gM_of rfl), hm, hB⟩
theorem b_law_thin (T : Top K mg) (f : Addr) : DSs (bodyX P w K mg base N_law_thin "_law_thin" (defScope s_law_thin) f 3) K false [0] [0] [] [0] (defBody s_law_thin) F_law_thin := by
  have C := bodyX_at (P := P) (w := w) (K := K) (mg := mg) (base := base) (k := 3) (qual := "_law_thin") (f := f) sc_law_thin
  exact ssC (sLcM 2 [("one", 3)] C.1 (diSM C.1 (mCallM 0 C (fn_law_vector T) (amC ((eN 1).up) (amC (mIx C.1 ((eL (aC (eI) (aC (eI) (aN)))).up) (mCallM 0 C (fn_law_draw T) (amC ((eI).up) (amN)))) (amN))))) (gN 3 (C.blk _).1) (tsmN) (mMul (C.blk _).1 ((eN 3).up) (mCallM 0 (C.blk _) (fn_law_draw T) (amC ((eI).up) (amN)))))
      (ssC (sSet 4 C.1 (eCall C (fn_law_least T) (aC (eN 2) (aN))))
      (ssC (sIP (tC' C.1 (cEq C.1) (eN 4) (eI))
      (ssO (sR (eTy tyTup C.1 T.z_tuple (aC (eLc [("k", 5)] C.1 (diR1 C.1 T.z_range (aC (eN 1) (aN))) (gN 5 (C.blk _).1) (tsN) (eTy tyInt (C.blk _).1 T.z_int (aC (eC (C.blk _).1 (cEq (C.blk _).1) (eN 5) (eI)) (aN)))) (aN)))))
      (ssN))
      (ssO (sR (eTy tyTup C.1 T.z_tuple (aC (eLc [("one", 3)] C.1 (diS C.1 (eN 2)) (gN 3 (C.blk _).1) (tsN) (eFdiv (C.blk _).1 (eN 3) (eN 4))) (aN)))))))
theorem fn_law_thin (T : Top K mg) : Fn P w K mg base 4 "_law_thin" s_law_thin ["source", "many"] (spM K g_law_thin) := by
  obtain ⟨f, fd, hF, hm, hB⟩ := T.d_law_thin
  exact ⟨f, fd, hF, fnM hF sc_law_thin (b_law_thin T f) (by decide) (by rw [g_law_thin_eq]; exact gM_of rfl), hm, hB⟩
theorem b_law (T : Top K mg) (f : Addr) : DSs (bodyX P w K mg base N_law "law" (defScope s_law) f 15) K false [] [] [] [] (defBody s_law) F_law := by
  have C := bodyX_at (P := P) (w := w) (K := K) (mg := mg) (base := base) (k := 15) (qual := "law") (f := f) sc_law
  exact ssC (sF C.1 ((diE C.1 T.z_enumerate (aC (eSl C.1 (eAdd C.1 (eN 0) (eL (aC (eI) (aN)))) (oN) (oS (eF (bMax C.1) C.1 T.z_max (aC (eI) (aC (eF (bMin C.1) C.1 T.z_min (aC (eF bLen C.1 T.z_len (aC (eN 0) (aN))) (aC (eI) (aN)))) (aN)))))) (aN))).up) (gT C.1 (gsC (gN 1 C.1) (gsC (gN 2 C.1) (gsN))))
      (ssFgt [1, 2, 3, 4, 5, 6] (ssShare 3 (m2 := []) (ssC (sSetF 3 C.1 (fCallF C (fn_law_source T) (amC ((eN 2).up) (amC ((eN 1).up) (amN)))))
      (ssO (sF C.1 ((diR2 C.1 T.z_range (aC (eI) (aC (eI) (aN)))).up) (gN 4 C.1)
      (ssFgt [4, 5, 6] (ssO (sF C.1 (diSM C.1 (mT (amC (mCallM 3 C (fn_law_thin T) (amC ((eN 4).up) (amN))) (amC (mCallM 3 C (fn_law_vector T) (amC ((eN 4).up) (amC ((eI).up) (amN)))) (amN))))) (gN 5 C.1)
      (ssFgt [5, 6] (ssC (sSet 6 C.1 (eF (bMax C.1) C.1 T.z_max (aC (eI) (aC (eAdd C.1 (eI) (eF bLen C.1 T.z_len (aC (eLc [("one", 7)] C.1 (diS C.1 (eN 5)) (gN 7 (C.blk _).1) (tsO (tC' (C.blk _).1 (cNe (C.blk _).1) (eN 7) (eI))) (eN 7)) (aN)))) (aN)))))
      (ssC (sIP (tC' C.1 (cNe C.1) (eF (bRepr C.1) C.1 T.z_repr (aC (eL (aC (eCall C (fn_box_size T) (aC (eN 5) (aN))) (aC (eCallK C (fn_box_size T) kb_box_size_kind (kC (eN 5) (kN))) (aN)))) (aN))) (eF (bRepr C.1) C.1 T.z_repr (aC (eL (aC (eN 6) (aC (eN 6) (aN)))) (aN))))
      (ssO (sR (eB)))
      (ssN))
      (ssO (sIP ((wAnd (tC' C.1 cLt (eN 4) (eI)) (wAnd1 (tC' C.1 (cNe C.1) (eCall C (fn_clash_size T) (aC (eSortSet C T.z_sorted T.z_set (eAdd C.1 (eCall C (fn_boxes T) (aC (eN 4) (aN))) (eL (aC (eN 5) (aN))))) (aN))) (eN 6)))).t)
      (ssO (sR (eB)))
      (ssN)))))))))))))))
      (ssC (sSet 8 C.1 (eL (aC (eT (aC (eI) (aC (eI) (aC (eNeg (eI)) (aN))))) (aC (eT (aC (eI) (aN))) (aC (eT (aC (eNeg (eI)) (aN))) (aC (eT (aC (eI) (aC (eI) (aN)))) (aC (eT (aC (eI) (aC (eNeg (eI)) (aN)))) (aC (eT (aC (eI) (aC (eI) (aC (eI) (aC (eI) (aC (eI) (aN))))))) (aC (eT (aC (eI) (aC (eI) (aC (eI) (aC (eI) (aC (eNeg (eI)) (aN))))))) (aC (eT (aC (eI) (aC (eI) (aC (eI) (aC (eI) (aC (eI) (aN))))))) (aN)))))))))))
      (ssO (sR (eC C.1 (cEq C.1) (eLc [("vector", 5)] C.1 (diS C.1 (eN 8)) (gN 5 (C.blk _).1) (tsN) (eCall (C.blk _) (fn_box_size T) (aC (eN 5) (aN)))) (eL (aC (eI) (aC (eI) (aC (eI) (aC (eI) (aC (eI) (aC (eI) (aC (eI) (aC (eI) (aN))))))))))))))
theorem fn_law (T : Top K mg) : Fn P w K mg base 16 "law" s_law ["script"] (spP K g_law) := by
  obtain ⟨f, fd, hF, hm, hB⟩ := T.d_law
  exact ⟨f, fd, hF, fnP hF sc_law (b_law T f) (by rw [g_law_eq]; exact gP_of rfl), hm, hB⟩
end
theorem all_mk {l : PySem.W.OpenLaw} {w : World} {K : PySem.W.Frag} {h : Heap} {mg : Str → Option Value} {fa f0 f1 f2 f3 f4 f5 f6 f7 f8 f9 f10 f11 f12 f13 f14 f15 f16 f17 f18 f19 f20 f21 f22 f23 f24 : Addr} (X : K.In h) (G : h.Ns mainGlobals mg) (hfa : mg "law" = some (.ref fa))
    {od0 an0 od1 an1 od2 an2 od3 an3 od4 an4 od5 an5 od6 an6 od7 an7 od8 an8 od9 an9 od10 an10 od11 an11 od12 an12 od13 an13 od14 an14 od15 an15 od16 an16 od17 an17 od18 an18 od19 an19 od20 an20 od21 an21 od22 an22 od23 an23 od24 an24 : Option Addr} {sl0 sl1 sl2 sl3 sl4 sl5 sl6 sl7 sl8 sl9 sl10 sl11 sl12 sl13 sl14 sl15 sl16 sl17 sl18 sl19 sl20 sl21 sl22 sl23 sl24 : Array (Option Value)} {oc0 kV0 dc0 pm0 cd0 ct0 oc1 kV1 dc1 pm1 cd1 ct1 oc2 kV2 dc2 pm2 cd2 ct2 oc3 kV3 dc3 pm3 cd3 ct3 oc4 kV4 dc4 pm4 cd4 ct4 oc5 kV5 dc5 pm5 cd5 ct5 oc6 kV6 dc6 pm6 cd6 ct6 oc7 kV7 dc7 pm7 cd7 ct7 oc8 kV8 dc8 pm8 cd8 ct8 oc9 kV9 dc9 pm9 cd9 ct9 oc10 kV10 dc10 pm10 cd10 ct10 oc11 kV11 dc11 pm11 cd11 ct11 oc12 kV12 dc12 pm12 cd12 ct12 oc13 kV13 dc13 pm13 cd13 ct13 oc14 kV14 dc14 pm14 cd14 ct14 oc15 kV15 dc15 pm15 cd15 ct15 oc16 kV16 dc16 pm16 cd16 ct16 oc17 kV17 dc17 pm17 cd17 ct17 oc18 kV18 dc18 pm18 cd18 ct18 oc19 kV19 dc19 pm19 cd19 ct19 oc20 kV20 dc20 pm20 cd20 ct20 oc21 kV21 dc21 pm21 cd21 ct21 oc22 kV22 dc22 pm22 cd22 ct22 oc23 kV23 dc23 pm23 cd23 ct23 oc24 kV24 dc24 pm24 cd24 ct24 : Value}
    {t0 t1 t2 : Tok}
    (a0 : PySem.W.nsIn K mainGlobals "is_integer" = some (some (.ref f0))) (l0 : K.lookup f0 = some ⟨oc0, od0, .func (PySem.W.fnOf "is_integer" "is_integer" (defArgs s_is_integer) (defBody s_is_integer) (defScope s_is_integer) .none kV0 dc0 pm0 an0 cd0 ct0), sl0⟩) (c0 : PySem.W.codeIn K cd0 "is_integer" = true) (k0 : PySem.W.keepIn K (.ref f0) = true)
    (a1 : PySem.W.nsIn K mainGlobals "are_integers" = some (some (.ref f1))) (l1 : K.lookup f1 = some ⟨oc1, od1, .func (PySem.W.fnOf "are_integers" "are_integers" (defArgs s_are_integers) (defBody s_are_integers) (defScope s_are_integers) .none kV1 dc1 pm1 an1 cd1 ct1), sl1⟩) (c1 : PySem.W.codeIn K cd1 "are_integers" = true) (k1 : PySem.W.keepIn K (.ref f1) = true)
    (a2 : PySem.W.nsIn K mainGlobals "common" = some (some (.ref f2))) (l2 : K.lookup f2 = some ⟨oc2, od2, .func (PySem.W.fnOf "common" "common" (defArgs s_common) (defBody s_common) (defScope s_common) .none kV2 dc2 pm2 an2 cd2 ct2), sl2⟩) (c2 : PySem.W.codeIn K cd2 "common" = true) (k2 : PySem.W.keepIn K (.ref f2) = true)
    (a3 : PySem.W.nsIn K mainGlobals "divisor_of" = some (some (.ref f3))) (l3 : K.lookup f3 = some ⟨oc3, od3, .func (PySem.W.fnOf "divisor_of" "divisor_of" (defArgs s_divisor_of) (defBody s_divisor_of) (defScope s_divisor_of) .none kV3 dc3 pm3 an3 cd3 ct3), sl3⟩) (c3 : PySem.W.codeIn K cd3 "divisor_of" = true) (k3 : PySem.W.keepIn K (.ref f3) = true)
    (a4 : PySem.W.nsIn K mainGlobals "is_kind" = some (some (.ref f4))) (l4 : K.lookup f4 = some ⟨oc4, od4, .func (PySem.W.fnOf "is_kind" "is_kind" (defArgs s_is_kind) (defBody s_is_kind) (defScope s_is_kind) .none kV4 dc4 pm4 an4 cd4 ct4), sl4⟩) (c4 : PySem.W.codeIn K cd4 "is_kind" = true) (k4 : PySem.W.keepIn K (.ref f4) = true)
    (a5 : PySem.W.nsIn K mainGlobals "is_book" = some (some (.ref f5))) (l5 : K.lookup f5 = some ⟨oc5, od5, .func (PySem.W.fnOf "is_book" "is_book" (defArgs s_is_book) (defBody s_is_book) (defScope s_is_book) .none kV5 dc5 pm5 an5 cd5 ct5), sl5⟩) (c5 : PySem.W.codeIn K cd5 "is_book" = true) (k5 : PySem.W.keepIn K (.ref f5) = true)
    (a6 : PySem.W.nsIn K mainGlobals "need_book" = some (some (.ref f6))) (l6 : K.lookup f6 = some ⟨oc6, od6, .func (PySem.W.fnOf "need_book" "need_book" (defArgs s_need_book) (defBody s_need_book) (defScope s_need_book) .none kV6 dc6 pm6 an6 cd6 ct6), sl6⟩) (c6 : PySem.W.codeIn K cd6 "need_book" = true) (k6 : PySem.W.keepIn K (.ref f6) = true)
    (a7 : PySem.W.nsIn K mainGlobals "need_number" = some (some (.ref f7))) (l7 : K.lookup f7 = some ⟨oc7, od7, .func (PySem.W.fnOf "need_number" "need_number" (defArgs s_need_number) (defBody s_need_number) (defScope s_need_number) .none kV7 dc7 pm7 an7 cd7 ct7), sl7⟩) (c7 : PySem.W.codeIn K cd7 "need_number" = true) (k7 : PySem.W.keepIn K (.ref f7) = true)
    (a8 : PySem.W.nsIn K mainGlobals "with_items" = some (some (.ref f8))) (l8 : K.lookup f8 = some ⟨oc8, od8, .func (PySem.W.fnOf "with_items" "with_items" (defArgs s_with_items) (defBody s_with_items) (defScope s_with_items) .none kV8 dc8 pm8 an8 cd8 ct8), sl8⟩) (c8 : PySem.W.codeIn K cd8 "with_items" = true) (k8 : PySem.W.keepIn K (.ref f8) = true)
    (a9 : PySem.W.nsIn K mainGlobals "boxes" = some (some (.ref f9))) (l9 : K.lookup f9 = some ⟨oc9, od9, .func (PySem.W.fnOf "boxes" "boxes" (defArgs s_boxes) (defBody s_boxes) (defScope s_boxes) .none kV9 dc9 pm9 an9 cd9 ct9), sl9⟩) (c9 : PySem.W.codeIn K cd9 "boxes" = true) (k9 : PySem.W.keepIn K (.ref f9) = true)
    (a10 : PySem.W.nsIn K mainGlobals "box_size" = some (some (.ref f10))) (l10 : K.lookup f10 = some ⟨oc10, od10, .func (PySem.W.fnOf "box_size" "box_size" (defArgs s_box_size) (defBody s_box_size) (defScope s_box_size) .none kV10 dc10 pm10 an10 cd10 ct10), sl10⟩) (c10 : PySem.W.codeIn K cd10 "box_size" = true) (k10 : PySem.W.keepIn K (.ref f10) = true)
    (a11 : PySem.W.nsIn K mainGlobals "against" = some (some (.ref f11))) (l11 : K.lookup f11 = some ⟨oc11, od11, .func (PySem.W.fnOf "against" "against" (defArgs s_against) (defBody s_against) (defScope s_against) .none kV11 dc11 pm11 an11 cd11 ct11), sl11⟩) (c11 : PySem.W.codeIn K cd11 "against" = true) (k11 : PySem.W.keepIn K (.ref f11) = true)
    (a12 : PySem.W.nsIn K mainGlobals "row_of" = some (some (.ref f12))) (l12 : K.lookup f12 = some ⟨oc12, od12, .func (PySem.W.fnOf "row_of" "row_of" (defArgs s_row_of) (defBody s_row_of) (defScope s_row_of) .none kV12 dc12 pm12 an12 cd12 ct12), sl12⟩) (c12 : PySem.W.codeIn K cd12 "row_of" = true) (k12 : PySem.W.keepIn K (.ref f12) = true)
    (a13 : PySem.W.nsIn K mainGlobals "knots_behind" = some (some (.ref f13))) (l13 : K.lookup f13 = some ⟨oc13, od13, .func (PySem.W.fnOf "knots_behind" "knots_behind" (defArgs s_knots_behind) (defBody s_knots_behind) (defScope s_knots_behind) .none kV13 dc13 pm13 an13 cd13 ct13), sl13⟩) (c13 : PySem.W.codeIn K cd13 "knots_behind" = true) (k13 : PySem.W.keepIn K (.ref f13) = true)
    (a14 : PySem.W.nsIn K mainGlobals "knots_of" = some (some (.ref f14))) (l14 : K.lookup f14 = some ⟨oc14, od14, .func (PySem.W.fnOf "knots_of" "knots_of" (defArgs s_knots_of) (defBody s_knots_of) (defScope s_knots_of) .none kV14 dc14 pm14 an14 cd14 ct14), sl14⟩) (c14 : PySem.W.codeIn K cd14 "knots_of" = true) (k14 : PySem.W.keepIn K (.ref f14) = true)
    (a15 : PySem.W.nsIn K mainGlobals "knots_in" = some (some (.ref f15))) (l15 : K.lookup f15 = some ⟨oc15, od15, .func (PySem.W.fnOf "knots_in" "knots_in" (defArgs s_knots_in) (defBody s_knots_in) (defScope s_knots_in) .none kV15 dc15 pm15 an15 cd15 ct15), sl15⟩) (c15 : PySem.W.codeIn K cd15 "knots_in" = true) (k15 : PySem.W.keepIn K (.ref f15) = true)
    (a16 : PySem.W.nsIn K mainGlobals "greatest_size" = some (some (.ref f16))) (l16 : K.lookup f16 = some ⟨oc16, od16, .func (PySem.W.fnOf "greatest_size" "greatest_size" (defArgs s_greatest_size) (defBody s_greatest_size) (defScope s_greatest_size) .none kV16 dc16 pm16 an16 cd16 ct16), sl16⟩) (c16 : PySem.W.codeIn K cd16 "greatest_size" = true) (k16 : PySem.W.keepIn K (.ref f16) = true)
    (a17 : PySem.W.nsIn K mainGlobals "clash_size" = some (some (.ref f17))) (l17 : K.lookup f17 = some ⟨oc17, od17, .func (PySem.W.fnOf "clash_size" "clash_size" (defArgs s_clash_size) (defBody s_clash_size) (defScope s_clash_size) .none kV17 dc17 pm17 an17 cd17 ct17), sl17⟩) (c17 : PySem.W.codeIn K cd17 "clash_size" = true) (k17 : PySem.W.keepIn K (.ref f17) = true)
    (a18 : PySem.W.nsIn K mainGlobals "_law_source" = some (some (.ref f18))) (l18 : K.lookup f18 = some ⟨oc18, od18, .func (PySem.W.fnOf "_law_source" "_law_source" (defArgs s_law_source) (defBody s_law_source) (defScope s_law_source) .none kV18 dc18 pm18 an18 cd18 ct18), sl18⟩) (c18 : PySem.W.codeIn K cd18 "_law_source" = true) (k18 : PySem.W.keepIn K (.ref f18) = true)
    (a19 : PySem.W.nsIn K mainGlobals "_law_draw" = some (some (.ref f19))) (l19 : K.lookup f19 = some ⟨oc19, od19, .func (PySem.W.fnOf "_law_draw" "_law_draw" (defArgs s_law_draw) (defBody s_law_draw) (defScope s_law_draw) .none kV19 dc19 pm19 an19 cd19 ct19), sl19⟩) (c19 : PySem.W.codeIn K cd19 "_law_draw" = true) (k19 : PySem.W.keepIn K (.ref f19) = true)
    (a20 : PySem.W.nsIn K mainGlobals "_law_common" = some (some (.ref f20))) (l20 : K.lookup f20 = some ⟨oc20, od20, .func (PySem.W.fnOf "_law_common" "_law_common" (defArgs s_law_common) (defBody s_law_common) (defScope s_law_common) .none kV20 dc20 pm20 an20 cd20 ct20), sl20⟩) (c20 : PySem.W.codeIn K cd20 "_law_common" = true) (k20 : PySem.W.keepIn K (.ref f20) = true)
    (a21 : PySem.W.nsIn K mainGlobals "_law_least" = some (some (.ref f21))) (l21 : K.lookup f21 = some ⟨oc21, od21, .func (PySem.W.fnOf "_law_least" "_law_least" (defArgs s_law_least) (defBody s_law_least) (defScope s_law_least) .none kV21 dc21 pm21 an21 cd21 ct21), sl21⟩) (c21 : PySem.W.codeIn K cd21 "_law_least" = true) (k21 : PySem.W.keepIn K (.ref f21) = true)
    (a22 : PySem.W.nsIn K mainGlobals "_law_vector" = some (some (.ref f22))) (l22 : K.lookup f22 = some ⟨oc22, od22, .func (PySem.W.fnOf "_law_vector" "_law_vector" (defArgs s_law_vector) (defBody s_law_vector) (defScope s_law_vector) .none kV22 dc22 pm22 an22 cd22 ct22), sl22⟩) (c22 : PySem.W.codeIn K cd22 "_law_vector" = true) (k22 : PySem.W.keepIn K (.ref f22) = true)
    (a23 : PySem.W.nsIn K mainGlobals "_law_thin" = some (some (.ref f23))) (l23 : K.lookup f23 = some ⟨oc23, od23, .func (PySem.W.fnOf "_law_thin" "_law_thin" (defArgs s_law_thin) (defBody s_law_thin) (defScope s_law_thin) .none kV23 dc23 pm23 an23 cd23 ct23), sl23⟩) (c23 : PySem.W.codeIn K cd23 "_law_thin" = true) (k23 : PySem.W.keepIn K (.ref f23) = true)
    (a24 : PySem.W.nsIn K mainGlobals "law" = some (some (.ref f24))) (l24 : K.lookup f24 = some ⟨oc24, od24, .func (PySem.W.fnOf "law" "law" (defArgs s_law) (defBody s_law) (defScope s_law) .none kV24 dc24 pm24 an24 cd24 ct24), sl24⟩) (c24 : PySem.W.codeIn K cd24 "law" = true) (k24 : PySem.W.keepIn K (.ref f24) = true)
    (z0 : PySem.W.nsIn K mainGlobals "abs" = some none)
    (z1 : PySem.W.nsIn K mainGlobals "all" = some none)
    (z2 : PySem.W.nsIn K mainGlobals "any" = some none)
    (z3 : PySem.W.nsIn K mainGlobals "bool" = some none)
    (z4 : PySem.W.nsIn K mainGlobals "enumerate" = some none)
    (z5 : PySem.W.nsIn K mainGlobals "int" = some none)
    (z6 : PySem.W.nsIn K mainGlobals "isinstance" = some none)
    (z7 : PySem.W.nsIn K mainGlobals "len" = some none)
    (z8 : PySem.W.nsIn K mainGlobals "list" = some none)
    (z9 : PySem.W.nsIn K mainGlobals "max" = some none)
    (z10 : PySem.W.nsIn K mainGlobals "min" = some none)
    (z11 : PySem.W.nsIn K mainGlobals "range" = some none)
    (z12 : PySem.W.nsIn K mainGlobals "repr" = some none)
    (z13 : PySem.W.nsIn K mainGlobals "set" = some none)
    (z14 : PySem.W.nsIn K mainGlobals "sorted" = some none)
    (z15 : PySem.W.nsIn K mainGlobals "tuple" = some none)
    (z16 : PySem.W.nsIn K mainGlobals "zip" = some none)
    (cst0 : PySem.W.nsIn K mainGlobals "MOST_ITEM" = some (some (.int 20 t0)))
    (cst1 : PySem.W.nsIn K mainGlobals "MOST_KINDS" = some (some (.int 12 t1)))
    (cst2 : PySem.W.nsIn K mainGlobals "MOST_UNKNOWNS" = some (some (.int 5 t2)))
    : ∃ fd : FuncData, (∀ (s : Shared) (v : Value), BindsTo s fd ⟨[v], []⟩ [("script", v)]) ∧ ∀ base : Heap, K.In base → base.Ns mainGlobals mg → FnG l.prog w K mg base CX0 16 fa fd ["script"] (spP K g_law) := by
  have T : Top K mg := {
    d_is_integer := ⟨f0, _, fun_mk (st := s_is_integer) l0 c0 k0, PySem.W.mg_of X G a0, (fun_mk (st := s_is_integer) l0 c0 k0).binds (ps := ["value"]) fun _ _ _ _ _ _ us hl => match us, hl with | [_], _ => rfl⟩
    d_are_integers := ⟨f1, _, fun_mk (st := s_are_integers) l1 c1 k1, PySem.W.mg_of X G a1, (fun_mk (st := s_are_integers) l1 c1 k1).binds (ps := ["value", "many"]) fun _ _ _ _ _ _ us hl => match us, hl with | [_, _], _ => rfl⟩
    d_common := ⟨f2, _, fun_mk (st := s_common) l2 c2 k2, PySem.W.mg_of X G a2, (fun_mk (st := s_common) l2 c2 k2).binds (ps := ["one", "other"]) fun _ _ _ _ _ _ us hl => match us, hl with | [_, _], _ => rfl⟩
    d_divisor_of := ⟨f3, _, fun_mk (st := s_divisor_of) l3 c3 k3, PySem.W.mg_of X G a3, (fun_mk (st := s_divisor_of) l3 c3 k3).binds (ps := ["numbers"]) fun _ _ _ _ _ _ us hl => match us, hl with | [_], _ => rfl⟩
    d_is_kind := ⟨f4, _, fun_mk (st := s_is_kind) l4 c4 k4, PySem.W.mg_of X G a4, (fun_mk (st := s_is_kind) l4 c4 k4).binds (ps := ["value"]) fun _ _ _ _ _ _ us hl => match us, hl with | [_], _ => rfl⟩
    d_is_book := ⟨f5, _, fun_mk (st := s_is_book) l5 c5 k5, PySem.W.mg_of X G a5, (fun_mk (st := s_is_book) l5 c5 k5).binds (ps := ["value"]) fun _ _ _ _ _ _ us hl => match us, hl with | [_], _ => rfl⟩
    d_need_book := ⟨f6, _, fun_mk (st := s_need_book) l6 c6 k6, PySem.W.mg_of X G a6, (fun_mk (st := s_need_book) l6 c6 k6).binds (ps := ["book"]) fun _ _ _ _ _ _ us hl => match us, hl with | [_], _ => rfl⟩
    d_need_number := ⟨f7, _, fun_mk (st := s_need_number) l7 c7 k7, PySem.W.mg_of X G a7, (fun_mk (st := s_need_number) l7 c7 k7).binds (ps := ["value", "low", "high"]) fun _ _ _ _ _ _ us hl => match us, hl with | [_, _, _], _ => rfl⟩
    d_with_items := ⟨f8, _, fun_mk (st := s_with_items) l8 c8 k8, PySem.W.mg_of X G a8, (fun_mk (st := s_with_items) l8 c8 k8).binds (ps := ["size", "items"]) fun _ _ _ _ _ _ us hl => match us, hl with | [_, _], _ => rfl⟩
    d_boxes := ⟨f9, _, fun_mk (st := s_boxes) l9 c9 k9, PySem.W.mg_of X G a9, (fun_mk (st := s_boxes) l9 c9 k9).binds (ps := ["number"]) fun _ _ _ _ _ _ us hl => match us, hl with | [_], _ => rfl⟩
    d_box_size := ⟨f10, _, fun_mk (st := s_box_size) l10 c10 k10, PySem.W.mg_of X G a10, (fun_mk (st := s_box_size) l10 c10 k10).binds (ps := ["kind"]) fun _ _ _ _ _ _ us hl => match us, hl with | [_], _ => rfl⟩
    d_against := ⟨f11, _, fun_mk (st := s_against) l11 c11 k11, PySem.W.mg_of X G a11, (fun_mk (st := s_against) l11 c11 k11).binds (ps := ["basis", "vector"]) fun _ _ _ _ _ _ us hl => match us, hl with | [_, _], _ => rfl⟩
    d_row_of := ⟨f12, _, fun_mk (st := s_row_of) l12 c12 k12, PySem.W.mg_of X G a12, (fun_mk (st := s_row_of) l12 c12 k12).binds (ps := ["rest", "scale", "parts"]) fun _ _ _ _ _ _ us hl => match us, hl with | [_, _, _], _ => rfl⟩
    d_knots_behind := ⟨f13, _, fun_mk (st := s_knots_behind) l13 c13 k13, PySem.W.mg_of X G a13, (fun_mk (st := s_knots_behind) l13 c13 k13).binds (ps := ["vectors", "first", "chosen", "basis"]) fun _ _ _ _ _ _ us hl => match us, hl with | [_, _, _, _], _ => rfl⟩
    d_knots_of := ⟨f14, _, fun_mk (st := s_knots_of) l14 c14 k14, PySem.W.mg_of X G a14, (fun_mk (st := s_knots_of) l14 c14 k14).binds (ps := ["vectors"]) fun _ _ _ _ _ _ us hl => match us, hl with | [_], _ => rfl⟩
    d_knots_in := ⟨f15, _, fun_mk (st := s_knots_in) l15 c15 k15, PySem.W.mg_of X G a15, (fun_mk (st := s_knots_in) l15 c15 k15).binds (ps := ["book"]) fun _ _ _ _ _ _ us hl => match us, hl with | [_], _ => rfl⟩
    d_greatest_size := ⟨f16, _, fun_mk (st := s_greatest_size) l16 c16 k16, PySem.W.mg_of X G a16, (fun_mk (st := s_greatest_size) l16 c16 k16).binds (ps := ["found"]) fun _ _ _ _ _ _ us hl => match us, hl with | [_], _ => rfl⟩
    d_clash_size := ⟨f17, _, fun_mk (st := s_clash_size) l17 c17 k17, PySem.W.mg_of X G a17, (fun_mk (st := s_clash_size) l17 c17 k17).binds (ps := ["book"]) fun _ _ _ _ _ _ us hl => match us, hl with | [_], _ => rfl⟩
    d_law_source := ⟨f18, _, fun_mk (st := s_law_source) l18 c18 k18, PySem.W.mg_of X G a18, (fun_mk (st := s_law_source) l18 c18 k18).binds (ps := ["entry", "k"]) fun _ _ _ _ _ _ us hl => match us, hl with | [_, _], _ => rfl⟩
    d_law_draw := ⟨f19, _, fun_mk (st := s_law_draw) l19 c19 k19, PySem.W.mg_of X G a19, (fun_mk (st := s_law_draw) l19 c19 k19).binds (ps := ["source", "count"]) fun _ _ _ _ _ _ us hl => match us, hl with | [_, _], _ => rfl⟩
    d_law_common := ⟨f20, _, fun_mk (st := s_law_common) l20 c20 k20, PySem.W.mg_of X G a20, (fun_mk (st := s_law_common) l20 c20 k20).binds (ps := ["one", "two"]) fun _ _ _ _ _ _ us hl => match us, hl with | [_, _], _ => rfl⟩
    d_law_least := ⟨f21, _, fun_mk (st := s_law_least) l21 c21 k21, PySem.W.mg_of X G a21, (fun_mk (st := s_law_least) l21 c21 k21).binds (ps := ["vector"]) fun _ _ _ _ _ _ us hl => match us, hl with | [_], _ => rfl⟩
    d_law_vector := ⟨f22, _, fun_mk (st := s_law_vector) l22 c22 k22, PySem.W.mg_of X G a22, (fun_mk (st := s_law_vector) l22 c22 k22).binds (ps := ["source", "many", "wide"]) fun _ _ _ _ _ _ us hl => match us, hl with | [_, _, _], _ => rfl⟩
    d_law_thin := ⟨f23, _, fun_mk (st := s_law_thin) l23 c23 k23, PySem.W.mg_of X G a23, (fun_mk (st := s_law_thin) l23 c23 k23).binds (ps := ["source", "many"]) fun _ _ _ _ _ _ us hl => match us, hl with | [_, _], _ => rfl⟩
    d_law := ⟨f24, _, fun_mk (st := s_law) l24 c24 k24, PySem.W.mg_of X G a24, (fun_mk (st := s_law) l24 c24 k24).binds (ps := ["script"]) fun _ _ _ _ _ _ us hl => match us, hl with | [_], _ => rfl⟩
    z_abs := PySem.W.mg_none_of X G z0
    z_all := PySem.W.mg_none_of X G z1
    z_any := PySem.W.mg_none_of X G z2
    z_bool := PySem.W.mg_none_of X G z3
    z_enumerate := PySem.W.mg_none_of X G z4
    z_int := PySem.W.mg_none_of X G z5
    z_isinstance := PySem.W.mg_none_of X G z6
    z_len := PySem.W.mg_none_of X G z7
    z_list := PySem.W.mg_none_of X G z8
    z_max := PySem.W.mg_none_of X G z9
    z_min := PySem.W.mg_none_of X G z10
    z_range := PySem.W.mg_none_of X G z11
    z_repr := PySem.W.mg_none_of X G z12
    z_set := PySem.W.mg_none_of X G z13
    z_sorted := PySem.W.mg_none_of X G z14
    z_tuple := PySem.W.mg_none_of X G z15
    z_zip := PySem.W.mg_none_of X G z16
    c_MOST_ITEM := ⟨_, PySem.W.mg_of X G cst0⟩
    c_MOST_KINDS := ⟨_, PySem.W.mg_of X G cst1⟩
    c_MOST_UNKNOWNS := ⟨_, PySem.W.mg_of X G cst2⟩
  }
  have e := hfa.symm.trans (PySem.W.mg_of X G a24)
  cases e
  have F := fun_mk (st := s_law) l24 c24 k24
  exact ⟨_, fun s v => .of_eq rfl, fun base _ _ => fnP F sc_law (b_law T _) (by rw [g_law_eq]; exact gP_of rfl)⟩
end
end CSk21

/-! CsP: the mirrors evaluated; plain laws that many laws share. -/
namespace CS
open PySem
section
variable {a0 a1 a2 a3 a4 a5 a6 a7 a8 a9 a10 a11 a12 : Option D} {x : D} {r : En}
theorem gv_0 : gv 0 (some x :: r) = some x := rfl
theorem gv_1 : gv 1 (a0 :: some x :: r) = some x := rfl
theorem gv_2 : gv 2 (a0 :: a1 :: some x :: r) = some x := rfl
theorem gv_3 : gv 3 (a0 :: a1 :: a2 :: some x :: r) = some x := rfl
theorem gv_4 : gv 4 (a0 :: a1 :: a2 :: a3 :: some x :: r) = some x := rfl
theorem gv_5 : gv 5 (a0 :: a1 :: a2 :: a3 :: a4 :: some x :: r) = some x := rfl
theorem gv_6 : gv 6 (a0 :: a1 :: a2 :: a3 :: a4 :: a5 :: some x :: r) = some x := rfl
theorem gv_7 : gv 7 (a0 :: a1 :: a2 :: a3 :: a4 :: a5 :: a6 :: some x :: r) = some x := rfl
theorem gv_8 : gv 8 (a0 :: a1 :: a2 :: a3 :: a4 :: a5 :: a6 :: a7 :: some x :: r) = some x := rfl
theorem gv_9 : gv 9 (a0 :: a1 :: a2 :: a3 :: a4 :: a5 :: a6 :: a7 :: a8 :: some x :: r) = some x := rfl
theorem gv_10 : gv 10 (a0 :: a1 :: a2 :: a3 :: a4 :: a5 :: a6 :: a7 :: a8 :: a9 :: some x :: r) = some x := rfl
theorem gv_11 : gv 11 (a0 :: a1 :: a2 :: a3 :: a4 :: a5 :: a6 :: a7 :: a8 :: a9 :: a10 :: some x :: r) = some x := rfl
theorem gv_12 : gv 12 (a0 :: a1 :: a2 :: a3 :: a4 :: a5 :: a6 :: a7 :: a8 :: a9 :: a10 :: a11 :: some x :: r) = some x := rfl
theorem gv_13 : gv 13 (a0 :: a1 :: a2 :: a3 :: a4 :: a5 :: a6 :: a7 :: a8 :: a9 :: a10 :: a11 :: a12 :: some x :: r) = some x := rfl
end
theorem ev_pure {α : Type} (x : α) : (pure x : Option α) = some x := rfl
theorem ev_bind {α β : Type} (x : Option α) (f : α → Option β) : (x >>= f) = x.bind f := rfl
theorem dAdd_i (a b : Int) : dAdd (.int a) (.int b) = some (.int (a + b)) := rfl
theorem dI_pos {C : Int → Int → Prop} [∀ i j, Decidable (C i j)] {f : Int → Int → Int} {a b : Int} (h : C a b) : dI C f (.int a) (.int b) = some (.int (f a b)) := by
  show (if C a b then some (PyData.int (f a b)) else none) = _
  rw [if_pos h]
theorem dMod_pos {a b : Int} (h : 0 < b) : dMod (.int a) (.int b) = some (.int (a % b)) := by
  rw [show dMod (.int a) (.int b) = some (.int (a.fmod b)) from dI_pos (C := CNe0) (by unfold CNe0; omega), Int.fmod_eq_emod_of_nonneg a (by omega)]
theorem log2_small {n k : Nat} (h : n < 2 ^ k) (hk : k ≤ 9000) : n.log2 < 9000 := by
  by_cases c : n = 0
  · subst c; decide
  · exact Nat.lt_of_lt_of_le ((Nat.log2_lt c).mpr h) hk
theorem dFdiv_pos {a b : Int} (h : 0 < b) (h2 : b.natAbs < 2 ^ 200) : dFdiv (.int a) (.int b) = some (.int (a / b)) := by
  rw [show dFdiv (.int a) (.int b) = some (.int (a.fdiv b)) from dI_pos (C := COkDiv) ⟨by omega, log2_small h2 (by decide)⟩, Int.fdiv_eq_ediv_of_nonneg a (by omega)]
theorem bits_le {i : Int} {k : Nat} (h : i.natAbs < 2 ^ k) : Builtin.Int.intBits i ≤ k := intBits_le_iff.mpr h
theorem dMul_ok {a b : Int} (h : IntMulOk a b) : dMul (.int a) (.int b) = some (.int (a * b)) := by
  show (if IntMulOk a b then some (PyData.int (a * b)) else none) = _
  rw [if_pos h]
theorem mulOk_r {a b : Int} (h : b.natAbs < 2 ^ 64) : IntMulOk a b := IntMulOk.of_right (bits_le h)
theorem mulOk_l {a b : Int} (h : a.natAbs < 2 ^ 64) : IntMulOk a b := IntMulOk.of_left (bits_le h)
theorem dPow3 {a : Int} (h : a.natAbs < 2 ^ 1000) : dPow (.int a) (.int 3) = some (.int (a ^ 3)) := by
  refine dI_pos (C := CPowU) ⟨by omega, ?_⟩
  have := bits_le h
  omega
theorem dPowL {a : Int} {b : Int} {c : Int} (h : 0 ≤ b ∧ (Builtin.Int.intBits a : Int) * b ≤ 2 ^ 27) (hc : a ^ b.toNat = c) : dPow (.int a) (.int b) = some (.int c) := by
  subst hc
  exact dI_pos (C := CPowU) h
theorem atI_0 {x : D} {r : List D} : L2.atI (x :: r) 0 = some x := L2.atI_nat (j := 0) rfl
theorem atI_1 {x y : D} {r : List D} : L2.atI (x :: y :: r) 1 = some y := L2.atI_nat (j := 1) rfl
theorem atI_2 {x y z : D} {r : List D} : L2.atI (x :: y :: z :: r) 2 = some z := L2.atI_nat (j := 2) rfl
theorem atI_3 {x y z u : D} {r : List D} : L2.atI (x :: y :: z :: u :: r) 3 = some u := L2.atI_nat (j := 3) rfl
theorem ix30 : L2.ixN 3 0 = some 0 := rfl
theorem ix31 : L2.ixN 3 1 = some 1 := rfl
theorem ix32 : L2.ixN 3 2 = some 2 := rfl
theorem sized_le {ds : List D} (h : ds.length ≤ sizeLine) : sized ds = some ds := by unfold sized; rw [if_pos h]
/-! ### loops, comprehensions over typed lists -/
theorem forD_nil {f : D → En → Option Out} {env : En} : forD f [] env = some (.nx env) := rfl
theorem forD_go {f : D → En → Option Out} {x : D} {xs : List D} {env e : En} (h : f x env = some (.nx e)) : forD f (x :: xs) env = forD f xs e := by
  simp only [forD, h, Option.bind_some]
/-- a loop that goes through; I by what was walked -/
theorem forD_map {α : Type} (t : α → D) {f : D → En → Option Out} (xs : List α) (I : List α → En → Prop) {env : En} (h0 : I [] env) (hs : ∀ p x q e, xs = p ++ x :: q → I p e → ∃ e', f (t x) e = some (.nx e') ∧ I (p ++ [x]) e') :
    ∃ e', forD f (xs.map t) env = some (.nx e') ∧ I xs e' := by
  suffices h : ∀ q p e, xs = p ++ q → I p e → ∃ e', forD f (q.map t) e = some (.nx e') ∧ I xs e' from h xs [] env rfl h0
  intro q
  induction q with
  | nil => intro p e hx hI; rw [List.append_nil] at hx; subst hx; exact ⟨e, rfl, hI⟩
  | cons x q ih =>
    intro p e hx hI
    obtain ⟨e1, h1, hI1⟩ := hs p x q e hx hI
    obtain ⟨e2, h2, hI2⟩ := ih (p ++ [x]) e1 (by rw [hx]; simp) hI1
    exact ⟨e2, by rw [List.map_cons, forD_go h1]; exact h2, hI2⟩
theorem compD_map {α : Type} {t : α → D} {f : D → Option (Option D)} {g : α → Option D} : ∀ xs : List α, (∀ x ∈ xs, f (t x) = some (g x)) → compD f (xs.map t) = some (xs.filterMap g)
  | [], _ => rfl
  | x :: xs, h => by
    have h1 := h x List.mem_cons_self
    have h2 := compD_map xs fun y hy => h y (List.mem_cons_of_mem _ hy)
    simp only [List.map_cons, compD, h1, h2, Option.bind_some, Option.map_some]
    cases hg : g x with
    | none => rw [List.filterMap_cons_none hg]; rfl
    | some y => rw [List.filterMap_cons_some hg]; rfl
theorem lcF_map {vs : List Nat} {Fi : En → Option (List D)} {Gt : D → En → Option En} {Ft : En → Option Bool} {Fe : En → Option D} {env : En} {α : Type} (t : α → D) (xs : List α) (g : α → Option D) (hi : Fi env = some (xs.map t))
    (h : ∀ x ∈ xs, ((Gt (t x) (wipeE env vs)).bind fun e => (Ft e).bind fun b => if b = true then (Fe e).map some else some none) = some (g x)) : lcF vs Fi Gt Ft Fe env = some (.list (xs.filterMap g)) := by
  unfold lcF
  rw [hi, Option.bind_some, compD_map xs h, Option.map_some]
theorem enumD_map {α : Type} (t : α → D) (xs : List α) : enumD (xs.map t) = xs.zipIdx.map fun p => .tuple [.int (p.2 : Nat), t p.1] := by
  unfold enumD
  rw [List.zipIdx_map, List.map_map]
  rfl
theorem rangeD_0 (n : Nat) : rangeD 0 n = (List.range n).map fun i => .int (i : Nat) := by
  unfold rangeD
  simp
/-! ### data that compare, that are shown -/
theorem shaped_of {d : D} (h1 : d.canLay0 = true) (h2 : d.depth ≤ 64) : SeqAt.shaped d = true := by
  show (d.canLay0 && decide (d.depth ≤ 64)) = true
  rw [h1, decide_eq_true h2]; rfl
theorem dEq_str (neg : Bool) (a b : Str) : dEq neg (.str a) (.str b) = some (.bool (if neg then !(a == b) else a == b)) := rfl
theorem dEq_ok {neg : Bool} {a b : D} (ha : SeqAt.shaped (unS a) = true) (hb : SeqAt.shaped (unS b) = true) : dEq neg a b = some (.bool (if neg then !PyData.eqv (unS a) (unS b) else PyData.eqv (unS a) (unS b))) := by
  unfold dEq
  split
  · simp only [unS, PyData.eqv]
  · rw [if_pos ⟨ha, hb⟩]
theorem dEq_int (neg : Bool) (a b : Int) : dEq neg (.int a) (.int b) = some (.bool (if neg then !decide (a = b) else decide (a = b))) := by
  rw [dEq_ok (shaped_of (by rfl) (by simp [unS, PyData.depth])) (shaped_of (by rfl) (by simp [unS, PyData.depth]))]
  simp only [unS, PyData.eqv]
  rfl
theorem dEq_eqi (a b : Int) : dEq false (.int a) (.int b) = some (.bool (decide (a = b))) := dEq_int false a b
theorem dEq_nei (a b : Int) : dEq true (.int a) (.int b) = some (.bool (!decide (a = b))) := dEq_int true a b
theorem canLayAll_of : ∀ {ds : List D}, (∀ d ∈ ds, d.canLay0 = true) → PyData.canLayAll0 ds = true
  | [], _ => rfl
  | d :: ds, h => by
    simp only [PyData.canLayAll0, h d List.mem_cons_self, canLayAll_of (ds := ds) fun e he => h e (List.mem_cons_of_mem _ he), Bool.and_self]
theorem depthAll_le {k : Nat} : ∀ {ds : List D}, (∀ d ∈ ds, d.depth ≤ k) → PyData.depthAll ds ≤ k
  | [], _ => by simp [PyData.depthAll]
  | d :: ds, h => by
    simp only [PyData.depthAll]
    exact Nat.max_le.mpr ⟨h d List.mem_cons_self, depthAll_le fun e he => h e (List.mem_cons_of_mem _ he)⟩
theorem pairD_lay (p : Int × Int) : (pairD p).canLay0 = true := rfl
theorem pairD_depth (p : Int × Int) : (pairD p).depth = 1 := by simp [pairD, PyData.depth, PyData.depthAll]
theorem shaped_pairs (ps : List (Int × Int)) : SeqAt.shaped (.list (ps.map pairD)) = true := by
  refine shaped_of (canLayAll_of fun d hd => ?_) ?_
  · obtain ⟨p, _, rfl⟩ := List.mem_map.mp hd
    exact pairD_lay p
  · have := depthAll_le (k := 1) (ds := ps.map pairD) fun d hd => by
      obtain ⟨p, _, rfl⟩ := List.mem_map.mp hd
      rw [pairD_depth]; exact Nat.le_refl 1
    simp only [PyData.depth]
    omega
theorem shaped_ints (ns : List Int) : SeqAt.shaped (.list (ns.map PyData.int)) = true := by
  refine shaped_of (canLayAll_of fun d hd => ?_) ?_
  · obtain ⟨p, _, rfl⟩ := List.mem_map.mp hd
    rfl
  · have := depthAll_le (k := 0) (ds := ns.map PyData.int) fun d hd => by
      obtain ⟨p, _, rfl⟩ := List.mem_map.mp hd
      simp [PyData.depth]
    simp only [PyData.depth]
    omega
theorem shaped_nil : SeqAt.shaped (.list []) = true := shaped_ints []
theorem dEq_nil {neg : Bool} {ds : List D} (h : SeqAt.shaped (.list ds) = true) : dEq neg (.list ds) (.list []) = some (.bool (if neg then !ds.isEmpty else ds.isEmpty)) := by
  rw [dEq_ok (a := .list ds) (b := .list []) h shaped_nil]
  have : PyData.eqv (unS (.list ds)) (unS (.list [])) = ds.isEmpty := by
    show PyData.eqv (.list ds) (.list []) = ds.isEmpty
    cases ds <;> simp only [PyData.eqv, PyData.eqvAll, List.isEmpty_nil, List.isEmpty_cons]
  rw [this]
theorem dEq_same {neg : Bool} {a : D} (h : SeqAt.shaped (unS a) = true) : dEq neg a a = some (.bool (!neg)) := by
  rw [dEq_ok h h, SeqAt.eqv_refl _ (SeqAt.canLay_of_shaped h)]
  cases neg <;> rfl
theorem gAppend_ok {ds : List D} {d : D} (h : ds.length < sizeLine) : gAppend ds d = some (ds ++ [d]) := by unfold gAppend; rw [if_pos h]
/-- how long what is shown is -/
theorem shown_int {i : Int} {k : Nat} (h : i.natAbs < 10 ^ (k + 1)) : (PyData.shown (.int i)).length ≤ k + 2 := by
  have e := int_text_length_le10 (k := k + 1) (by omega) h
  show (Str.ofString (toString i)).length ≤ k + 2
  rw [ofString_length]; exact e
/-! ### what is reached -/
def Wp {α : Type} (x : Option α) (P : α → Prop) : Prop := ∃ a, x = some a ∧ P a
theorem Wp.some {α : Type} {a : α} {P : α → Prop} (h : P a) : Wp (some a) P := ⟨a, rfl, h⟩
theorem Wp.of {α : Type} {x : Option α} {a : α} {P : α → Prop} (e : x = .some a) (h : P a) : Wp x P := ⟨a, e, h⟩
theorem Wp.imp {α : Type} {x : Option α} {P Q : α → Prop} (h : Wp x P) (k : ∀ a, P a → Q a) : Wp x Q := let ⟨a, e, p⟩ := h; ⟨a, e, k a p⟩
def After (P : Out → Prop) (F : En → Option Out) : Out → Prop
  | .nx e => Wp (F e) P
  | o => P o
theorem wp_seq {F1 F2 : En → Option Out} {env : En} {P : Out → Prop} (h : Wp (F1 env) (After P F2)) : Wp (fSeq F1 F2 env) P := by
  obtain ⟨o, e, h⟩ := h
  unfold fSeq
  rw [e, Option.bind_some]
  cases o with
  | nx e => exact h
  | rt d own => exact ⟨_, rfl, h⟩
  | bk e => exact ⟨_, rfl, h⟩
  | ct e => exact ⟨_, rfl, h⟩
/-- a step that is worth e' -/
theorem wp_st {F1 F2 : En → Option Out} {env : En} {P : Out → Prop} (e' : En) (h : F1 env = some (.nx e')) (k : Wp (F2 e') P) : Wp (fSeq F1 F2 env) P := wp_seq ⟨_, h, k⟩
theorem wp_ifP {Ft : En → Option Bool} {F1 F2 : En → Option Out} {env : En} {P : Out → Prop} (b : Bool) (h : Ft env = some b) (h1 : b = true → Wp (F1 env) P) (h2 : b = false → Wp (F2 env) P) : Wp (sIfP Ft F1 F2 env) P := by
  unfold sIfP
  rw [h, Option.bind_some]
  cases b with
  | true => exact h1 rfl
  | false => exact h2 rfl
theorem wp_if {Ft : En → Option (Bool × En)} {F1 F2 : En → Option Out} {env : En} {P : Out → Prop} (b : Bool) (e : En) (h : Ft env = some (b, e)) (h1 : b = true → Wp (F1 e) P) (h2 : b = false → Wp (F2 e) P) : Wp (sIf Ft F1 F2 env) P := by
  unfold sIf
  rw [h, Option.bind_some]
  cases b with
  | true => exact h1 rfl
  | false => exact h2 rfl
def Turn (I : En → Prop) : Out → Prop
  | .nx e => I e
  | .ct e => I e
  | _ => False
theorem wp_forget {vs : List Nat} {F : En → Option Out} {env : En} {I : En → Prop} (h : Wp (F env) (Turn fun e => I (wipeE e vs))) : Wp (sForget vs F env) (Turn I) := by
  obtain ⟨o, e, h⟩ := h
  unfold sForget
  rw [e, Option.map_some]
  refine ⟨_, rfl, ?_⟩
  cases o with
  | nx e => exact h
  | ct e => exact h
  | rt d own => exact h.elim
  | bk e => exact h.elim
theorem forD_go2 {f : D → En → Option Out} {x : D} {xs : List D} {env : En} {I : En → Prop} (h : Wp (f x env) (Turn I)) : ∃ e, I e ∧ forD f (x :: xs) env = forD f xs e := by
  obtain ⟨o, e, h⟩ := h
  cases o with
  | nx e1 => exact ⟨e1, h, by simp only [forD, e, Option.bind_some]⟩
  | ct e1 => exact ⟨e1, h, by simp only [forD, e, Option.bind_some]⟩
  | rt d own => exact h.elim
  | bk e => exact h.elim
/-- a loop that goes through to its end; I by what was walked -/
theorem wp_for {α : Type} (t : α → D) (xs : List α) (I : List α → En → Prop) {Fi : En → Option (List D × En)} {Gt : D → En → Option En} {B : En → Option Out} {env env1 : En} (hi : Fi env = some (xs.map t, env1)) (h0 : I [] env1)
    (hs : ∀ p x q e, xs = p ++ x :: q → I p e → ∃ e0, Gt (t x) e = some e0 ∧ Wp (B e0) (Turn (I (p ++ [x])))) {P : Out → Prop} (k : ∀ e', I xs e' → P (.nx e')) : Wp (sFor Fi Gt B env) P := by
  suffices h : ∀ q p e, xs = p ++ q → I p e → ∃ e', forD (fun x e => (Gt x e).bind B) (q.map t) e = some (.nx e') ∧ I xs e' by
    obtain ⟨e', h1, h2⟩ := h xs [] env1 rfl h0
    refine ⟨.nx e', ?_, k e' h2⟩
    unfold sFor
    rw [hi, Option.bind_some]
    exact h1
  intro q
  induction q with
  | nil => intro p e hx hI; rw [List.append_nil] at hx; subst hx; exact ⟨e, rfl, hI⟩
  | cons x q ih =>
    intro p e hx hI
    obtain ⟨e0, h1, h2⟩ := hs p x q e hx hI
    obtain ⟨e1, hI1, he1⟩ := forD_go2 (f := fun x e => (Gt x e).bind B) (x := t x) (xs := q.map t) (env := e) (I := I (p ++ [x])) (by
      show Wp ((Gt (t x) e).bind B) _
      rw [h1]; exact h2)
    obtain ⟨e2, h3, hI2⟩ := ih (p ++ [x]) e1 (by rw [hx]; simp) hI1
    exact ⟨e2, by rw [List.map_cons, he1]; exact h3, hI2⟩
theorem rng1_nat {m : Nat} (hm : m ≤ sizeLine) : rng1 [PyData.int (m : Int)] = some ((List.range m).map fun i : Nat => PyData.int (i : Int)) := by
  have h : (m : Int) ≤ (sizeLine : Nat) ∧ -(2 ^ 62) ≤ (m : Int) := ⟨by omega, by omega⟩
  show (if (m : Int) ≤ (sizeLine : Nat) ∧ -(2 ^ 62) ≤ (m : Int) then some (rangeD 0 (m : Int).toNat) else none) = _
  rw [if_pos h, Int.toNat_natCast, rangeD_0]
theorem sizeL : sizeLine = 16777216 := rfl
theorem dMax2 (a b : Int) : dMax [.int a, .int b] = some (.int (if b > a then b else a)) := rfl
theorem dMin2 (a b : Int) : dMin [.int a, .int b] = some (.int (if b < a then b else a)) := rfl
theorem sz0 : sized [] = some [] := sized_le (by show 0 ≤ sizeLine; decide)
theorem sz1 {x0 : D} : sized [x0] = some [x0] := sized_le (by show 1 ≤ sizeLine; decide)
theorem sz2 {x0 x1 : D} : sized [x0, x1] = some [x0, x1] := sized_le (by show 2 ≤ sizeLine; decide)
theorem sz3 {x0 x1 x2 : D} : sized [x0, x1, x2] = some [x0, x1, x2] := sized_le (by show 3 ≤ sizeLine; decide)
theorem sz4 {x0 x1 x2 x3 : D} : sized [x0, x1, x2, x3] = some [x0, x1, x2, x3] := sized_le (by show 4 ≤ sizeLine; decide)
theorem sz5 {x0 x1 x2 x3 x4 : D} : sized [x0, x1, x2, x3, x4] = some [x0, x1, x2, x3, x4] := sized_le (by show 5 ≤ sizeLine; decide)
theorem sz6 {x0 x1 x2 x3 x4 x5 : D} : sized [x0, x1, x2, x3, x4, x5] = some [x0, x1, x2, x3, x4, x5] := sized_le (by show 6 ≤ sizeLine; decide)
theorem sz7 {x0 x1 x2 x3 x4 x5 x6 : D} : sized [x0, x1, x2, x3, x4, x5, x6] = some [x0, x1, x2, x3, x4, x5, x6] := sized_le (by show 7 ≤ sizeLine; decide)
theorem dEq_str_same (neg : Bool) (a : Str) : dEq neg (.str a) (.str a) = some (.bool (!neg)) := by
  rw [dEq_str, beq_self_eq_true]
  cases neg <;> rfl
/-! ### texts of data -/
theorem sum_le_mul {k : Nat} : ∀ {l : List Nat}, (∀ x ∈ l, x ≤ k) → l.sum ≤ l.length * k
  | [], _ => by simp
  | x :: l, h => by
    have h1 := h x List.mem_cons_self
    have h2 := sum_le_mul (l := l) fun y hy => h y (List.mem_cons_of_mem _ hy)
    rw [List.sum_cons, List.length_cons, Nat.add_mul]
    omega
theorem shown_list {ds : List D} {k : Nat} (h : ∀ d ∈ ds, d.shown.length ≤ k) : (PyData.shown (.list ds)).length ≤ ds.length * (k + 2) + 3 := by
  have e : PyData.shown (.list ds) = listText (PyData.shownAll ds) := by simp only [PyData.shown]
  rw [e, PyProof.Rows.shownAll_eq_map]
  have h1 := listText_len_le (ds.map PyData.shown)
  have h2 := sum_le_mul (k := k) (l := (ds.map PyData.shown).map (·.length)) (by
    intro x hx
    obtain ⟨y, hy, rfl⟩ := List.mem_map.mp hx
    obtain ⟨d, hd, rfl⟩ := List.mem_map.mp hy
    exact h d hd)
  simp only [List.length_map] at h1 h2
  rw [Nat.mul_add]
  omega
theorem shown_tuple {ds : List D} {k : Nat} (h : ∀ d ∈ ds, d.shown.length ≤ k) : (PyData.shown (.tuple ds)).length ≤ ds.length * (k + 2) + 3 := by
  have e : PyData.shown (.tuple ds) = tupleText (PyData.shownAll ds) := by simp only [PyData.shown]
  rw [e, PyProof.Rows.shownAll_eq_map]
  have h1 := tupleText_len_le (ds.map PyData.shown)
  have h2 := sum_le_mul (k := k) (l := (ds.map PyData.shown).map (·.length)) (by
    intro x hx
    obtain ⟨y, hy, rfl⟩ := List.mem_map.mp hx
    obtain ⟨d, hd, rfl⟩ := List.mem_map.mp hy
    exact h d hd)
  simp only [List.length_map] at h1 h2
  rw [Nat.mul_add]
  omega
theorem showableAll_of : ∀ {ds : List D}, (∀ d ∈ ds, d.showable = true) → PyData.showableAll ds = true
  | [], _ => rfl
  | d :: ds, h => by
    simp only [PyData.showableAll, h d List.mem_cons_self, showableAll_of (ds := ds) fun e he => h e (List.mem_cons_of_mem _ he), Bool.and_self]
theorem showable_int {i : Int} (h : i.natAbs < 2 ^ 1900) : (PyData.int i).showable = true := by
  simp only [PyData.showable, decide_eq_true_eq]
  by_cases c : i.natAbs = 0
  · rw [c]; decide
  · exact Nat.lt_of_lt_of_le ((Nat.log2_lt c).mpr h) (by decide)
theorem shows_of {d : D} (h1 : d.showable = true) (h2 : d.canLay0 = true) (h3 : d.depth ≤ 60) (h4 : d.shown.length ≤ sizeLine) : shows d = true := by
  unfold shows
  rw [h1, h2, decide_eq_true h3, decide_eq_true h4]
  rfl
theorem shows_ints {ns : List Int} (h : ns.length ≤ 1000) (hb : ∀ n ∈ ns, n.natAbs < 10 ^ 100) : shows (.list (ns.map PyData.int)) = true := by
  refine shows_of ?_ (SeqAt.canLay_of_shaped (shaped_ints ns)) ?_ ?_
  · simp only [PyData.showable]
    refine showableAll_of fun d hd => ?_
    obtain ⟨n, hn, rfl⟩ := List.mem_map.mp hd
    exact showable_int (Nat.lt_of_lt_of_le (hb n hn) (by decide))
  · have := depthAll_le (k := 0) (ds := ns.map PyData.int) fun d hd => by
      obtain ⟨p, _, rfl⟩ := List.mem_map.mp hd
      simp [PyData.depth]
    simp only [PyData.depth]
    omega
  · have := shown_list (ds := ns.map PyData.int) (k := 101) (fun d hd => by
      obtain ⟨n, hn, rfl⟩ := List.mem_map.mp hd
      exact shown_int (k := 99) (hb n hn))
    rw [List.length_map] at this
    have := sizeL
    omega
theorem shows_pairs {ps : List (Int × Int)} (h : ps.length ≤ 1000) (hb : ∀ p ∈ ps, p.1.natAbs < 10 ^ 100 ∧ p.2.natAbs < 10 ^ 100) : shows (.list (ps.map pairD)) = true := by
  refine shows_of ?_ (SeqAt.canLay_of_shaped (shaped_pairs ps)) ?_ ?_
  · simp only [PyData.showable]
    refine showableAll_of fun d hd => ?_
    obtain ⟨p, hp, rfl⟩ := List.mem_map.mp hd
    have := hb p hp
    simp only [pairD, PyData.showable, PyData.showableAll, Bool.and_true, Bool.and_eq_true]
    exact ⟨showable_int (Nat.lt_of_lt_of_le this.1 (by decide)), showable_int (Nat.lt_of_lt_of_le this.2 (by decide))⟩
  · have := depthAll_le (k := 1) (ds := ps.map pairD) fun d hd => by
      obtain ⟨p, _, rfl⟩ := List.mem_map.mp hd
      rw [pairD_depth]; exact Nat.le_refl 1
    simp only [PyData.depth]
    omega
  · have := shown_list (ds := ps.map pairD) (k := 209) (fun d hd => by
      obtain ⟨p, hp, rfl⟩ := List.mem_map.mp hd
      have h2 := hb p hp
      exact shown_tuple (ds := [.int p.1, .int p.2]) (k := 101) (by
        intro d hd
        simp at hd
        rcases hd with rfl | rfl
        · exact shown_int (k := 99) h2.1
        · exact shown_int (k := 99) h2.2))
    rw [List.length_map] at this
    have := sizeL
    omega
theorem dRepr_list {ds : List D} (h : shows (.list ds) = true) : dRepr [.list ds] = some (.str (PyData.shown (.list ds))) := by
  show (if shows (.list ds) = true then some (PyData.str (PyData.shown (.list ds))) else none) = _
  rw [if_pos h]
theorem cutD_to {ds : List D} {i : Nat} (h : i ≤ ds.length) : cutD ds none (some (i : Int)) = ds.take i := by
  unfold cutD
  rw [HT.sIx_none, HT.sIx_nat, List.drop_zero, Nat.sub_zero, Nat.min_eq_left h]
/-! ### isinstance -/
theorem isi_list_list {ds : List D} : dIsi "list" [(.list ds)] = some (.bool true) := by
  have e : L2.kitB "list" "list" = some true := by decide +kernel
  show (L2.kitB "list" "list").map PyData.bool = _
  rw [e] <;> rfl
theorem isi_list_tuple {ds : List D} : dIsi "tuple" [(.list ds)] = some (.bool false) := by
  have e : L2.kitB "list" "tuple" = some false := by decide +kernel
  show (L2.kitB "list" "tuple").map PyData.bool = _
  rw [e] <;> rfl
theorem isi_list_int {ds : List D} : dIsi "int" [(.list ds)] = some (.bool false) := by
  have e : L2.kitB "list" "int" = some false := by decide +kernel
  show (L2.kitB "list" "int").map PyData.bool = _
  rw [e] <;> rfl
theorem isi_list_bool {ds : List D} : dIsi "bool" [(.list ds)] = some (.bool false) := by
  have e : L2.kitB "list" "bool" = some false := by decide +kernel
  show (L2.kitB "list" "bool").map PyData.bool = _
  rw [e] <;> rfl
theorem isi_list_str {ds : List D} : dIsi "str" [(.list ds)] = some (.bool false) := by
  have e : L2.kitB "list" "str" = some false := by decide +kernel
  show (L2.kitB "list" "str").map PyData.bool = _
  rw [e] <;> rfl
theorem isi_tuple_list {ds : List D} : dIsi "list" [(.tuple ds)] = some (.bool false) := by
  have e : L2.kitB "tuple" "list" = some false := by decide +kernel
  show (L2.kitB "tuple" "list").map PyData.bool = _
  rw [e] <;> rfl
theorem isi_tuple_tuple {ds : List D} : dIsi "tuple" [(.tuple ds)] = some (.bool true) := by
  have e : L2.kitB "tuple" "tuple" = some true := by decide +kernel
  show (L2.kitB "tuple" "tuple").map PyData.bool = _
  rw [e] <;> rfl
theorem isi_tuple_int {ds : List D} : dIsi "int" [(.tuple ds)] = some (.bool false) := by
  have e : L2.kitB "tuple" "int" = some false := by decide +kernel
  show (L2.kitB "tuple" "int").map PyData.bool = _
  rw [e] <;> rfl
theorem isi_tuple_bool {ds : List D} : dIsi "bool" [(.tuple ds)] = some (.bool false) := by
  have e : L2.kitB "tuple" "bool" = some false := by decide +kernel
  show (L2.kitB "tuple" "bool").map PyData.bool = _
  rw [e] <;> rfl
theorem isi_tuple_str {ds : List D} : dIsi "str" [(.tuple ds)] = some (.bool false) := by
  have e : L2.kitB "tuple" "str" = some false := by decide +kernel
  show (L2.kitB "tuple" "str").map PyData.bool = _
  rw [e] <;> rfl
theorem isi_int_list {i : Int} : dIsi "list" [(.int i)] = some (.bool false) := by
  have e : L2.kitB "int" "list" = some false := by decide +kernel
  show (L2.kitB "int" "list").map PyData.bool = _
  rw [e] <;> rfl
theorem isi_int_tuple {i : Int} : dIsi "tuple" [(.int i)] = some (.bool false) := by
  have e : L2.kitB "int" "tuple" = some false := by decide +kernel
  show (L2.kitB "int" "tuple").map PyData.bool = _
  rw [e] <;> rfl
theorem isi_int_int {i : Int} : dIsi "int" [(.int i)] = some (.bool true) := by
  have e : L2.kitB "int" "int" = some true := by decide +kernel
  show (L2.kitB "int" "int").map PyData.bool = _
  rw [e] <;> rfl
theorem isi_int_bool {i : Int} : dIsi "bool" [(.int i)] = some (.bool false) := by
  have e : L2.kitB "int" "bool" = some false := by decide +kernel
  show (L2.kitB "int" "bool").map PyData.bool = _
  rw [e] <;> rfl
theorem isi_int_str {i : Int} : dIsi "str" [(.int i)] = some (.bool false) := by
  have e : L2.kitB "int" "str" = some false := by decide +kernel
  show (L2.kitB "int" "str").map PyData.bool = _
  rw [e] <;> rfl
theorem isi_bool_list {i : Bool} : dIsi "list" [(.bool i)] = some (.bool false) := by
  have e : L2.kitB "bool" "list" = some false := by decide +kernel
  show (L2.kitB "bool" "list").map PyData.bool = _
  rw [e] <;> rfl
theorem isi_bool_tuple {i : Bool} : dIsi "tuple" [(.bool i)] = some (.bool false) := by
  have e : L2.kitB "bool" "tuple" = some false := by decide +kernel
  show (L2.kitB "bool" "tuple").map PyData.bool = _
  rw [e] <;> rfl
theorem isi_bool_int {i : Bool} : dIsi "int" [(.bool i)] = some (.bool true) := by
  have e : L2.kitB "bool" "int" = some true := by decide +kernel
  show (L2.kitB "bool" "int").map PyData.bool = _
  rw [e] <;> rfl
theorem isi_bool_bool {i : Bool} : dIsi "bool" [(.bool i)] = some (.bool true) := by
  have e : L2.kitB "bool" "bool" = some true := by decide +kernel
  show (L2.kitB "bool" "bool").map PyData.bool = _
  rw [e] <;> rfl
theorem isi_bool_str {i : Bool} : dIsi "str" [(.bool i)] = some (.bool false) := by
  have e : L2.kitB "bool" "str" = some false := by decide +kernel
  show (L2.kitB "bool" "str").map PyData.bool = _
  rw [e] <;> rfl
theorem isi_str_list {i : Str} : dIsi "list" [(.str i)] = some (.bool false) := by
  have e : L2.kitB "str" "list" = some false := by decide +kernel
  show (L2.kitB "str" "list").map PyData.bool = _
  rw [e] <;> rfl
theorem isi_str_tuple {i : Str} : dIsi "tuple" [(.str i)] = some (.bool false) := by
  have e : L2.kitB "str" "tuple" = some false := by decide +kernel
  show (L2.kitB "str" "tuple").map PyData.bool = _
  rw [e] <;> rfl
theorem isi_str_int {i : Str} : dIsi "int" [(.str i)] = some (.bool false) := by
  have e : L2.kitB "str" "int" = some false := by decide +kernel
  show (L2.kitB "str" "int").map PyData.bool = _
  rw [e] <;> rfl
theorem isi_str_bool {i : Str} : dIsi "bool" [(.str i)] = some (.bool false) := by
  have e : L2.kitB "str" "bool" = some false := by decide +kernel
  show (L2.kitB "str" "bool").map PyData.bool = _
  rw [e] <;> rfl
theorem isi_str_str {i : Str} : dIsi "str" [(.str i)] = some (.bool true) := by
  have e : L2.kitB "str" "str" = some true := by decide +kernel
  show (L2.kitB "str" "str").map PyData.bool = _
  rw [e] <;> rfl
theorem isi_NoneType_list  : dIsi "list" [.none] = some (.bool false) := by
  have e : L2.kitB "NoneType" "list" = some false := by decide +kernel
  show (L2.kitB "NoneType" "list").map PyData.bool = _
  rw [e] <;> rfl
theorem isi_NoneType_tuple  : dIsi "tuple" [.none] = some (.bool false) := by
  have e : L2.kitB "NoneType" "tuple" = some false := by decide +kernel
  show (L2.kitB "NoneType" "tuple").map PyData.bool = _
  rw [e] <;> rfl
theorem isi_NoneType_int  : dIsi "int" [.none] = some (.bool false) := by
  have e : L2.kitB "NoneType" "int" = some false := by decide +kernel
  show (L2.kitB "NoneType" "int").map PyData.bool = _
  rw [e] <;> rfl
theorem isi_NoneType_bool  : dIsi "bool" [.none] = some (.bool false) := by
  have e : L2.kitB "NoneType" "bool" = some false := by decide +kernel
  show (L2.kitB "NoneType" "bool").map PyData.bool = _
  rw [e] <;> rfl
theorem isi_NoneType_str  : dIsi "str" [.none] = some (.bool false) := by
  have e : L2.kitB "NoneType" "str" = some false := by decide +kernel
  show (L2.kitB "NoneType" "str").map PyData.bool = _
  rw [e] <;> rfl
theorem dIx_p0 (p : Int × Int) : dIx (pairD p) (.int 0) = some (.int p.1) := atI_0
theorem dIx_p1 (p : Int × Int) : dIx (pairD p) (.int 1) = some (.int p.2) := atI_1
theorem dIx_t0 (a b : D) : dIx (.tuple [a, b]) (.int 0) = some a := atI_0
theorem dIx_t1 (a b : D) : dIx (.tuple [a, b]) (.int 1) = some b := atI_1
theorem wp_get {g : List D → Option D} {F : En → Option Out} {env : En} {ds : List D} {r : D} (h : g ds = (F env).bind resP) (w : Wp (F env) fun o => resP o = some r) : g ds = some r := by
  obtain ⟨o, e, k⟩ := w
  rw [h, e, Option.bind_some, k]
theorem dMul_list {a : List D} {k : Int} (h0 : -(2 ^ 63) ≤ k) (h1 : k < 2 ^ 63) (h : a.length * k.toNat ≤ sizeLine) : dMul (.list a) (.int k) = some (.list (repD k.toNat a)) := by
  show (if -(2 ^ 63) ≤ k ∧ k < 2 ^ 63 ∧ a.length * k.toNat ≤ sizeLine then some (PyData.list (repD k.toNat a)) else none) = _
  rw [if_pos ⟨h0, h1, h⟩]
/-- a while loop: I stays, mu falls -/
theorem wp_while {Ft : En → Option (Bool × En)} {B : En → Option Out} {env : En} {P : Out → Prop} (I : En → Prop) (mu : En → Nat) (h0 : I env)
    (hs : ∀ e, I e → (Ft e = some (false, e) ∧ P (.nx e)) ∨ (Ft e = some (true, e) ∧ Wp (B e) (Turn fun e' => I e' ∧ mu e' < mu e))) : Wp (sWhile Ft B env) P := by
  have key : ∀ (n : Nat) (e : En), mu e < n → I e → ∃ o, whileD Ft B n e = some o ∧ P o := by
    intro n
    induction n with
    | zero => intro e h; omega
    | succ n ih =>
      intro e h hI
      rcases hs e hI with ⟨h1, h2⟩ | ⟨h1, o, ho, ht⟩
      · refine ⟨.nx e, ?_, h2⟩
        simp only [whileD, h1, Option.bind_some, Bool.false_eq_true, if_false]
      · cases o with
        | nx e1 =>
          obtain ⟨hI1, hm⟩ := ht
          obtain ⟨o2, k1, k2⟩ := ih e1 (by omega) hI1
          exact ⟨o2, by simp only [whileD, h1, Option.bind_some, if_true, ho]; exact k1, k2⟩
        | ct e1 =>
          obtain ⟨hI1, hm⟩ := ht
          obtain ⟨o2, k1, k2⟩ := ih e1 (by omega) hI1
          exact ⟨o2, by simp only [whileD, h1, Option.bind_some, if_true, ho]; exact k1, k2⟩
        | rt _ _ => exact ht.elim
        | bk _ => exact ht.elim
  obtain ⟨o, h1, h2⟩ := key (mu env + 1) env (Nat.lt_succ_self _) h0
  exact ⟨o, sWhile_of h1, h2⟩
/-- range(1, n + 1) -/
theorem rng2_1 {n : Nat} {hi : Int} (h : hi = n + 1) (hn : n ≤ sizeLine) : rng2 [.int 1, .int hi] = some ((List.range n).map fun i : Nat => .int (1 + i)) := by
  subst h
  have hz := sizeL
  have h1 : ((n : Int) + 1 - 1).toNat = n := by omega
  unfold rng2
  dsimp only
  rw [if_pos (by refine ⟨?_, ?_, ?_, ?_, ?_⟩ <;> omega), h1]
  unfold rangeD
  rfl
/-- a comprehension that changes owned lists, one typed turn after the other -/
theorem compM_map {α : Type} {t : α → D} {f : D → En → Option (Option D × En)} (xs : List α) (I : List α → List D → En → Prop) {env : En} (h0 : I [] [] env)
    (hs : ∀ p x q acc e, xs = p ++ x :: q → I p acc e → ∃ r e', f (t x) e = some (r, e') ∧ I (p ++ [x]) (acc ++ r.toList) e') : ∃ ds e', compM f (xs.map t) env = some (ds, e') ∧ I xs ds e' := by
  suffices h : ∀ q p acc e, xs = p ++ q → I p acc e → ∃ ds e', compM f (q.map t) e = some (ds, e') ∧ I xs (acc ++ ds) e' by
    obtain ⟨ds, e', h1, h2⟩ := h xs [] [] env rfl h0
    exact ⟨ds, e', h1, by simpa using h2⟩
  intro q
  induction q with
  | nil => intro p acc e hx hI; rw [List.append_nil] at hx; subst hx; exact ⟨[], e, rfl, by simpa using hI⟩
  | cons x q ih =>
    intro p acc e hx hI
    obtain ⟨r, e1, h1, h2⟩ := hs p x q acc e hx hI
    obtain ⟨ds, e2, h3, h4⟩ := ih (p ++ [x]) (acc ++ r.toList) e1 (by rw [hx]; simp) h2
    refine ⟨r.toList ++ ds, e2, ?_, by rw [← List.append_assoc]; exact h4⟩
    simp only [List.map_cons, compM, h1, Option.bind_some, h3, Option.map_some]
theorem lcG_map {m vs : List Nat} {Fi : En → Option (List D × En)} {Gt : D → En → Option En} {Ft : En → Option (Bool × En)} {Fe : En → Option (D × En)} {env env1 : En} {α : Type} (t : α → D) (xs : List α) (I : List α → List D → En → Prop) (hi : Fi env = some (xs.map t, env1)) (h0 : I [] [] env1)
    (hs : ∀ p x q acc e, xs = p ++ x :: q → I p acc e → ∃ r e', turnM m vs Gt Ft Fe (t x) e = some (r, e') ∧ I (p ++ [x]) (acc ++ r.toList) e') : ∃ ds e', lcG m vs Fi Gt Ft Fe env = some (.list ds, e') ∧ I xs ds e' := by
  obtain ⟨ds, e', h1, h2⟩ := compM_map xs I h0 hs
  refine ⟨ds, e', ?_, h2⟩
  unfold lcG
  rw [hi, Option.bind_some, h1, Option.map_some]
theorem dNotN_i (i : Int) : dNotN (.int i) .none = some (.bool true) := rfl
theorem dNotN_n : dNotN .none .none = some (.bool false) := rfl
theorem kw2 {g : List D → Option D} {x y : D} : kwG 2 [1, 0] g [x, y] = g [y, x] := rfl
theorem filterMap_some_map {α : Type} (l : List α) (f : α → Int) : (l.filterMap fun i => some (PyData.int (f i))) = (l.map f).map PyData.int := by
  rw [List.map_map, ← List.filterMap_eq_map]
  rfl
theorem dSum_map (ns : List Int) : dSum [.list (ns.map PyData.int)] = some (.int ns.sum) := by
  show (asInts (ns.map PyData.int)).map (fun ns => PyData.int ns.sum) = _
  rw [asInts_map]
  rfl
theorem range_at {n : Nat} {p : List Nat} {x : Nat} {q : List Nat} (h : List.range n = p ++ x :: q) : x = p.length ∧ x < n ∧ p = List.range p.length := by
  have hl := congrArg List.length h
  simp at hl
  have h1 : (List.range n)[p.length]? = some x := by rw [h]; simp
  have h2 := List.getElem?_eq_some_iff.mp h1
  obtain ⟨h3, h4⟩ := h2
  simp at h3 h4
  refine ⟨h4.symm, by omega, ?_⟩
  have h5 : (List.range n).take p.length = p := by rw [h]; simp
  rw [List.take_range, Nat.min_eq_left (by omega)] at h5
  exact h5.symm
theorem it_rng2 {Fa : En → Option (List D)} {env : En} {n : Nat} {a : Int} (ha : Fa env = some [.int 1, .int a]) (h : a = n + 1) (hn : n ≤ sizeLine) : (Fa env).bind rng2 = some ((List.range n).map fun i : Nat => .int (1 + i)) := by
  rw [ha, Option.bind_some]
  exact rng2_1 h hn
/-- a turn of a loop that may end early -/
def TurnE (I : En → Prop) (P : Out → Prop) : Out → Prop
  | .nx e => I e
  | .ct e => I e
  | .bk e => P (.nx e)
  | .rt d own => P (.rt d own)
theorem wp_forE {α : Type} (t : α → D) (xs : List α) (I : List α → En → Prop) {Fi : En → Option (List D × En)} {Gt : D → En → Option En} {B : En → Option Out} {env env1 : En} {P : Out → Prop} (hi : Fi env = some (xs.map t, env1)) (h0 : I [] env1)
    (hs : ∀ p x q e, xs = p ++ x :: q → I p e → ∃ e0, Gt (t x) e = some e0 ∧ Wp (B e0) (TurnE (I (p ++ [x])) P)) (k : ∀ e', I xs e' → P (.nx e')) : Wp (sFor Fi Gt B env) P := by
  suffices h : ∀ q p e, xs = p ++ q → I p e → Wp (forD (fun x e => (Gt x e).bind B) (q.map t) e) P by
    unfold sFor
    rw [hi, Option.bind_some]
    exact h xs [] env1 rfl h0
  intro q
  induction q with
  | nil => intro p e hx hI; rw [List.append_nil] at hx; subst hx; exact ⟨.nx e, rfl, k e hI⟩
  | cons x q ih =>
    intro p e hx hI
    obtain ⟨e0, h1, o, ho, hP⟩ := hs p x q e hx hI
    rw [List.map_cons]
    simp only [forD, h1, Option.bind_some, ho]
    cases o with
    | nx e1 => exact ih (p ++ [x]) e1 (by rw [hx]; simp) hP
    | ct e1 => exact ih (p ++ [x]) e1 (by rw [hx]; simp) hP
    | bk e1 => exact ⟨_, rfl, hP⟩
    | rt d own => exact ⟨_, rfl, hP⟩
theorem wp_forgetE {vs : List Nat} {F : En → Option Out} {env : En} {I : En → Prop} {P : Out → Prop} (h : Wp (F env) (TurnE (fun e => I (wipeE e vs)) P)) : Wp (sForget vs F env) (TurnE I P) := by
  obtain ⟨o, e, h⟩ := h
  unfold sForget
  rw [e, Option.map_some]
  refine ⟨_, rfl, ?_⟩
  cases o with
  | nx e => exact h
  | ct e => exact h
  | rt d own => exact h
  | bk e => exact h
theorem Turn.imp {I J : En → Prop} (h : ∀ e, I e → J e) : ∀ o, Turn I o → Turn J o
  | .nx e, k => h e k
  | .ct e, k => h e k
  | .rt _ _, k => k.elim
  | .bk _, k => k.elim
end CS

/-! CsV: data that are shown, part by part. -/
namespace CS
open PySem
/-- data that can be shown: nested at most so deep, shown at most so long -/
structure Sh (n c : Nat) (d : D) : Prop where
  a : d.showable = true
  b : d.canLay0 = true
  dp : d.depth ≤ n
  l : d.shown.length ≤ c
theorem Sh.mono {n c n' c' : Nat} {d : D} (h : Sh n c d) (h1 : n ≤ n') (h2 : c ≤ c') : Sh n' c' d := ⟨h.a, h.b, Nat.le_trans h.dp h1, Nat.le_trans h.l h2⟩
theorem two_ten {i : Int} {k : Nat} (h : i.natAbs < 2 ^ k) : i.natAbs < 10 ^ (k + 1) :=
  Nat.lt_of_lt_of_le h (Nat.le_trans (Nat.pow_le_pow_left (by decide) k) (Nat.pow_le_pow_right (by decide) (Nat.le_succ k)))
theorem Sh.int {i : Int} {k : Nat} (h : i.natAbs < 2 ^ k) (hk : k ≤ 1900) : Sh 0 (k + 2) (.int i) :=
  ⟨showable_int (Nat.lt_of_lt_of_le h (Nat.pow_le_pow_right (by decide) hk)), rfl, by simp [PyData.depth], shown_int (two_ten h)⟩
theorem Sh.none : Sh 0 8 .none := ⟨by simp only [PyData.showable], rfl, by simp [PyData.depth], by simp only [PyData.shown]; decide⟩
theorem Sh.bool {b : Bool} : Sh 0 8 (.bool b) := ⟨by simp only [PyData.showable], rfl, by simp [PyData.depth], by cases b <;> (simp only [PyData.shown]; decide)⟩
theorem Sh.list {n c : Nat} {ds : List D} (h : ∀ d ∈ ds, Sh n c d) : Sh (n + 1) (ds.length * (c + 2) + 3) (.list ds) := by
  refine ⟨?_, canLayAll_of fun d hd => (h d hd).b, ?_, shown_list fun d hd => (h d hd).l⟩
  · simp only [PyData.showable]
    exact showableAll_of fun d hd => (h d hd).a
  · have := depthAll_le (k := n) fun d hd => (h d hd).dp
    simp only [PyData.depth]
    omega
theorem Sh.tuple {n c : Nat} {ds : List D} (h : ∀ d ∈ ds, Sh n c d) : Sh (n + 1) (ds.length * (c + 2) + 3) (.tuple ds) := by
  refine ⟨?_, canLayAll_of fun d hd => (h d hd).b, ?_, shown_tuple fun d hd => (h d hd).l⟩
  · simp only [PyData.showable]
    exact showableAll_of fun d hd => (h d hd).a
  · have := depthAll_le (k := n) fun d hd => (h d hd).dp
    simp only [PyData.depth]
    omega
theorem Sh.listL {n c m : Nat} {ds : List D} (h : ∀ d ∈ ds, Sh n c d) (hm : ds.length ≤ m) : Sh (n + 1) (m * (c + 2) + 3) (.list ds) :=
  (Sh.list h).mono (Nat.le_refl _) (Nat.add_le_add_right (Nat.mul_le_mul_right _ hm) 3)
theorem Sh.tupleL {n c m : Nat} {ds : List D} (h : ∀ d ∈ ds, Sh n c d) (hm : ds.length ≤ m) : Sh (n + 1) (m * (c + 2) + 3) (.tuple ds) :=
  (Sh.tuple h).mono (Nat.le_refl _) (Nat.add_le_add_right (Nat.mul_le_mul_right _ hm) 3)
theorem Sh.shows {n c : Nat} {d : D} (h : Sh n c d) (hn : n ≤ 60) (hc : c ≤ 16777216) : shows d = true := shows_of h.a h.b (Nat.le_trans h.dp hn) (Nat.le_trans h.l hc)
theorem Sh.shaped {n c : Nat} {d : D} (h : Sh n c d) (hn : n ≤ 64) : SeqAt.shaped d = true := shaped_of h.b (Nat.le_trans h.dp hn)
theorem Sh.pair {p : Int × Int} {k : Nat} (h : p.1.natAbs < 2 ^ k ∧ p.2.natAbs < 2 ^ k) (hk : k ≤ 1900) : Sh 1 (2 * (k + 4) + 3) (pairD p) :=
  Sh.tuple (ds := [.int p.1, .int p.2]) fun d hd => by
    rcases List.mem_cons.mp hd with rfl | hd
    · exact Sh.int h.1 hk
    · rcases List.mem_cons.mp hd with rfl | hd
      · exact Sh.int h.2 hk
      · simp at hd
theorem Sh.tup {ns : List Int} {k m : Nat} (h : ∀ x ∈ ns, x.natAbs < 2 ^ k) (hk : k ≤ 1900) (hm : ns.length ≤ m) : Sh 1 (m * (k + 4) + 3) (tupD ns) :=
  Sh.tupleL (fun d hd => by
    obtain ⟨x, hx, rfl⟩ := List.mem_map.mp hd
    exact Sh.int (h x hx) hk) (by rw [List.length_map]; exact hm)
theorem sh_all {n c : Nat} : ∀ x ∈ ([] : List D), Sh n c x := fun _ h => by simp at h
theorem sh_cons {n c : Nat} {d : D} {ds : List D} (h : Sh n c d) (h2 : ∀ x ∈ ds, Sh n c x) : ∀ x ∈ d :: ds, Sh n c x := fun x hx => by
  rcases List.mem_cons.mp hx with rfl | hx
  · exact h
  · exact h2 x hx
theorem dReprL {n c : Nat} {ds : List D} (h : Sh n c (.list ds)) (hn : n ≤ 60) (hc : c ≤ 16777216) : dRepr [.list ds] = some (.str (PyData.shown (.list ds))) := by
  show (if CS.shows (.list ds) = true then some (PyData.str (PyData.shown (.list ds))) else none) = _
  rw [if_pos (h.shows hn hc)]
theorem dReprT {n c : Nat} {ds : List D} (h : Sh n c (.tuple ds)) (hn : n ≤ 60) (hc : c ≤ 16777216) : dRepr [.tuple ds] = some (.str (PyData.shown (.tuple ds))) := by
  show (if CS.shows (.tuple ds) = true then some (PyData.str (PyData.shown (.tuple ds))) else none) = _
  rw [if_pos (h.shows hn hc)]
/-- x = [..] * k -/
theorem asg_rep {j : Nat} {op : D → D → Option D} {Fa Fb : En → Option D} {env e' : En} {a b d : D} (ha : Fa env = some a) (hb : Fb env = some b) (h : op a b = some d) (hj : j < env.length) (he : setE j d env = e') : sAsgF j (g2 op (up Fa) (up Fb)) env = some (.nx e') := by
  subst he
  unfold sAsgF g2 up
  simp only [ha, hb, h, Option.bind_some, Option.map_some]
  rw [if_pos hj]
end CS

namespace CSk21
open PySem CS
theorem absN (a : Int) : dAbs [.int a] = some (.int (a.natAbs : Nat)) := by
  show some (PyData.int (if a < 0 then -a else a)) = _
  congr 2
  split <;> omega
theorem common (a b : Int) : g_common [.int a, .int b] = some (.int (Int.gcd a b : Nat)) := by
  refine wp_get (F := F_common) (env := [some (.int a), some (.int b)]) (by rw [g_common_eq]; rfl) ?_
  unfold F_common
  refine wp_st [some (.int (a.natAbs : Nat)), some (.int (b.natAbs : Nat))] (by simp only [fSeq, fNext, sIf, sIfP, sAsg, sAsgP, sDrop, sPar, sPar3, sAug, sRet, sRetP, sRetO, sForget, sAsgF, sMut, sSetI, setAt, fIxO, fIxP, dAt, fFlat, gCallM, gPop, f2, g2, f1, fNil, fCons, gNilE, gConsE, fCall, gCall, fLst, fTup, gLstE, gTupE, fTest, gTest, fAnd, fOr, fNot, gAnd, gOr, gNot, fIf, gIf, fAndV, fOrV, fNotV, fChain, fRev, tgTup, tgCons, tgNil, up, asB, asL, asT, asI, asS, enumA, zipA, zipB, setE, Option.bind_some, Option.bind_none, Option.map_some, Option.map_none, owns, List.mapM_cons, List.mapM_nil, List.set_cons_zero, List.set_cons_succ, gv_0, gv_1, gv_2, gv_3, gv_4, gv_5, gv_6, gv_7, gv_8, gv_9, gv_10, gv_11, gv_12, gv_13, ev_pure, ev_bind, wipeE, dI0, resP, resM, resF, dCmp, dGt, dLt, dLe, dGe, ix30, ix31, ix32, List.length_cons, List.length_nil, Nat.zero_add, Nat.reduceAdd, List.set_cons_zero, Bool.true_eq_false, Bool.false_eq_true, if_true, if_false, ite_true, ite_false, decide_true, decide_false, dInt, sz0, sz1, sz2, sz3, sz4, sz5, sz6, sz7, absN]) ?_
  refine wp_seq (wp_while (fun e => ∃ x y : Nat, e = [some (.int (x : Nat)), some (.int (y : Nat))] ∧ Nat.gcd x y = Int.gcd a b) (fun e => match e with | [_, some (.int y)] => y.toNat | _ => 0) ⟨_, _, rfl, rfl⟩ ?_)
  rintro e ⟨x, y, rfl, hg⟩
  by_cases c : 0 < (y : Int)
  · refine .inr ⟨by simp only [fSeq, fNext, sIf, sIfP, sAsg, sAsgP, sDrop, sPar, sPar3, sAug, sRet, sRetP, sRetO, sForget, sAsgF, sMut, sSetI, setAt, fIxO, fIxP, dAt, fFlat, gCallM, gPop, f2, g2, f1, fNil, fCons, gNilE, gConsE, fCall, gCall, fLst, fTup, gLstE, gTupE, fTest, gTest, fAnd, fOr, fNot, gAnd, gOr, gNot, fIf, gIf, fAndV, fOrV, fNotV, fChain, fRev, tgTup, tgCons, tgNil, up, asB, asL, asT, asI, asS, enumA, zipA, zipB, setE, Option.bind_some, Option.bind_none, Option.map_some, Option.map_none, owns, List.mapM_cons, List.mapM_nil, List.set_cons_zero, List.set_cons_succ, gv_0, gv_1, gv_2, gv_3, gv_4, gv_5, gv_6, gv_7, gv_8, gv_9, gv_10, gv_11, gv_12, gv_13, ev_pure, ev_bind, wipeE, dI0, resP, resM, resF, dCmp, dGt, dLt, dLe, dGe, ix30, ix31, ix32, List.length_cons, List.length_nil, Nat.zero_add, Nat.reduceAdd, List.set_cons_zero, Bool.true_eq_false, Bool.false_eq_true, if_true, if_false, ite_true, ite_false, decide_true, decide_false, dInt, sz0, sz1, sz2, sz3, sz4, sz5, sz6, sz7, decide_eq_true c], ?_⟩
    unfold B1_common
    refine Wp.of (a := .nx [some (.int (y : Nat)), some (.int ((x : Int) % (y : Int)))]) (by simp only [fSeq, fNext, sIf, sIfP, sAsg, sAsgP, sDrop, sPar, sPar3, sAug, sRet, sRetP, sRetO, sForget, sAsgF, sMut, sSetI, setAt, fIxO, fIxP, dAt, fFlat, gCallM, gPop, f2, g2, f1, fNil, fCons, gNilE, gConsE, fCall, gCall, fLst, fTup, gLstE, gTupE, fTest, gTest, fAnd, fOr, fNot, gAnd, gOr, gNot, fIf, gIf, fAndV, fOrV, fNotV, fChain, fRev, tgTup, tgCons, tgNil, up, asB, asL, asT, asI, asS, enumA, zipA, zipB, setE, Option.bind_some, Option.bind_none, Option.map_some, Option.map_none, owns, List.mapM_cons, List.mapM_nil, List.set_cons_zero, List.set_cons_succ, gv_0, gv_1, gv_2, gv_3, gv_4, gv_5, gv_6, gv_7, gv_8, gv_9, gv_10, gv_11, gv_12, gv_13, ev_pure, ev_bind, wipeE, dI0, resP, resM, resF, dCmp, dGt, dLt, dLe, dGe, ix30, ix31, ix32, List.length_cons, List.length_nil, Nat.zero_add, Nat.reduceAdd, List.set_cons_zero, Bool.true_eq_false, Bool.false_eq_true, if_true, if_false, ite_true, ite_false, decide_true, decide_false, dInt, sz0, sz1, sz2, sz3, sz4, sz5, sz6, sz7, dMod_pos c]) ?_
    refine ⟨⟨y, x % y, by rw [Int.natCast_emod], ?_⟩, ?_⟩
    · rw [← hg, Nat.gcd_comm x y, Nat.gcd_rec y x, Nat.gcd_comm]
    · show ((x : Int) % (y : Int)).toNat < (y : Int).toNat
      have := Int.emod_lt_of_pos (x : Int) c
      have := Int.emod_nonneg (x : Int) (show (y : Int) ≠ 0 by omega)
      omega
  · have hy : y = 0 := by omega
    subst hy
    refine .inl ⟨by simp only [fSeq, fNext, sIf, sIfP, sAsg, sAsgP, sDrop, sPar, sPar3, sAug, sRet, sRetP, sRetO, sForget, sAsgF, sMut, sSetI, setAt, fIxO, fIxP, dAt, fFlat, gCallM, gPop, f2, g2, f1, fNil, fCons, gNilE, gConsE, fCall, gCall, fLst, fTup, gLstE, gTupE, fTest, gTest, fAnd, fOr, fNot, gAnd, gOr, gNot, fIf, gIf, fAndV, fOrV, fNotV, fChain, fRev, tgTup, tgCons, tgNil, up, asB, asL, asT, asI, asS, enumA, zipA, zipB, setE, Option.bind_some, Option.bind_none, Option.map_some, Option.map_none, owns, List.mapM_cons, List.mapM_nil, List.set_cons_zero, List.set_cons_succ, gv_0, gv_1, gv_2, gv_3, gv_4, gv_5, gv_6, gv_7, gv_8, gv_9, gv_10, gv_11, gv_12, gv_13, ev_pure, ev_bind, wipeE, dI0, resP, resM, resF, dCmp, dGt, dLt, dLe, dGe, ix30, ix31, ix32, List.length_cons, List.length_nil, Nat.zero_add, Nat.reduceAdd, List.set_cons_zero, Bool.true_eq_false, Bool.false_eq_true, if_true, if_false, ite_true, ite_false, decide_true, decide_false, dInt, sz0, sz1, sz2, sz3, sz4, sz5, sz6, sz7, decide_eq_false c], ?_⟩
    refine Wp.of (a := .rt (.int (x : Nat)) []) (by simp only [fSeq, fNext, sIf, sIfP, sAsg, sAsgP, sDrop, sPar, sPar3, sAug, sRet, sRetP, sRetO, sForget, sAsgF, sMut, sSetI, setAt, fIxO, fIxP, dAt, fFlat, gCallM, gPop, f2, g2, f1, fNil, fCons, gNilE, gConsE, fCall, gCall, fLst, fTup, gLstE, gTupE, fTest, gTest, fAnd, fOr, fNot, gAnd, gOr, gNot, fIf, gIf, fAndV, fOrV, fNotV, fChain, fRev, tgTup, tgCons, tgNil, up, asB, asL, asT, asI, asS, enumA, zipA, zipB, setE, Option.bind_some, Option.bind_none, Option.map_some, Option.map_none, owns, List.mapM_cons, List.mapM_nil, List.set_cons_zero, List.set_cons_succ, gv_0, gv_1, gv_2, gv_3, gv_4, gv_5, gv_6, gv_7, gv_8, gv_9, gv_10, gv_11, gv_12, gv_13, ev_pure, ev_bind, wipeE, dI0, resP, resM, resF, dCmp, dGt, dLt, dLe, dGe, ix30, ix31, ix32, List.length_cons, List.length_nil, Nat.zero_add, Nat.reduceAdd, List.set_cons_zero, Bool.true_eq_false, Bool.false_eq_true, if_true, if_false, ite_true, ite_false, decide_true, decide_false, dInt, sz0, sz1, sz2, sz3, sz4, sz5, sz6, sz7]) ?_
    rw [Nat.gcd_zero_right] at hg
    rw [← hg]
    rfl
/-- the common divisor of all -/
def gcdL : List Int → Nat
  | [] => 0
  | x :: r => Int.gcd x (gcdL r)
def gcdF (l : List Int) : Nat := l.foldl (fun (g : Nat) x => Int.gcd g x) 0
theorem divisor {l : List Int} {d : D} (hd : asS d = some (l.map PyData.int)) : g_divisor_of [d] = some (.int (gcdF l : Nat)) := by
  refine wp_get (F := F_divisor_of) (env := [some d, none, none]) (by rw [g_divisor_of_eq]; rfl) ?_
  unfold F_divisor_of
  refine wp_st [some d, some (.int 0), none] (by simp only [fSeq, fNext, sIf, sIfP, sAsg, sAsgP, sDrop, sPar, sPar3, sAug, sRet, sRetP, sRetO, sForget, sAsgF, sMut, sSetI, setAt, fIxO, fIxP, dAt, fFlat, gCallM, gPop, f2, g2, f1, fNil, fCons, gNilE, gConsE, fCall, gCall, fLst, fTup, gLstE, gTupE, fTest, gTest, fAnd, fOr, fNot, gAnd, gOr, gNot, fIf, gIf, fAndV, fOrV, fNotV, fChain, fRev, tgTup, tgCons, tgNil, up, asB, asL, asT, asI, asS, enumA, zipA, zipB, setE, Option.bind_some, Option.bind_none, Option.map_some, Option.map_none, owns, List.mapM_cons, List.mapM_nil, List.set_cons_zero, List.set_cons_succ, gv_0, gv_1, gv_2, gv_3, gv_4, gv_5, gv_6, gv_7, gv_8, gv_9, gv_10, gv_11, gv_12, gv_13, ev_pure, ev_bind, wipeE, dI0, resP, resM, resF, dCmp, dGt, dLt, dLe, dGe, ix30, ix31, ix32, List.length_cons, List.length_nil, Nat.zero_add, Nat.reduceAdd, List.set_cons_zero, Bool.true_eq_false, Bool.false_eq_true, if_true, if_false, ite_true, ite_false, decide_true, decide_false, dInt, sz0, sz1, sz2, sz3, sz4, sz5, sz6, sz7]) ?_
  refine wp_seq (wp_for PyData.int l (fun p e => e = [some d, some (.int (gcdF p : Nat)), none]) (env1 := [some d, some (.int 0), none]) (by simp only [up, gv_0, Option.bind_some, hd, Option.map_some]) rfl ?_ ?_)
  · rintro p x q e hx rfl
    refine ⟨[some d, some (.int (gcdF p : Nat)), some (.int x)], by simp only [fSeq, fNext, sIf, sIfP, sAsg, sAsgP, sDrop, sPar, sPar3, sAug, sRet, sRetP, sRetO, sForget, sAsgF, sMut, sSetI, setAt, fIxO, fIxP, dAt, fFlat, gCallM, gPop, f2, g2, f1, fNil, fCons, gNilE, gConsE, fCall, gCall, fLst, fTup, gLstE, gTupE, fTest, gTest, fAnd, fOr, fNot, gAnd, gOr, gNot, fIf, gIf, fAndV, fOrV, fNotV, fChain, fRev, tgTup, tgCons, tgNil, up, asB, asL, asT, asI, asS, enumA, zipA, zipB, setE, Option.bind_some, Option.bind_none, Option.map_some, Option.map_none, owns, List.mapM_cons, List.mapM_nil, List.set_cons_zero, List.set_cons_succ, gv_0, gv_1, gv_2, gv_3, gv_4, gv_5, gv_6, gv_7, gv_8, gv_9, gv_10, gv_11, gv_12, gv_13, ev_pure, ev_bind, wipeE, dI0, resP, resM, resF, dCmp, dGt, dLt, dLe, dGe, ix30, ix31, ix32, List.length_cons, List.length_nil, Nat.zero_add, Nat.reduceAdd, List.set_cons_zero, Bool.true_eq_false, Bool.false_eq_true, if_true, if_false, ite_true, ite_false, decide_true, decide_false, dInt, sz0, sz1, sz2, sz3, sz4, sz5, sz6, sz7], ?_⟩
    unfold B1_divisor_of
    refine wp_forget (Wp.of (a := .nx [some d, some (.int (gcdF (p ++ [x]) : Nat)), some (.int x)]) ?_ ?_)
    · have : gcdF (p ++ [x]) = Int.gcd (gcdF p : Nat) x := by unfold gcdF; rw [List.foldl_append]; rfl
      simp only [fSeq, fNext, sIf, sIfP, sAsg, sAsgP, sDrop, sPar, sPar3, sAug, sRet, sRetP, sRetO, sForget, sAsgF, sMut, sSetI, setAt, fIxO, fIxP, dAt, fFlat, gCallM, gPop, f2, g2, f1, fNil, fCons, gNilE, gConsE, fCall, gCall, fLst, fTup, gLstE, gTupE, fTest, gTest, fAnd, fOr, fNot, gAnd, gOr, gNot, fIf, gIf, fAndV, fOrV, fNotV, fChain, fRev, tgTup, tgCons, tgNil, up, asB, asL, asT, asI, asS, enumA, zipA, zipB, setE, Option.bind_some, Option.bind_none, Option.map_some, Option.map_none, owns, List.mapM_cons, List.mapM_nil, List.set_cons_zero, List.set_cons_succ, gv_0, gv_1, gv_2, gv_3, gv_4, gv_5, gv_6, gv_7, gv_8, gv_9, gv_10, gv_11, gv_12, gv_13, ev_pure, ev_bind, wipeE, dI0, resP, resM, resF, dCmp, dGt, dLt, dLe, dGe, ix30, ix31, ix32, List.length_cons, List.length_nil, Nat.zero_add, Nat.reduceAdd, List.set_cons_zero, Bool.true_eq_false, Bool.false_eq_true, if_true, if_false, ite_true, ite_false, decide_true, decide_false, dInt, sz0, sz1, sz2, sz3, sz4, sz5, sz6, sz7, common, this]
    · rfl
  · rintro e' rfl
    exact Wp.of (a := .rt (.int (gcdF l : Nat)) []) (by simp only [fSeq, fNext, sIf, sIfP, sAsg, sAsgP, sDrop, sPar, sPar3, sAug, sRet, sRetP, sRetO, sForget, sAsgF, sMut, sSetI, setAt, fIxO, fIxP, dAt, fFlat, gCallM, gPop, f2, g2, f1, fNil, fCons, gNilE, gConsE, fCall, gCall, fLst, fTup, gLstE, gTupE, fTest, gTest, fAnd, fOr, fNot, gAnd, gOr, gNot, fIf, gIf, fAndV, fOrV, fNotV, fChain, fRev, tgTup, tgCons, tgNil, up, asB, asL, asT, asI, asS, enumA, zipA, zipB, setE, Option.bind_some, Option.bind_none, Option.map_some, Option.map_none, owns, List.mapM_cons, List.mapM_nil, List.set_cons_zero, List.set_cons_succ, gv_0, gv_1, gv_2, gv_3, gv_4, gv_5, gv_6, gv_7, gv_8, gv_9, gv_10, gv_11, gv_12, gv_13, ev_pure, ev_bind, wipeE, dI0, resP, resM, resF, dCmp, dGt, dLt, dLe, dGe, ix30, ix31, ix32, List.length_cons, List.length_nil, Nat.zero_add, Nat.reduceAdd, List.set_cons_zero, Bool.true_eq_false, Bool.false_eq_true, if_true, if_false, ite_true, ite_false, decide_true, decide_false, dInt, sz0, sz1, sz2, sz3, sz4, sz5, sz6, sz7]) rfl
theorem isint (i : Int) : g_is_integer [.int i] = some (.bool true) := by
  rw [g_is_integer_eq]
  show (F_is_integer [some (.int i)]).bind resP = _
  unfold F_is_integer
  simp only [fSeq, fNext, sIf, sIfP, sAsg, sAsgP, sDrop, sPar, sPar3, sAug, sRet, sRetP, sRetO, sForget, sAsgF, sMut, sSetI, setAt, fIxO, fIxP, dAt, fFlat, gCallM, gPop, f2, g2, f1, fNil, fCons, gNilE, gConsE, fCall, gCall, fLst, fTup, gLstE, gTupE, fTest, gTest, fAnd, fOr, fNot, gAnd, gOr, gNot, fIf, gIf, fAndV, fOrV, fNotV, fChain, fRev, tgTup, tgCons, tgNil, up, asB, asL, asT, asI, asS, enumA, zipA, zipB, setE, Option.bind_some, Option.bind_none, Option.map_some, Option.map_none, owns, List.mapM_cons, List.mapM_nil, List.set_cons_zero, List.set_cons_succ, gv_0, gv_1, gv_2, gv_3, gv_4, gv_5, gv_6, gv_7, gv_8, gv_9, gv_10, gv_11, gv_12, gv_13, ev_pure, ev_bind, wipeE, dI0, resP, resM, resF, dCmp, dGt, dLt, dLe, dGe, ix30, ix31, ix32, List.length_cons, List.length_nil, Nat.zero_add, Nat.reduceAdd, List.set_cons_zero, Bool.true_eq_false, Bool.false_eq_true, if_true, if_false, ite_true, ite_false, decide_true, decide_false, dInt, sz0, sz1, sz2, sz3, sz4, sz5, sz6, sz7, isi_int_int, isi_int_bool, Bool.not_false]
theorem allTrue {α : Type} (l : List α) : dAll [.list (l.filterMap fun _ => some (PyData.bool true))] = some (.bool true) := by
  have e : (l.filterMap fun _ => some (PyData.bool true)) = (l.map fun _ => true).map PyData.bool := by
    rw [List.map_map, ← List.filterMap_eq_map]; rfl
  rw [e]
  show (asBools ((l.map fun _ => true).map PyData.bool)).map (fun bs => PyData.bool (bs.all id)) = _
  rw [asBools_map]
  simp
theorem areintT (ns : List Int) (k : Int) (hk : k = ns.length) : g_are_integers [tupD ns, .int k] = some (.bool true) := by
  subst hk
  rw [g_are_integers_eq]
  show (F_are_integers [some (tupD ns), some (.int ns.length), none]).bind resP = _
  unfold F_are_integers
  have e : C1_are_integers [some (tupD ns), some (.int ns.length), none] = some (.list (ns.filterMap fun _ => some (.bool true))) := by
    unfold C1_are_integers
    exact lcF_map PyData.int ns (fun _ => some (.bool true)) rfl (fun x _ => by simp only [fSeq, fNext, sIf, sIfP, sAsg, sAsgP, sDrop, sPar, sPar3, sAug, sRet, sRetP, sRetO, sForget, sAsgF, sMut, sSetI, setAt, fIxO, fIxP, dAt, fFlat, gCallM, gPop, f2, g2, f1, fNil, fCons, gNilE, gConsE, fCall, gCall, fLst, fTup, gLstE, gTupE, fTest, gTest, fAnd, fOr, fNot, gAnd, gOr, gNot, fIf, gIf, fAndV, fOrV, fNotV, fChain, fRev, tgTup, tgCons, tgNil, up, asB, asL, asT, asI, asS, enumA, zipA, zipB, setE, Option.bind_some, Option.bind_none, Option.map_some, Option.map_none, owns, List.mapM_cons, List.mapM_nil, List.set_cons_zero, List.set_cons_succ, gv_0, gv_1, gv_2, gv_3, gv_4, gv_5, gv_6, gv_7, gv_8, gv_9, gv_10, gv_11, gv_12, gv_13, ev_pure, ev_bind, wipeE, dI0, resP, resM, resF, dCmp, dGt, dLt, dLe, dGe, ix30, ix31, ix32, List.length_cons, List.length_nil, Nat.zero_add, Nat.reduceAdd, List.set_cons_zero, Bool.true_eq_false, Bool.false_eq_true, if_true, if_false, ite_true, ite_false, decide_true, decide_false, dInt, sz0, sz1, sz2, sz3, sz4, sz5, sz6, sz7, isint])
  have e2 : dIsi "tuple" [tupD ns] = some (.bool true) := isi_tuple_tuple
  have e3 : dLen [tupD ns] = some (.int ns.length) := by
    show some (PyData.int ((ns.map PyData.int).length : Nat)) = _
    rw [List.length_map]
  simp only [fSeq, fNext, sIf, sIfP, sAsg, sAsgP, sDrop, sPar, sPar3, sAug, sRet, sRetP, sRetO, sForget, sAsgF, sMut, sSetI, setAt, fIxO, fIxP, dAt, fFlat, gCallM, gPop, f2, g2, f1, fNil, fCons, gNilE, gConsE, fCall, gCall, fLst, fTup, gLstE, gTupE, fTest, gTest, fAnd, fOr, fNot, gAnd, gOr, gNot, fIf, gIf, fAndV, fOrV, fNotV, fChain, fRev, tgTup, tgCons, tgNil, up, asB, asL, asT, asI, asS, enumA, zipA, zipB, setE, Option.bind_some, Option.bind_none, Option.map_some, Option.map_none, owns, List.mapM_cons, List.mapM_nil, List.set_cons_zero, List.set_cons_succ, gv_0, gv_1, gv_2, gv_3, gv_4, gv_5, gv_6, gv_7, gv_8, gv_9, gv_10, gv_11, gv_12, gv_13, ev_pure, ev_bind, wipeE, dI0, resP, resM, resF, dCmp, dGt, dLt, dLe, dGe, ix30, ix31, ix32, List.length_cons, List.length_nil, Nat.zero_add, Nat.reduceAdd, List.set_cons_zero, Bool.true_eq_false, Bool.false_eq_true, if_true, if_false, ite_true, ite_false, decide_true, decide_false, dInt, sz0, sz1, sz2, sz3, sz4, sz5, sz6, sz7, e, e2, e3, allTrue, dEq_eqi]
/-- a kind -/
structure Kind (ns : List Int) : Prop where
  lo : 1 ≤ ns.length
  hi : ns.length ≤ 5
  it : ∀ x ∈ ns, x.natAbs ≤ 20
  gc : gcdF ns = 1
theorem iskind {ns : List Int} (h : Kind ns) : g_is_kind [tupD ns] = some (.bool true) := by
  have e2 : dIsi "tuple" [tupD ns] = some (.bool true) := isi_tuple_tuple
  have e3 : dLen [tupD ns] = some (.int ns.length) := by
    show some (PyData.int ((ns.map PyData.int).length : Nat)) = _
    rw [List.length_map]
  have q1 : decide ((1 : Int) ≤ (ns.length : Int)) = true := decide_eq_true (by have := h.lo; omega)
  have q2 : decide ((ns.length : Int) ≤ 5) = true := decide_eq_true (by have := h.hi; omega)
  have eC : C1_is_kind [some (tupD ns), none] = some (.list (ns.filterMap fun _ => some (.bool true))) := by
    unfold C1_is_kind
    refine lcF_map PyData.int ns (fun _ => some (.bool true)) rfl (fun x hx => ?_)
    have q : decide (((x.natAbs : Nat) : Int) ≤ 20) = true := decide_eq_true (by have := h.it x hx; omega)
    simp only [fSeq, fNext, sIf, sIfP, sAsg, sAsgP, sDrop, sPar, sPar3, sAug, sRet, sRetP, sRetO, sForget, sAsgF, sMut, sSetI, setAt, fIxO, fIxP, dAt, fFlat, gCallM, gPop, f2, g2, f1, fNil, fCons, gNilE, gConsE, fCall, gCall, fLst, fTup, gLstE, gTupE, fTest, gTest, fAnd, fOr, fNot, gAnd, gOr, gNot, fIf, gIf, fAndV, fOrV, fNotV, fChain, fRev, tgTup, tgCons, tgNil, up, asB, asL, asT, asI, asS, enumA, zipA, zipB, setE, Option.bind_some, Option.bind_none, Option.map_some, Option.map_none, owns, List.mapM_cons, List.mapM_nil, List.set_cons_zero, List.set_cons_succ, gv_0, gv_1, gv_2, gv_3, gv_4, gv_5, gv_6, gv_7, gv_8, gv_9, gv_10, gv_11, gv_12, gv_13, ev_pure, ev_bind, wipeE, dI0, resP, resM, resF, dCmp, dGt, dLt, dLe, dGe, ix30, ix31, ix32, List.length_cons, List.length_nil, Nat.zero_add, Nat.reduceAdd, List.set_cons_zero, Bool.true_eq_false, Bool.false_eq_true, if_true, if_false, ite_true, ite_false, decide_true, decide_false, dInt, sz0, sz1, sz2, sz3, sz4, sz5, sz6, sz7, absN, q]
  have eg := divisor (l := ns) (d := tupD ns) rfl
  rw [h.gc] at eg
  refine wp_get (F := F_is_kind) (env := [some (tupD ns), none]) (by rw [g_is_kind_eq]; rfl) ?_
  unfold F_is_kind
  refine wp_seq (wp_ifP false (by simp only [fSeq, fNext, sIf, sIfP, sAsg, sAsgP, sDrop, sPar, sPar3, sAug, sRet, sRetP, sRetO, sForget, sAsgF, sMut, sSetI, setAt, fIxO, fIxP, dAt, fFlat, gCallM, gPop, f2, g2, f1, fNil, fCons, gNilE, gConsE, fCall, gCall, fLst, fTup, gLstE, gTupE, fTest, gTest, fAnd, fOr, fNot, gAnd, gOr, gNot, fIf, gIf, fAndV, fOrV, fNotV, fChain, fRev, tgTup, tgCons, tgNil, up, asB, asL, asT, asI, asS, enumA, zipA, zipB, setE, Option.bind_some, Option.bind_none, Option.map_some, Option.map_none, owns, List.mapM_cons, List.mapM_nil, List.set_cons_zero, List.set_cons_succ, gv_0, gv_1, gv_2, gv_3, gv_4, gv_5, gv_6, gv_7, gv_8, gv_9, gv_10, gv_11, gv_12, gv_13, ev_pure, ev_bind, wipeE, dI0, resP, resM, resF, dCmp, dGt, dLt, dLe, dGe, ix30, ix31, ix32, List.length_cons, List.length_nil, Nat.zero_add, Nat.reduceAdd, List.set_cons_zero, Bool.true_eq_false, Bool.false_eq_true, if_true, if_false, ite_true, ite_false, decide_true, decide_false, dInt, sz0, sz1, sz2, sz3, sz4, sz5, sz6, sz7, e2, e3, q1, q2, areintT ns _ rfl, Bool.not_true]) nofun fun _ => Wp.of (a := .nx [some (tupD ns), none]) rfl ?_)
  have e1 : dEq false (.int ((1 : Nat) : Int)) (.int 1) = some (.bool true) := by rw [dEq_eqi]; rfl
  exact Wp.of (a := .rt (.bool true) []) (by simp only [fSeq, fNext, sIf, sIfP, sAsg, sAsgP, sDrop, sPar, sPar3, sAug, sRet, sRetP, sRetO, sForget, sAsgF, sMut, sSetI, setAt, fIxO, fIxP, dAt, fFlat, gCallM, gPop, f2, g2, f1, fNil, fCons, gNilE, gConsE, fCall, gCall, fLst, fTup, gLstE, gTupE, fTest, gTest, fAnd, fOr, fNot, gAnd, gOr, gNot, fIf, gIf, fAndV, fOrV, fNotV, fChain, fRev, tgTup, tgCons, tgNil, up, asB, asL, asT, asI, asS, enumA, zipA, zipB, setE, Option.bind_some, Option.bind_none, Option.map_some, Option.map_none, owns, List.mapM_cons, List.mapM_nil, List.set_cons_zero, List.set_cons_succ, gv_0, gv_1, gv_2, gv_3, gv_4, gv_5, gv_6, gv_7, gv_8, gv_9, gv_10, gv_11, gv_12, gv_13, ev_pure, ev_bind, wipeE, dI0, resP, resM, resF, dCmp, dGt, dLt, dLe, dGe, ix30, ix31, ix32, List.length_cons, List.length_nil, Nat.zero_add, Nat.reduceAdd, List.set_cons_zero, Bool.true_eq_false, Bool.false_eq_true, if_true, if_false, ite_true, ite_false, decide_true, decide_false, dInt, sz0, sz1, sz2, sz3, sz4, sz5, sz6, sz7, eC, allTrue, eg, e1]) rfl
/-- a book -/
structure Book (ls : List (List Int)) : Prop where
  lo : 1 ≤ ls.length
  hi : ls.length ≤ 12
  kd : ∀ n ∈ ls, Kind n
  sz : ∀ n ∈ ls, n.length = (ls.headD []).length
  as : ls.Pairwise fun a b => lexI a b = true
theorem zip_drop {α : Type} : ∀ {ls : List α} {R : α → α → Prop}, ls.Pairwise R → ∀ p ∈ ls.zip (ls.drop 1), R p.1 p.2
  | [], _, _, p, hp => by simp at hp
  | [_], _, _, p, hp => by simp at hp
  | x :: y :: r, R, h, p, hp => by
    simp only [List.drop_succ_cons, List.drop_zero, List.zip_cons_cons, List.mem_cons] at hp
    rcases hp with rfl | hp
    · exact (List.pairwise_cons.mp h).1 y (by simp)
    · exact zip_drop (List.pairwise_cons.mp h).2 p (by simpa using hp)
theorem cutD_1 (ds : List D) : cutD ds (some 1) none = ds.drop 1 := by
  unfold cutD
  rw [HT.sIx_none, show HT.sIx ds.length 0 (some 1) = min 1 ds.length from HT.sIx_nat ds.length 0 1]
  cases ds with
  | nil => rfl
  | cons x r =>
    rw [show min 1 (x :: r).length = 1 by rw [List.length_cons]; omega]
    show List.take ((x :: r).length - 1) r = r
    rw [List.length_cons, Nat.add_sub_cancel]
    exact List.take_length
theorem isbook {ls : List (List Int)} (h : Book ls) : g_is_book [.list (ls.map tupD)] = some (.bool true) := by
  have q1 : decide ((1 : Int) ≤ (ls.length : Int)) = true := decide_eq_true (by have := h.lo; omega)
  have q2 : decide ((ls.length : Int) ≤ 12) = true := decide_eq_true (by have := h.hi; omega)
  have eL : ∀ n : List Int, dLen [tupD n] = some (.int n.length) := fun n => by
    show some (PyData.int ((n.map PyData.int).length : Nat)) = _
    rw [List.length_map]
  have e1 : C1_is_book [some (.list (ls.map tupD)), none, none] = some (.list (ls.filterMap fun _ => some (.bool true))) := by
    unfold C1_is_book
    exact lcF_map tupD ls (fun _ => some (.bool true)) rfl (fun x hx => by simp only [fSeq, fNext, sIf, sIfP, sAsg, sAsgP, sDrop, sPar, sPar3, sAug, sRet, sRetP, sRetO, sForget, sAsgF, sMut, sSetI, setAt, fIxO, fIxP, dAt, fFlat, gCallM, gPop, f2, g2, f1, fNil, fCons, gNilE, gConsE, fCall, gCall, fLst, fTup, gLstE, gTupE, fTest, gTest, fAnd, fOr, fNot, gAnd, gOr, gNot, fIf, gIf, fAndV, fOrV, fNotV, fChain, fRev, tgTup, tgCons, tgNil, up, asB, asL, asT, asI, asS, enumA, zipA, zipB, setE, Option.bind_some, Option.bind_none, Option.map_some, Option.map_none, owns, List.mapM_cons, List.mapM_nil, List.set_cons_zero, List.set_cons_succ, gv_0, gv_1, gv_2, gv_3, gv_4, gv_5, gv_6, gv_7, gv_8, gv_9, gv_10, gv_11, gv_12, gv_13, ev_pure, ev_bind, wipeE, dI0, resP, resM, resF, dCmp, dGt, dLt, dLe, dGe, ix30, ix31, ix32, List.length_cons, List.length_nil, Nat.zero_add, Nat.reduceAdd, List.set_cons_zero, Bool.true_eq_false, Bool.false_eq_true, if_true, if_false, ite_true, ite_false, decide_true, decide_false, dInt, sz0, sz1, sz2, sz3, sz4, sz5, sz6, sz7, iskind (h.kd x hx)])
  have e0 : dIx (.list (ls.map tupD)) (.int 0) = some (tupD (ls.headD [])) := by
    cases ls with
    | nil => have := h.lo; simp at this
    | cons a r => exact atI_0
  have e2 : C2_is_book [some (.list (ls.map tupD)), none, none] = some (.list (ls.filterMap fun _ => some (.bool true))) := by
    unfold C2_is_book
    refine lcF_map tupD ls (fun _ => some (.bool true)) rfl (fun x hx => ?_)
    have q : decide ((x.length : Int) = ((ls.headD []).length : Int)) = true := decide_eq_true (by rw [h.sz x hx])
    simp only [fSeq, fNext, sIf, sIfP, sAsg, sAsgP, sDrop, sPar, sPar3, sAug, sRet, sRetP, sRetO, sForget, sAsgF, sMut, sSetI, setAt, fIxO, fIxP, dAt, fFlat, gCallM, gPop, f2, g2, f1, fNil, fCons, gNilE, gConsE, fCall, gCall, fLst, fTup, gLstE, gTupE, fTest, gTest, fAnd, fOr, fNot, gAnd, gOr, gNot, fIf, gIf, fAndV, fOrV, fNotV, fChain, fRev, tgTup, tgCons, tgNil, up, asB, asL, asT, asI, asS, enumA, zipA, zipB, setE, Option.bind_some, Option.bind_none, Option.map_some, Option.map_none, owns, List.mapM_cons, List.mapM_nil, List.set_cons_zero, List.set_cons_succ, gv_0, gv_1, gv_2, gv_3, gv_4, gv_5, gv_6, gv_7, gv_8, gv_9, gv_10, gv_11, gv_12, gv_13, ev_pure, ev_bind, wipeE, dI0, resP, resM, resF, dCmp, dGt, dLt, dLe, dGe, ix30, ix31, ix32, List.length_cons, List.length_nil, Nat.zero_add, Nat.reduceAdd, List.set_cons_zero, Bool.true_eq_false, Bool.false_eq_true, if_true, if_false, ite_true, ite_false, decide_true, decide_false, dInt, sz0, sz1, sz2, sz3, sz4, sz5, sz6, sz7, e0, eL, dEq_eqi, q]
  have e3 : C3_is_book [some (.list (ls.map tupD)), none, none] = some (.list ((ls.zip (ls.drop 1)).filterMap fun _ => some (.bool true))) := by
    unfold C3_is_book
    refine lcF_map (fun p : List Int × List Int => PyData.tuple [tupD p.1, tupD p.2]) (ls.zip (ls.drop 1)) (fun _ => some (.bool true)) ?_ (fun p hp => ?_)
    · have ec : dSl (some 1) none (.list (ls.map tupD)) = some (.list ((ls.drop 1).map tupD)) := by
        show some (PyData.list (cutD _ (some 1) none)) = _
        rw [cutD_1, List.map_drop]
      simp only [fSeq, fNext, sIf, sIfP, sAsg, sAsgP, sDrop, sPar, sPar3, sAug, sRet, sRetP, sRetO, sForget, sAsgF, sMut, sSetI, setAt, fIxO, fIxP, dAt, fFlat, gCallM, gPop, f2, g2, f1, fNil, fCons, gNilE, gConsE, fCall, gCall, fLst, fTup, gLstE, gTupE, fTest, gTest, fAnd, fOr, fNot, gAnd, gOr, gNot, fIf, gIf, fAndV, fOrV, fNotV, fChain, fRev, tgTup, tgCons, tgNil, up, asB, asL, asT, asI, asS, enumA, zipA, zipB, setE, Option.bind_some, Option.bind_none, Option.map_some, Option.map_none, owns, List.mapM_cons, List.mapM_nil, List.set_cons_zero, List.set_cons_succ, gv_0, gv_1, gv_2, gv_3, gv_4, gv_5, gv_6, gv_7, gv_8, gv_9, gv_10, gv_11, gv_12, gv_13, ev_pure, ev_bind, wipeE, dI0, resP, resM, resF, dCmp, dGt, dLt, dLe, dGe, ix30, ix31, ix32, List.length_cons, List.length_nil, Nat.zero_add, Nat.reduceAdd, List.set_cons_zero, Bool.true_eq_false, Bool.false_eq_true, if_true, if_false, ite_true, ite_false, decide_true, decide_false, dInt, sz0, sz1, sz2, sz3, sz4, sz5, sz6, sz7, fSl, ec]
      unfold zipD
      rw [List.zipWith_map_left, List.zipWith_map_right, ← List.map_uncurry_zip_eq_zipWith]
      rfl
    · have q := zip_drop h.as p hp
      have el : dLtT (tupD p.1) (tupD p.2) = some (.bool true) := by
        unfold dLtT tupD
        simp only [asT, Option.bind_some, asInts_map, Option.map_some]
        rw [show HT.lexLt p.1 p.2 = true from q]
      simp only [fSeq, fNext, sIf, sIfP, sAsg, sAsgP, sDrop, sPar, sPar3, sAug, sRet, sRetP, sRetO, sForget, sAsgF, sMut, sSetI, setAt, fIxO, fIxP, dAt, fFlat, gCallM, gPop, f2, g2, f1, fNil, fCons, gNilE, gConsE, fCall, gCall, fLst, fTup, gLstE, gTupE, fTest, gTest, fAnd, fOr, fNot, gAnd, gOr, gNot, fIf, gIf, fAndV, fOrV, fNotV, fChain, fRev, tgTup, tgCons, tgNil, up, asB, asL, asT, asI, asS, enumA, zipA, zipB, setE, Option.bind_some, Option.bind_none, Option.map_some, Option.map_none, owns, List.mapM_cons, List.mapM_nil, List.set_cons_zero, List.set_cons_succ, gv_0, gv_1, gv_2, gv_3, gv_4, gv_5, gv_6, gv_7, gv_8, gv_9, gv_10, gv_11, gv_12, gv_13, ev_pure, ev_bind, wipeE, dI0, resP, resM, resF, dCmp, dGt, dLt, dLe, dGe, ix30, ix31, ix32, List.length_cons, List.length_nil, Nat.zero_add, Nat.reduceAdd, List.set_cons_zero, Bool.true_eq_false, Bool.false_eq_true, if_true, if_false, ite_true, ite_false, decide_true, decide_false, dInt, sz0, sz1, sz2, sz3, sz4, sz5, sz6, sz7, el]
  refine wp_get (F := F_is_book) (env := [some (.list (ls.map tupD)), none, none]) (by rw [g_is_book_eq]; rfl) ?_
  unfold F_is_book
  refine wp_seq (wp_ifP false (by simp only [fSeq, fNext, sIf, sIfP, sAsg, sAsgP, sDrop, sPar, sPar3, sAug, sRet, sRetP, sRetO, sForget, sAsgF, sMut, sSetI, setAt, fIxO, fIxP, dAt, fFlat, gCallM, gPop, f2, g2, f1, fNil, fCons, gNilE, gConsE, fCall, gCall, fLst, fTup, gLstE, gTupE, fTest, gTest, fAnd, fOr, fNot, gAnd, gOr, gNot, fIf, gIf, fAndV, fOrV, fNotV, fChain, fRev, tgTup, tgCons, tgNil, up, asB, asL, asT, asI, asS, enumA, zipA, zipB, setE, Option.bind_some, Option.bind_none, Option.map_some, Option.map_none, owns, List.mapM_cons, List.mapM_nil, List.set_cons_zero, List.set_cons_succ, gv_0, gv_1, gv_2, gv_3, gv_4, gv_5, gv_6, gv_7, gv_8, gv_9, gv_10, gv_11, gv_12, gv_13, ev_pure, ev_bind, wipeE, dI0, resP, resM, resF, dCmp, dGt, dLt, dLe, dGe, ix30, ix31, ix32, List.length_cons, List.length_nil, Nat.zero_add, Nat.reduceAdd, List.set_cons_zero, Bool.true_eq_false, Bool.false_eq_true, if_true, if_false, ite_true, ite_false, decide_true, decide_false, dInt, sz0, sz1, sz2, sz3, sz4, sz5, sz6, sz7, isi_list_list, dLen, List.length_map, q1, q2, e1, allTrue, Bool.not_true]) nofun fun _ => Wp.of (a := .nx [some (.list (ls.map tupD)), none, none]) rfl ?_)
  refine wp_seq (wp_ifP false (by simp only [fSeq, fNext, sIf, sIfP, sAsg, sAsgP, sDrop, sPar, sPar3, sAug, sRet, sRetP, sRetO, sForget, sAsgF, sMut, sSetI, setAt, fIxO, fIxP, dAt, fFlat, gCallM, gPop, f2, g2, f1, fNil, fCons, gNilE, gConsE, fCall, gCall, fLst, fTup, gLstE, gTupE, fTest, gTest, fAnd, fOr, fNot, gAnd, gOr, gNot, fIf, gIf, fAndV, fOrV, fNotV, fChain, fRev, tgTup, tgCons, tgNil, up, asB, asL, asT, asI, asS, enumA, zipA, zipB, setE, Option.bind_some, Option.bind_none, Option.map_some, Option.map_none, owns, List.mapM_cons, List.mapM_nil, List.set_cons_zero, List.set_cons_succ, gv_0, gv_1, gv_2, gv_3, gv_4, gv_5, gv_6, gv_7, gv_8, gv_9, gv_10, gv_11, gv_12, gv_13, ev_pure, ev_bind, wipeE, dI0, resP, resM, resF, dCmp, dGt, dLt, dLe, dGe, ix30, ix31, ix32, List.length_cons, List.length_nil, Nat.zero_add, Nat.reduceAdd, List.set_cons_zero, Bool.true_eq_false, Bool.false_eq_true, if_true, if_false, ite_true, ite_false, decide_true, decide_false, dInt, sz0, sz1, sz2, sz3, sz4, sz5, sz6, sz7, e2, allTrue, Bool.not_true]) nofun fun _ => Wp.of (a := .nx [some (.list (ls.map tupD)), none, none]) rfl ?_)
  exact Wp.of (a := .rt (.bool true) []) (by simp only [fSeq, fNext, sIf, sIfP, sAsg, sAsgP, sDrop, sPar, sPar3, sAug, sRet, sRetP, sRetO, sForget, sAsgF, sMut, sSetI, setAt, fIxO, fIxP, dAt, fFlat, gCallM, gPop, f2, g2, f1, fNil, fCons, gNilE, gConsE, fCall, gCall, fLst, fTup, gLstE, gTupE, fTest, gTest, fAnd, fOr, fNot, gAnd, gOr, gNot, fIf, gIf, fAndV, fOrV, fNotV, fChain, fRev, tgTup, tgCons, tgNil, up, asB, asL, asT, asI, asS, enumA, zipA, zipB, setE, Option.bind_some, Option.bind_none, Option.map_some, Option.map_none, owns, List.mapM_cons, List.mapM_nil, List.set_cons_zero, List.set_cons_succ, gv_0, gv_1, gv_2, gv_3, gv_4, gv_5, gv_6, gv_7, gv_8, gv_9, gv_10, gv_11, gv_12, gv_13, ev_pure, ev_bind, wipeE, dI0, resP, resM, resF, dCmp, dGt, dLt, dLe, dGe, ix30, ix31, ix32, List.length_cons, List.length_nil, Nat.zero_add, Nat.reduceAdd, List.set_cons_zero, Bool.true_eq_false, Bool.false_eq_true, if_true, if_false, ite_true, ite_false, decide_true, decide_false, dInt, sz0, sz1, sz2, sz3, sz4, sz5, sz6, sz7, e3, allTrue]) rfl
theorem fold_dvd : ∀ (l : List Int) (g : Nat), l.foldl (fun (g : Nat) x => Int.gcd g x) g ∣ g ∧ ∀ x ∈ l, l.foldl (fun (g : Nat) x => Int.gcd g x) g ∣ x.natAbs
  | [], g => ⟨Nat.dvd_refl g, fun _ h => by simp at h⟩
  | y :: l, g => by
    obtain ⟨h1, h2⟩ := fold_dvd l (Int.gcd g y)
    have d1 : Int.gcd g y ∣ g := Nat.gcd_dvd_left g y.natAbs
    have d2 : Int.gcd g y ∣ y.natAbs := Nat.gcd_dvd_right g y.natAbs
    refine ⟨Nat.dvd_trans h1 d1, fun x hx => ?_⟩
    rcases List.mem_cons.mp hx with rfl | hx
    · exact Nat.dvd_trans h1 d2
    · exact h2 x hx
theorem dvd_fold {k : Nat} : ∀ (l : List Int) (g : Nat), k ∣ g → (∀ x ∈ l, k ∣ x.natAbs) → k ∣ l.foldl (fun (g : Nat) x => Int.gcd g x) g
  | [], _, h, _ => h
  | y :: l, g, h, hl => dvd_fold l (Int.gcd g y) (Nat.dvd_gcd h (hl y List.mem_cons_self)) fun x hx => hl x (List.mem_cons_of_mem _ hx)
theorem gcdF_dvd {l : List Int} {x : Int} (h : x ∈ l) : gcdF l ∣ x.natAbs := (fold_dvd l 0).2 x h
theorem dvd_gcdF {l : List Int} {k : Nat} (h : ∀ x ∈ l, k ∣ x.natAbs) : k ∣ gcdF l := dvd_fold l 0 (Nat.dvd_zero k) h
theorem gcdF_one {l : List Int} {x : Int} (h : x ∈ l) (hx : x.natAbs = 1) : gcdF l = 1 := Nat.dvd_one.mp (hx ▸ gcdF_dvd h)
theorem gcdF_div {l : List Int} {g : Nat} (hg : gcdF l = g) (h0 : g ≠ 0) : gcdF (l.map fun x => x / (g : Int)) = 1 := by
  have h1 : g * gcdF (l.map fun x => x / (g : Int)) ∣ g * 1 := by
    rw [Nat.mul_one]
    conv => rhs; rw [← hg]
    refine dvd_gcdF fun x hx => ?_
    have d1 : gcdF (l.map fun x => x / (g : Int)) ∣ (x / (g : Int)).natAbs := gcdF_dvd (List.mem_map.mpr ⟨x, hx, rfl⟩)
    have d2 : (g : Int) ∣ x := Int.ofNat_dvd_left.mpr (hg ▸ gcdF_dvd hx)
    have e : x.natAbs = g * (x / (g : Int)).natAbs := by
      conv => lhs; rw [← Int.mul_ediv_cancel' d2]
      rw [Int.natAbs_mul, Int.natAbs_natCast]
    rw [e]
    exact Nat.mul_dvd_mul_left g d1
  exact Nat.dvd_one.mp (Nat.dvd_of_mul_dvd_mul_left (by omega) h1)
theorem gcdF_neg (l : List Int) : gcdF (l.map fun x => -x) = gcdF l := by
  refine Nat.dvd_antisymm (dvd_gcdF fun x hx => ?_) (dvd_gcdF fun x hx => ?_)
  · have := gcdF_dvd (l := l.map fun x => -x) (List.mem_map.mpr ⟨x, hx, rfl⟩)
    rwa [Int.natAbs_neg] at this
  · obtain ⟨y, hy, rfl⟩ := List.mem_map.mp hx
    rw [Int.natAbs_neg]
    exact gcdF_dvd hy
theorem gcdF_le {l : List Int} {x : Int} {m : Nat} (h : x ∈ l) (h0 : x ≠ 0) (hm : x.natAbs ≤ m) : gcdF l ≤ m := Nat.le_trans (Nat.le_of_dvd (by omega) (gcdF_dvd h)) hm
theorem gcdF_ne {l : List Int} (h : gcdF l ≠ 0) : ∃ x ∈ l, x ≠ 0 := by
  refine Classical.byContradiction fun hn => h ?_
  have : (0 : Nat) ∣ gcdF l := dvd_gcdF fun x hx => by
    have : x = 0 := Classical.byContradiction fun h2 => hn ⟨x, hx, h2⟩
    rw [this]; exact Nat.dvd_refl 0
  exact Nat.zero_dvd.mp this
theorem gcdF_small {l : List Int} {m : Nat} (h : ∀ x ∈ l, x.natAbs ≤ m) : gcdF l ≤ m := by
  by_cases c : gcdF l = 0
  · omega
  · obtain ⟨x, hx, h0⟩ := gcdF_ne c
    exact gcdF_le hx h0 (h x hx)
/-! ### knots: a basis, plain -/
structure Row where
  piv : Nat
  row : List Int
  par : List Int
structure Ag where
  rest : List Int
  scale : Int
  fnd : List Int
def intsD (l : List Int) : D := .list (l.map PyData.int)
def rowD (r : Row) : D := .tuple [.int (r.piv : Nat), intsD r.row, intsD r.par]
def agD (a : Ag) : D := .tuple [intsD a.rest, .int a.scale, intsD a.fnd]
def addPar (t : Int) : List Int → List Int → List Int
  | f :: fs, p :: ps => (f + t * p) :: addPar t fs ps
  | fs, [] => fs
  | [], _ :: _ => []
def agStep (a : Ag) (r : Row) : Ag :=
  if a.rest.getD r.piv 0 = 0 then a else
  ⟨(a.rest.zip r.row).map fun p => r.row.getD r.piv 0 * p.1 - a.rest.getD r.piv 0 * p.2, a.scale * r.row.getD r.piv 0, addPar (a.rest.getD r.piv 0) (a.fnd.map fun x => r.row.getD r.piv 0 * x) r.par⟩
def agF (n : Nat) (p : List Row) (v : List Int) : Ag := p.foldl agStep ⟨v, 1, List.replicate n 0⟩
theorem agF_snoc (n : Nat) (p : List Row) (r : Row) (v : List Int) : agF n (p ++ [r]) v = agStep (agF n p v) r := by unfold agF; rw [List.foldl_append]; rfl
def Bd (k : Nat) (l : List Int) : Prop := ∀ x ∈ l, x.natAbs < 2 ^ k
theorem Bd.mono {k k' : Nat} {l : List Int} (h : Bd k l) (e : k ≤ k') : Bd k' l := fun x hx => Nat.lt_of_lt_of_le (h x hx) (Nat.pow_le_pow_right (by decide) e)
/-- how long the numbers grow -/
def xb (b : Nat) : Nat → Nat
  | 0 => b
  | k + 1 => 2 * xb b k + 1
theorem xb_le {b : Nat} : ∀ k, xb b k ≤ xb b (k + 1) := fun k => by show xb b k ≤ 2 * xb b k + 1; omega
theorem xb_mono {b k : Nat} : ∀ {l : Nat}, k ≤ l → xb b k ≤ xb b l := fun {l} h => by
  induction h with
  | refl => exact Nat.le_refl _
  | step _ ih => exact Nat.le_trans ih (xb_le _)
structure RowOk (b size : Nat) (p : List Row) (r : Row) : Prop where
  rl : r.row.length = size
  pl : r.par.length = p.length + 1
  pv : r.piv < size
  ps : 0 < r.row.getD r.piv 0
  rb : Bd (xb b p.length) r.row
  pb : Bd (xb b p.length) r.par
  zr : ∀ r' ∈ p, r.row.getD r'.piv 0 = 0
inductive Ech (b size : Nat) : List Row → Prop
  | nil : Ech b size []
  | snoc {p : List Row} {r : Row} : Ech b size p → RowOk b size p r → Ech b size (p ++ [r])
theorem Ech.split {b size : Nat} {l : List Row} (h : Ech b size l) : ∀ {p q : List Row} {x : Row}, l = p ++ x :: q → Ech b size p ∧ RowOk b size p x := by
  induction h with
  | nil => intro p q x e; simp at e
  | snoc h1 h2 ih =>
    intro p q x e
    rcases List.eq_nil_or_concat q with rfl | ⟨q', y, rfl⟩
    · have e := List.append_inj' e rfl
      obtain ⟨rfl, e2⟩ := e
      cases e2
      exact ⟨h1, h2⟩
    · rw [List.concat_eq_append, show ∀ a : List Row, a ++ x :: (q' ++ [y]) = (a ++ x :: q') ++ [y] from fun a => by simp] at e
      have e := List.append_inj' e rfl
      exact ih e.1
structure AgOk (b size n : Nat) (p : List Row) (a : Ag) : Prop where
  rl : a.rest.length = size
  fl : a.fnd.length = n
  rb : Bd (xb b p.length) a.rest
  fb : Bd (xb b p.length) a.fnd
  sb : a.scale.natAbs < 2 ^ xb b p.length
  sp : 0 < a.scale
  zr : ∀ r ∈ p, a.rest.getD r.piv 0 = 0
theorem addPar_len (t : Int) : ∀ (fs ps : List Int), (addPar t fs ps).length = fs.length
  | f :: fs, p :: ps => by show (addPar t fs ps).length + 1 = fs.length + 1; rw [addPar_len t fs ps]
  | [], [] => rfl
  | _ :: _, [] => rfl
  | [], _ :: _ => rfl
theorem two_bound {x e m : Nat} {a b c d : Int} (h1 : a.natAbs < 2 ^ x) (h2 : b.natAbs < 2 ^ x) (h3 : c.natAbs < 2 ^ x) (h4 : d.natAbs < 2 ^ x) : (a * b + c * d).natAbs < 2 ^ (2 * x + 1) := by
  have e1 : (a * b).natAbs < 2 ^ x * 2 ^ x := by
    rw [Int.natAbs_mul]
    exact Nat.mul_lt_mul_of_lt_of_le h1 (Nat.le_of_lt h2) (Nat.two_pow_pos x)
  have e2 : (c * d).natAbs < 2 ^ x * 2 ^ x := by
    rw [Int.natAbs_mul]
    exact Nat.mul_lt_mul_of_lt_of_le h3 (Nat.le_of_lt h4) (Nat.two_pow_pos x)
  rw [show 2 ^ (2 * x + 1) = 2 * (2 ^ x * 2 ^ x) by rw [Nat.pow_succ, Nat.two_mul, Nat.pow_add, Nat.mul_comm]]
  omega
theorem one_bound {x : Nat} {a b : Int} (h1 : a.natAbs < 2 ^ x) (h2 : b.natAbs < 2 ^ x) : (a * b).natAbs < 2 ^ (2 * x + 1) := by
  have := two_bound (e := 0) (m := 0) h1 h2 (c := 0) (d := 0) (by simp [Nat.two_pow_pos]) (by simp [Nat.two_pow_pos])
  simpa using this
theorem getD_mem {l : List Int} {i : Nat} (h : i < l.length) : l.getD i 0 ∈ l := by
  rw [List.getD_eq_getElem?_getD, List.getElem?_eq_getElem h, Option.getD_some]
  exact List.getElem_mem h
theorem addPar_bd {x : Nat} {t bt : Int} (ht : t.natAbs < 2 ^ x) (hb : bt.natAbs < 2 ^ x) : ∀ {fs ps : List Int}, Bd x fs → Bd x ps → Bd (2 * x + 1) (addPar t (fs.map fun y => bt * y) ps)
  | f :: fs, p :: ps, h1, h2 => fun y hy => by
    rcases List.mem_cons.mp hy with rfl | hy
    · exact two_bound (e := 0) (m := 0) hb (h1 f (by simp)) ht (h2 p (by simp))
    · exact addPar_bd ht hb (fs := fs) (ps := ps) (fun z hz => h1 z (by simp [hz])) (fun z hz => h2 z (by simp [hz])) y hy
  | [], [], _, _ => fun y hy => by simp [addPar] at hy
  | f :: fs, [], h1, _ => fun y hy => by
    obtain ⟨z, hz, rfl⟩ := List.mem_map.mp (show y ∈ (f :: fs).map fun y => bt * y from hy)
    exact one_bound hb (h1 z hz)
  | [], _ :: _, _, _ => fun y hy => by simp [addPar] at hy
theorem zipmap_getD {f : Int → Int → Int} (hf : f 0 0 = 0) : ∀ {l m : List Int} {i : Nat}, l.length = m.length → ((l.zip m).map fun p => f p.1 p.2).getD i 0 = f (l.getD i 0) (m.getD i 0)
  | [], [], i, _ => by simp [hf]
  | x :: l, y :: m, 0, _ => rfl
  | x :: l, y :: m, i + 1, h => by
    have := zipmap_getD hf (l := l) (m := m) (i := i) (by simpa using h)
    simpa using this
theorem step_ok {b size n : Nat} {p : List Row} {a : Ag} {r : Row} (h : AgOk b size n p a) (hr : RowOk b size p r) : AgOk b size n (p ++ [r]) (agStep a r) := by
  have el : xb b (p ++ [r]).length = 2 * xb b p.length + 1 := by rw [List.length_append]; rfl
  have em : xb b p.length ≤ xb b (p ++ [r]).length := by omega
  unfold agStep
  split
  · rename_i h0
    refine ⟨h.rl, h.fl, h.rb.mono em, h.fb.mono em, Nat.lt_of_lt_of_le h.sb (Nat.pow_le_pow_right (by decide) em), h.sp, fun r' hr' => ?_⟩
    rcases List.mem_append.mp hr' with z | z
    · exact h.zr r' z
    · rw [List.mem_singleton.mp z]; exact h0
  · rename_i h0
    have ht := h.rb _ (getD_mem (i := r.piv) (by rw [h.rl]; exact hr.pv))
    have hb := hr.rb _ (getD_mem (i := r.piv) (by rw [hr.rl]; exact hr.pv))
    refine ⟨by simp [h.rl, hr.rl], by rw [addPar_len, List.length_map]; exact h.fl, ?_, ?_, ?_, Int.mul_pos h.sp hr.ps, fun r' hr' => ?_⟩
    · rw [el]
      intro x hx
      obtain ⟨q, hq, rfl⟩ := List.mem_map.mp hx
      have h1 := h.rb _ (List.of_mem_zip hq).1
      have h2 := hr.rb _ (List.of_mem_zip hq).2
      have := two_bound (e := 0) (m := 0) hb h1 (c := -(a.rest.getD r.piv 0)) (by rw [Int.natAbs_neg]; exact ht) h2
      rw [Int.neg_mul] at this
      exact this
    · rw [el]; exact addPar_bd ht hb h.fb hr.pb
    · rw [el]; exact one_bound h.sb hb
    · show ((a.rest.zip r.row).map fun p => r.row.getD r.piv 0 * p.1 - a.rest.getD r.piv 0 * p.2).getD r'.piv 0 = 0
      rw [zipmap_getD (f := fun x y => r.row.getD r.piv 0 * x - a.rest.getD r.piv 0 * y) (by simp) (by rw [h.rl, hr.rl])]
      rcases List.mem_append.mp hr' with z | z
      · rw [h.zr r' z, hr.zr r' z]; simp
      · rw [List.mem_singleton.mp z, Int.mul_comm, Int.sub_self]
theorem ag_ok {b size n : Nat} {p : List Row} {v : List Int} (hv : v.length = size) (hb : Bd b v) (h1 : 1 ≤ b) (h : Ech b size p) : AgOk b size n p (agF n p v) := by
  induction h with
  | nil => exact ⟨hv, by show (List.replicate n (0 : Int)).length = n; simp, hb, fun x hx => by rw [List.eq_of_mem_replicate hx]; exact Nat.two_pow_pos _, by show 1 < 2 ^ b; exact Nat.one_lt_two_pow (by omega), by show (0 : Int) < 1; omega, fun r hr => by simp at hr⟩
  | snoc h1 h2 ih => rw [agF_snoc]; exact step_ok ih h2
/-- the new row -/
def leastOf (a : Ag) : Int :=
  let g : Int := ((gcdF (a.rest ++ a.scale :: a.fnd) : Nat) : Int)
  if a.rest.getD (a.rest.findIdx (· ≠ 0)) 0 < 0 then -g else g
def rowOf (a : Ag) : Row := ⟨a.rest.findIdx (· ≠ 0), a.rest.map fun x => x.fdiv (leastOf a), (a.fnd.map fun x => -(x.fdiv (leastOf a))) ++ [a.scale.fdiv (leastOf a)]⟩
theorem fdiv_dvd {x l : Int} (h : l ∣ x) (h0 : l ≠ 0) : x.fdiv l * l = x := by
  obtain ⟨q, rfl⟩ := h
  rw [Int.mul_comm l q, Int.mul_fdiv_cancel q h0]
theorem fdiv_abs {x l : Int} (h : l ∣ x) (h0 : l ≠ 0) : (x.fdiv l).natAbs ≤ x.natAbs := by
  have e := fdiv_dvd h h0
  have e2 : x.natAbs = (x.fdiv l).natAbs * l.natAbs := by rw [← Int.natAbs_mul, e]
  rw [e2]
  exact Nat.le_mul_of_pos_right _ (by omega)
theorem find_spec {l : List Int} (h : ∃ x ∈ l, x ≠ 0) : l.findIdx (· ≠ 0) < l.length ∧ l.getD (l.findIdx (· ≠ 0)) 0 ≠ 0 := by
  have h1 : l.findIdx (· ≠ 0) < l.length := List.findIdx_lt_length_of_exists (by obtain ⟨x, hx, h0⟩ := h; exact ⟨x, hx, by simpa using h0⟩)
  refine ⟨h1, ?_⟩
  have := List.findIdx_getElem (p := fun x : Int => decide (x ≠ 0)) (xs := l) (w := h1)
  rw [List.getD_eq_getElem?_getD, List.getElem?_eq_getElem h1, Option.getD_some]
  simpa using this
theorem least_ne {a : Ag} (h : 0 < a.scale) : leastOf a ≠ 0 ∧ (leastOf a).natAbs = gcdF (a.rest ++ a.scale :: a.fnd) ∧ gcdF (a.rest ++ a.scale :: a.fnd) ≠ 0 := by
  have h1 : gcdF (a.rest ++ a.scale :: a.fnd) ≠ 0 := by
    intro e
    have := gcdF_dvd (l := a.rest ++ a.scale :: a.fnd) (x := a.scale) (by simp)
    rw [e] at this
    have := Nat.zero_dvd.mp this
    omega
  unfold leastOf
  dsimp only
  split <;> exact ⟨by omega, by omega, h1⟩
theorem least_dvd {a : Ag} (h : 0 < a.scale) {x : Int} (hx : x ∈ a.rest ++ a.scale :: a.fnd) : leastOf a ∣ x := by
  have h1 := gcdF_dvd hx
  rw [← (least_ne h).2.1] at h1
  exact Int.natAbs_dvd_natAbs.mp h1
theorem map_getD {f : Int → Int} (hf : f 0 = 0) : ∀ {l : List Int} {i : Nat}, (l.map f).getD i 0 = f (l.getD i 0)
  | [], i => by simp [hf]
  | x :: l, 0 => rfl
  | x :: l, i + 1 => by
    have := map_getD hf (l := l) (i := i)
    simpa using this
theorem row_ok {b size : Nat} {p : List Row} {a : Ag} (h : AgOk b size p.length p a) (hn : ∃ x ∈ a.rest, x ≠ 0) : RowOk b size p (rowOf a) := by
  obtain ⟨f1, f2⟩ := find_spec hn
  obtain ⟨l1, l2, l3⟩ := least_ne h.sp
  have hd : ∀ x ∈ a.rest, leastOf a ∣ x := fun x hx => least_dvd h.sp (by simp [hx])
  have hf : ∀ x ∈ a.fnd, leastOf a ∣ x := fun x hx => least_dvd h.sp (by simp [hx])
  refine ⟨by show (a.rest.map _).length = size; rw [List.length_map]; exact h.rl, by show ((a.fnd.map _) ++ [_]).length = _; simp [h.fl], by rw [← h.rl]; exact f1, ?_, ?_, ?_, fun r' hr' => ?_⟩
  · show 0 < (a.rest.map fun x => x.fdiv (leastOf a)).getD (a.rest.findIdx (· ≠ 0)) 0
    rw [map_getD (f := fun x => x.fdiv (leastOf a)) (Int.zero_fdiv _)]
    have e := fdiv_dvd (hd _ (getD_mem f1)) l1
    generalize hq : (a.rest.getD (a.rest.findIdx (· ≠ 0)) 0).fdiv (leastOf a) = q at *
    by_cases c : a.rest.getD (a.rest.findIdx (· ≠ 0)) 0 < 0
    · have hl : leastOf a < 0 := by
        unfold leastOf; dsimp only; rw [if_pos c]; omega
      refine Classical.byContradiction fun hq0 => ?_
      have := Int.mul_nonneg_of_nonpos_of_nonpos (show q ≤ 0 by omega) (Int.le_of_lt hl)
      omega
    · have hl : 0 < leastOf a := by
        unfold leastOf; dsimp only; rw [if_neg c]; omega
      refine Classical.byContradiction fun hq0 => ?_
      have := Int.mul_nonpos_of_nonpos_of_nonneg (show q ≤ 0 by omega) (Int.le_of_lt hl)
      omega
  · intro x hx
    obtain ⟨y, hy, rfl⟩ := List.mem_map.mp hx
    exact Nat.lt_of_le_of_lt (fdiv_abs (hd y hy) l1) (h.rb y hy)
  · intro x hx
    rcases List.mem_append.mp hx with z | z
    · obtain ⟨y, hy, rfl⟩ := List.mem_map.mp z
      rw [Int.natAbs_neg]
      exact Nat.lt_of_le_of_lt (fdiv_abs (hf y hy) l1) (h.fb y hy)
    · rw [List.mem_singleton.mp z]
      exact Nat.lt_of_le_of_lt (fdiv_abs (least_dvd h.sp (by simp)) l1) h.sb
  · show (a.rest.map fun x => x.fdiv (leastOf a)).getD r'.piv 0 = 0
    rw [map_getD (f := fun x => x.fdiv (leastOf a)) (Int.zero_fdiv _), h.zr r' hr', Int.zero_fdiv]
/-- no more rows than unknowns -/
theorem piv_nodup {b size : Nat} {p : List Row} (h : Ech b size p) : (p.map Row.piv).Nodup ∧ ∀ r ∈ p, r.piv < size := by
  induction h with
  | nil => exact ⟨List.Pairwise.nil, fun r hr => by simp at hr⟩
  | @snoc p r h1 h2 ih =>
    refine ⟨?_, fun x hx => ?_⟩
    · rw [List.map_append]
      refine List.nodup_append.mpr ⟨ih.1, by simp, fun a ha b hb => ?_⟩
      obtain ⟨r', hr', rfl⟩ := List.mem_map.mp ha
      have hb : b = r.piv := by simpa using hb
      subst hb
      intro e
      have h3 := h2.zr r' hr'
      have h4 := h2.ps
      rw [← e] at h4
      omega
    · rcases List.mem_append.mp hx with z | z
      · exact ih.2 x z
      · rw [List.mem_singleton.mp z]; exact h2.pv
theorem nodup_lt : ∀ {n : Nat} {l : List Nat}, l.Nodup → (∀ x ∈ l, x < n) → l.length ≤ n
  | 0, l, _, h2 => by
    cases l with
    | nil => exact Nat.le_refl _
    | cons x r => exact absurd (h2 x (by simp)) (by omega)
  | n + 1, l, h1, h2 => by
    have h3 := nodup_lt (n := n) (l := l.erase n) (h1.erase n) fun x hx => by
      obtain ⟨hx1, hx2⟩ := (h1.mem_erase_iff).mp hx
      have := h2 x hx2
      omega
    have := List.length_erase (a := n) (l := l)
    split at this <;> omega
theorem ech_len {b size : Nat} {p : List Row} (h : Ech b size p) : p.length ≤ size := by
  obtain ⟨h1, h2⟩ := piv_nodup h
  have := nodup_lt h1 fun x hx => by
    obtain ⟨r, hr, rfl⟩ := List.mem_map.mp hx
    exact h2 r hr
  rwa [List.length_map] at this
end CSk21

namespace CSk21
open PySem CS
/-! ### knots: the walk -/
theorem mulB {a b : Int} {k l : Nat} (ha : a.natAbs < 2 ^ k) (hb : b.natAbs < 2 ^ l) (h : k + l ≤ 1000000) : dMul (.int a) (.int b) = some (.int (a * b)) := dMul_ok (IntMulOk.of_le (bits_le ha) (bits_le hb) (by omega))
theorem fmI {α : Type} (l : List α) (f : α → Int) : PyData.list (l.filterMap fun x => some (PyData.int (f x))) = intsD (l.map f) := by
  unfold intsD
  rw [List.map_map, ← List.filterMap_eq_map]
  rfl
theorem fm2 {α β : Type} (l : List α) (f : α → β) (t : β → D) : (l.filterMap fun x => some (t (f x))) = (l.map f).map t := by
  rw [List.map_map, ← List.filterMap_eq_map]
  rfl
theorem ix_get {l : List Int} {i : Nat} (h : i < l.length) : dIx (intsD l) (.int (i : Nat)) = some (.int (l.getD i 0)) := by
  exact L2.atI_nat (j := i) (by rw [List.getElem?_map, List.getElem?_eq_getElem h, List.getD_eq_getElem?_getD, List.getElem?_eq_getElem h]; rfl)
theorem dAt_get {l : List Int} {i : Nat} (h : i < l.length) : dAt (l.map PyData.int) (i : Nat) = some (.int (l.getD i 0)) := ix_get h
theorem noL_ints : ∀ l : List Int, noLAll (l.map PyData.int) = true
  | [] => rfl
  | x :: l => by show (noL (PyData.int x) && noLAll (l.map PyData.int)) = true; rw [noL_ints l]; rfl
theorem setAt_nn {ds : List D} {k : Nat} {d : D} (h : k < ds.length) : setAt ds (k : Int) d = some (ds.set k d) := by
  unfold setAt L2.ixN
  rw [if_pos (by omega), if_pos (by omega)]
  simp
theorem setAt_ii {l : List Int} {r : Nat} {v : Int} (h : r < l.length) : setAt (l.map PyData.int) (r : Int) (.int v) = some ((l.set r v).map PyData.int) := by
  rw [setAt_nn (by rw [List.length_map]; exact h), List.map_set]
theorem zip_ints (l m : List Int) : zipB [intsD l, intsD m] = some ((l.zip m).map fun p => PyData.tuple [.int p.1, .int p.2]) := by
  show some (zipD (l.map PyData.int) (m.map PyData.int)) = _
  unfold zipD
  rw [List.zipWith_map_left, List.zipWith_map_right, ← List.map_uncurry_zip_eq_zipWith]
  rfl
theorem addPar_snoc (t : Int) (x : Int) : ∀ (fs ps : List Int), ps.length < fs.length → addPar t fs (ps ++ [x]) = (addPar t fs ps).set ps.length (fs.getD ps.length 0 + t * x) ∧ (addPar t fs ps).getD ps.length 0 = fs.getD ps.length 0
  | [], ps, h => by simp at h
  | f :: fs, [], _ => ⟨by cases fs <;> rfl, rfl⟩
  | f :: fs, p :: ps, h => by
    obtain ⟨h1, h2⟩ := addPar_snoc t x fs ps (by simpa using h)
    refine ⟨?_, by simpa [addPar] using h2⟩
    show (f + t * p) :: addPar t fs (ps ++ [x]) = ((f + t * p) :: addPar t fs ps).set (ps.length + 1) _
    rw [h1]; simp
theorem zipIdx_cut {α : Type} {l : List α} {p q : List (α × Nat)} {x : α × Nat} (h : l.zipIdx = p ++ x :: q) : x.2 = p.length ∧ (p ++ [x]).map (·.1) = p.map (·.1) ++ [x.1] ∧ p.length < l.length := by
  have h1 : l.zipIdx[p.length]? = some x := by rw [h]; simp
  rw [List.getElem?_zipIdx] at h1
  obtain ⟨y, e, rfl⟩ := Option.map_eq_some_iff.mp h1
  obtain ⟨hl, _⟩ := List.getElem?_eq_some_iff.mp e
  exact ⟨by simp, by simp, hl⟩
theorem par3_rep {i j l : Nat} {G1 G2 GL GK : En → Option (D × En)} {env : En} {a b x k c : D} {F : D → D → Option D} (h1 : G1 env = some (a, env)) (h2 : G2 env = some (b, env)) (h3 : GL env = some (x, env)) (h4 : GK env = some (k, env)) (h5 : F x k = some c) (hl : l < env.length) : sPar3L i j l G1 G2 (g2 F GL GK) env = some (.nx (setE l c (setE j b (setE i a env)))) := by
  have e : g2 F GL GK env = some (c, env) := by
    unfold g2
    rw [h3, Option.bind_some, h4, Option.bind_some, h5]; rfl
  unfold sPar3L
  rw [h1, Option.bind_some, h2, Option.bind_some, e, Option.bind_some, if_pos hl]
def agE (b d : D) (a : Ag) : En := [some b, some d, some (intsD a.rest), some (.int a.scale), some (intsD a.fnd), none, none, none, none, none, none, none, none, none]
theorem against_is {b size : Nat} {basis : List Row} {v : List Int} {d : D} (h : Ech b size basis) (hv : v.length = size) (hb : Bd b v) (h1 : 1 ≤ b) (hx : xb b basis.length ≤ 100000) (hd : dListOf [d] = some (intsD v)) (hn : basis.length ≤ 1000) : g_against [.list (basis.map rowD), d] = some (agD (agF basis.length basis v)) := by
  have hz := sizeL
  refine wp_get (F := F_against) (env := [some (.list (basis.map rowD)), some d, none, none, none, none, none, none, none, none, none, none, none, none]) (by rw [g_against_eq]; rfl) ?_
  unfold F_against
  have e0 : dRepL (.list [.int 0]) (.int (basis.length : Nat)) = some (intsD (List.replicate basis.length 0)) := by
    unfold dRepL
    simp only [List.length_cons, List.length_nil]
    rw [if_pos ⟨by omega, by omega, by omega⟩, Int.toNat_natCast]
    unfold repD intsD
    rw [List.flatten_replicate_singleton, List.map_replicate]
  have e1 : sPar3L 2 3 4 (up (fCall dListOf (fCons (gv 1) fNil))) (up (fun _ => some (.int 1))) (g2 dRepL (up (fLst (fCons (fun _ => some (.int 0)) fNil))) (up (fCall dLen (fCons (gv 0) fNil)))) [some (.list (basis.map rowD)), some d, none, none, none, none, none, none, none, none, none, none, none, none] = some (.nx (agE (.list (basis.map rowD)) d ⟨v, 1, List.replicate basis.length 0⟩)) := by
    exact par3_rep (by simp only [fSeq, fNext, sIf, sIfP, sAsg, sAsgP, sDrop, sPar, sPar3, sAug, sRet, sRetP, sRetO, sForget, sAsgF, sMut, sSetI, setAt, fIxO, fIxP, dAt, fFlat, gCallM, gPop, f2, g2, f1, fNil, fCons, gNilE, gConsE, fCall, gCall, fLst, fTup, gLstE, gTupE, fTest, gTest, fAnd, fOr, fNot, gAnd, gOr, gNot, fIf, gIf, fAndV, fOrV, fNotV, fChain, fRev, tgTup, tgCons, tgNil, up, asB, asL, asT, asI, asS, enumA, zipA, zipB, setE, Option.bind_some, Option.bind_none, Option.map_some, Option.map_none, owns, List.mapM_cons, List.mapM_nil, List.set_cons_zero, List.set_cons_succ, gv_0, gv_1, gv_2, gv_3, gv_4, gv_5, gv_6, gv_7, gv_8, gv_9, gv_10, gv_11, gv_12, gv_13, ev_pure, ev_bind, wipeE, dI0, resP, resM, resF, dCmp, dGt, dLt, dLe, dGe, ix30, ix31, ix32, List.length_cons, List.length_nil, Nat.zero_add, Nat.reduceAdd, List.set_cons_zero, Bool.true_eq_false, Bool.false_eq_true, if_true, if_false, ite_true, ite_false, decide_true, decide_false, dInt, sz0, sz1, sz2, sz3, sz4, sz5, sz6, sz7, hd]) (by simp only [fSeq, fNext, sIf, sIfP, sAsg, sAsgP, sDrop, sPar, sPar3, sAug, sRet, sRetP, sRetO, sForget, sAsgF, sMut, sSetI, setAt, fIxO, fIxP, dAt, fFlat, gCallM, gPop, f2, g2, f1, fNil, fCons, gNilE, gConsE, fCall, gCall, fLst, fTup, gLstE, gTupE, fTest, gTest, fAnd, fOr, fNot, gAnd, gOr, gNot, fIf, gIf, fAndV, fOrV, fNotV, fChain, fRev, tgTup, tgCons, tgNil, up, asB, asL, asT, asI, asS, enumA, zipA, zipB, setE, Option.bind_some, Option.bind_none, Option.map_some, Option.map_none, owns, List.mapM_cons, List.mapM_nil, List.set_cons_zero, List.set_cons_succ, gv_0, gv_1, gv_2, gv_3, gv_4, gv_5, gv_6, gv_7, gv_8, gv_9, gv_10, gv_11, gv_12, gv_13, ev_pure, ev_bind, wipeE, dI0, resP, resM, resF, dCmp, dGt, dLt, dLe, dGe, ix30, ix31, ix32, List.length_cons, List.length_nil, Nat.zero_add, Nat.reduceAdd, List.set_cons_zero, Bool.true_eq_false, Bool.false_eq_true, if_true, if_false, ite_true, ite_false, decide_true, decide_false, dInt, sz0, sz1, sz2, sz3, sz4, sz5, sz6, sz7]) (by simp only [fSeq, fNext, sIf, sIfP, sAsg, sAsgP, sDrop, sPar, sPar3, sAug, sRet, sRetP, sRetO, sForget, sAsgF, sMut, sSetI, setAt, fIxO, fIxP, dAt, fFlat, gCallM, gPop, f2, g2, f1, fNil, fCons, gNilE, gConsE, fCall, gCall, fLst, fTup, gLstE, gTupE, fTest, gTest, fAnd, fOr, fNot, gAnd, gOr, gNot, fIf, gIf, fAndV, fOrV, fNotV, fChain, fRev, tgTup, tgCons, tgNil, up, asB, asL, asT, asI, asS, enumA, zipA, zipB, setE, Option.bind_some, Option.bind_none, Option.map_some, Option.map_none, owns, List.mapM_cons, List.mapM_nil, List.set_cons_zero, List.set_cons_succ, gv_0, gv_1, gv_2, gv_3, gv_4, gv_5, gv_6, gv_7, gv_8, gv_9, gv_10, gv_11, gv_12, gv_13, ev_pure, ev_bind, wipeE, dI0, resP, resM, resF, dCmp, dGt, dLt, dLe, dGe, ix30, ix31, ix32, List.length_cons, List.length_nil, Nat.zero_add, Nat.reduceAdd, List.set_cons_zero, Bool.true_eq_false, Bool.false_eq_true, if_true, if_false, ite_true, ite_false, decide_true, decide_false, dInt, sz0, sz1, sz2, sz3, sz4, sz5, sz6, sz7]) (by simp only [fSeq, fNext, sIf, sIfP, sAsg, sAsgP, sDrop, sPar, sPar3, sAug, sRet, sRetP, sRetO, sForget, sAsgF, sMut, sSetI, setAt, fIxO, fIxP, dAt, fFlat, gCallM, gPop, f2, g2, f1, fNil, fCons, gNilE, gConsE, fCall, gCall, fLst, fTup, gLstE, gTupE, fTest, gTest, fAnd, fOr, fNot, gAnd, gOr, gNot, fIf, gIf, fAndV, fOrV, fNotV, fChain, fRev, tgTup, tgCons, tgNil, up, asB, asL, asT, asI, asS, enumA, zipA, zipB, setE, Option.bind_some, Option.bind_none, Option.map_some, Option.map_none, owns, List.mapM_cons, List.mapM_nil, List.set_cons_zero, List.set_cons_succ, gv_0, gv_1, gv_2, gv_3, gv_4, gv_5, gv_6, gv_7, gv_8, gv_9, gv_10, gv_11, gv_12, gv_13, ev_pure, ev_bind, wipeE, dI0, resP, resM, resF, dCmp, dGt, dLt, dLe, dGe, ix30, ix31, ix32, List.length_cons, List.length_nil, Nat.zero_add, Nat.reduceAdd, List.set_cons_zero, Bool.true_eq_false, Bool.false_eq_true, if_true, if_false, ite_true, ite_false, decide_true, decide_false, dInt, sz0, sz1, sz2, sz3, sz4, sz5, sz6, sz7, dLen, List.length_map]) e0 (by simp only [List.length_cons, List.length_nil]; decide)
  refine wp_st _ e1 ?_
  refine wp_seq (wp_for rowD basis (fun p e => e = agE (.list (basis.map rowD)) d (agF basis.length p v)) (env1 := agE (.list (basis.map rowD)) d ⟨v, 1, List.replicate basis.length 0⟩) (by unfold agE; simp only [fSeq, fNext, sIf, sIfP, sAsg, sAsgP, sDrop, sPar, sPar3, sAug, sRet, sRetP, sRetO, sForget, sAsgF, sMut, sSetI, setAt, fIxO, fIxP, dAt, fFlat, gCallM, gPop, f2, g2, f1, fNil, fCons, gNilE, gConsE, fCall, gCall, fLst, fTup, gLstE, gTupE, fTest, gTest, fAnd, fOr, fNot, gAnd, gOr, gNot, fIf, gIf, fAndV, fOrV, fNotV, fChain, fRev, tgTup, tgCons, tgNil, up, asB, asL, asT, asI, asS, enumA, zipA, zipB, setE, Option.bind_some, Option.bind_none, Option.map_some, Option.map_none, owns, List.mapM_cons, List.mapM_nil, List.set_cons_zero, List.set_cons_succ, gv_0, gv_1, gv_2, gv_3, gv_4, gv_5, gv_6, gv_7, gv_8, gv_9, gv_10, gv_11, gv_12, gv_13, ev_pure, ev_bind, wipeE, dI0, resP, resM, resF, dCmp, dGt, dLt, dLe, dGe, ix30, ix31, ix32, List.length_cons, List.length_nil, Nat.zero_add, Nat.reduceAdd, List.set_cons_zero, Bool.true_eq_false, Bool.false_eq_true, if_true, if_false, ite_true, ite_false, decide_true, decide_false, dInt, sz0, sz1, sz2, sz3, sz4, sz5, sz6, sz7]) rfl ?_ ?_)
  · rintro p r q e hpq rfl
    obtain ⟨hp, hr⟩ := h.split hpq
    have A := ag_ok (n := basis.length) hv hb h1 hp
    have hpl : p.length + q.length + 1 = basis.length := by rw [hpq]; simp; omega
    generalize ha : agF basis.length p v = a at A
    rw [agF_snoc, ha]
    refine ⟨[some (.list (basis.map rowD)), some d, some (intsD a.rest), some (.int a.scale), some (intsD a.fnd), some (.int (r.piv : Nat)), some (intsD r.row), some (intsD r.par), none, none, none, none, none, none], by unfold agE; simp only [fSeq, fNext, sIf, sIfP, sAsg, sAsgP, sDrop, sPar, sPar3, sAug, sRet, sRetP, sRetO, sForget, sAsgF, sMut, sSetI, setAt, fIxO, fIxP, dAt, fFlat, gCallM, gPop, f2, g2, f1, fNil, fCons, gNilE, gConsE, fCall, gCall, fLst, fTup, gLstE, gTupE, fTest, gTest, fAnd, fOr, fNot, gAnd, gOr, gNot, fIf, gIf, fAndV, fOrV, fNotV, fChain, fRev, tgTup, tgCons, tgNil, up, asB, asL, asT, asI, asS, enumA, zipA, zipB, setE, Option.bind_some, Option.bind_none, Option.map_some, Option.map_none, owns, List.mapM_cons, List.mapM_nil, List.set_cons_zero, List.set_cons_succ, gv_0, gv_1, gv_2, gv_3, gv_4, gv_5, gv_6, gv_7, gv_8, gv_9, gv_10, gv_11, gv_12, gv_13, ev_pure, ev_bind, wipeE, dI0, resP, resM, resF, dCmp, dGt, dLt, dLe, dGe, ix30, ix31, ix32, List.length_cons, List.length_nil, Nat.zero_add, Nat.reduceAdd, List.set_cons_zero, Bool.true_eq_false, Bool.false_eq_true, if_true, if_false, ite_true, ite_false, decide_true, decide_false, dInt, sz0, sz1, sz2, sz3, sz4, sz5, sz6, sz7, rowD], ?_⟩
    have it : r.piv < a.rest.length := by rw [A.rl]; exact hr.pv
    have ib : r.piv < r.row.length := by rw [hr.rl]; exact hr.pv
    have x1 : dIx (intsD a.rest) (.int (r.piv : Nat)) = some (.int (a.rest.getD r.piv 0)) := ix_get it
    have x2 : dIx (intsD r.row) (.int (r.piv : Nat)) = some (.int (r.row.getD r.piv 0)) := ix_get ib
    have bt := A.rb _ (getD_mem it)
    have bb := hr.rb _ (getD_mem ib)
    have xk : xb b p.length + xb b p.length ≤ 1000000 := by
      have := xb_mono (b := b) (show p.length ≤ basis.length by omega)
      omega
    unfold agStep
    generalize a.rest.getD r.piv 0 = top at *
    generalize r.row.getD r.piv 0 = bot at *
    unfold B2_against
    refine wp_forget (wp_seq (Wp.of (a := .nx [some (.list (basis.map rowD)), some d, some (intsD a.rest), some (.int a.scale), some (intsD a.fnd), some (.int (r.piv : Nat)), some (intsD r.row), some (intsD r.par), some (.int top), some (.int bot), none, none, none, none]) (by simp only [fSeq, fNext, sIf, sIfP, sAsg, sAsgP, sDrop, sPar, sPar3, sAug, sRet, sRetP, sRetO, sForget, sAsgF, sMut, sSetI, setAt, fIxO, fIxP, dAt, fFlat, gCallM, gPop, f2, g2, f1, fNil, fCons, gNilE, gConsE, fCall, gCall, fLst, fTup, gLstE, gTupE, fTest, gTest, fAnd, fOr, fNot, gAnd, gOr, gNot, fIf, gIf, fAndV, fOrV, fNotV, fChain, fRev, tgTup, tgCons, tgNil, up, asB, asL, asT, asI, asS, enumA, zipA, zipB, setE, Option.bind_some, Option.bind_none, Option.map_some, Option.map_none, owns, List.mapM_cons, List.mapM_nil, List.set_cons_zero, List.set_cons_succ, gv_0, gv_1, gv_2, gv_3, gv_4, gv_5, gv_6, gv_7, gv_8, gv_9, gv_10, gv_11, gv_12, gv_13, ev_pure, ev_bind, wipeE, dI0, resP, resM, resF, dCmp, dGt, dLt, dLe, dGe, ix30, ix31, ix32, List.length_cons, List.length_nil, Nat.zero_add, Nat.reduceAdd, List.set_cons_zero, Bool.true_eq_false, Bool.false_eq_true, if_true, if_false, ite_true, ite_false, decide_true, decide_false, dInt, sz0, sz1, sz2, sz3, sz4, sz5, sz6, sz7, x1, x2]) ?_))
    refine wp_ifP (!decide (top = 0)) (by simp only [fSeq, fNext, sIf, sIfP, sAsg, sAsgP, sDrop, sPar, sPar3, sAug, sRet, sRetP, sRetO, sForget, sAsgF, sMut, sSetI, setAt, fIxO, fIxP, dAt, fFlat, gCallM, gPop, f2, g2, f1, fNil, fCons, gNilE, gConsE, fCall, gCall, fLst, fTup, gLstE, gTupE, fTest, gTest, fAnd, fOr, fNot, gAnd, gOr, gNot, fIf, gIf, fAndV, fOrV, fNotV, fChain, fRev, tgTup, tgCons, tgNil, up, asB, asL, asT, asI, asS, enumA, zipA, zipB, setE, Option.bind_some, Option.bind_none, Option.map_some, Option.map_none, owns, List.mapM_cons, List.mapM_nil, List.set_cons_zero, List.set_cons_succ, gv_0, gv_1, gv_2, gv_3, gv_4, gv_5, gv_6, gv_7, gv_8, gv_9, gv_10, gv_11, gv_12, gv_13, ev_pure, ev_bind, wipeE, dI0, resP, resM, resF, dCmp, dGt, dLt, dLe, dGe, ix30, ix31, ix32, List.length_cons, List.length_nil, Nat.zero_add, Nat.reduceAdd, List.set_cons_zero, Bool.true_eq_false, Bool.false_eq_true, if_true, if_false, ite_true, ite_false, decide_true, decide_false, dInt, sz0, sz1, sz2, sz3, sz4, sz5, sz6, sz7, dEq_nei]) (fun hc => ?_) (fun hc => ?_)
    · have hc : ¬ top = 0 := by simpa using hc
      have eC1 : C1_against [some (.list (basis.map rowD)), some d, some (intsD a.rest), some (.int a.scale), some (intsD a.fnd), some (.int (r.piv : Nat)), some (intsD r.row), some (intsD r.par), some (.int top), some (.int bot), none, none, none, none] = some (intsD ((a.rest.zip r.row).map fun p => bot * p.1 - top * p.2)) := by
        unfold C1_against
        rw [← fmI]
        refine lcF_map (fun p : Int × Int => PyData.tuple [.int p.1, .int p.2]) (a.rest.zip r.row) (fun p => some (.int (bot * p.1 - top * p.2))) (by show zipB [intsD a.rest, intsD r.row] = _; exact zip_ints _ _) (fun x hx => ?_)
        have m1 := mulB bb (A.rb _ (List.of_mem_zip hx).1) xk
        have m2 := mulB bt (hr.rb _ (List.of_mem_zip hx).2) xk
        simp only [fSeq, fNext, sIf, sIfP, sAsg, sAsgP, sDrop, sPar, sPar3, sAug, sRet, sRetP, sRetO, sForget, sAsgF, sMut, sSetI, setAt, fIxO, fIxP, dAt, fFlat, gCallM, gPop, f2, g2, f1, fNil, fCons, gNilE, gConsE, fCall, gCall, fLst, fTup, gLstE, gTupE, fTest, gTest, fAnd, fOr, fNot, gAnd, gOr, gNot, fIf, gIf, fAndV, fOrV, fNotV, fChain, fRev, tgTup, tgCons, tgNil, up, asB, asL, asT, asI, asS, enumA, zipA, zipB, setE, Option.bind_some, Option.bind_none, Option.map_some, Option.map_none, owns, List.mapM_cons, List.mapM_nil, List.set_cons_zero, List.set_cons_succ, gv_0, gv_1, gv_2, gv_3, gv_4, gv_5, gv_6, gv_7, gv_8, gv_9, gv_10, gv_11, gv_12, gv_13, ev_pure, ev_bind, wipeE, dI0, resP, resM, resF, dCmp, dGt, dLt, dLe, dGe, ix30, ix31, ix32, List.length_cons, List.length_nil, Nat.zero_add, Nat.reduceAdd, List.set_cons_zero, Bool.true_eq_false, Bool.false_eq_true, if_true, if_false, ite_true, ite_false, decide_true, decide_false, dInt, sz0, sz1, sz2, sz3, sz4, sz5, sz6, sz7, m1, m2]
      have eC2 : ∀ s rest : D, C2_against [some (.list (basis.map rowD)), some d, some rest, some s, some (intsD a.fnd), some (.int (r.piv : Nat)), some (intsD r.row), some (intsD r.par), some (.int top), some (.int bot), none, none, none, none] = some (intsD (a.fnd.map fun x => bot * x)) := fun s rest => by
        unfold C2_against
        rw [← fmI]
        refine lcF_map PyData.int a.fnd (fun x => some (.int (bot * x))) (by simp only [fSeq, fNext, sIf, sIfP, sAsg, sAsgP, sDrop, sPar, sPar3, sAug, sRet, sRetP, sRetO, sForget, sAsgF, sMut, sSetI, setAt, fIxO, fIxP, dAt, fFlat, gCallM, gPop, f2, g2, f1, fNil, fCons, gNilE, gConsE, fCall, gCall, fLst, fTup, gLstE, gTupE, fTest, gTest, fAnd, fOr, fNot, gAnd, gOr, gNot, fIf, gIf, fAndV, fOrV, fNotV, fChain, fRev, tgTup, tgCons, tgNil, up, asB, asL, asT, asI, asS, enumA, zipA, zipB, setE, Option.bind_some, Option.bind_none, Option.map_some, Option.map_none, owns, List.mapM_cons, List.mapM_nil, List.set_cons_zero, List.set_cons_succ, gv_0, gv_1, gv_2, gv_3, gv_4, gv_5, gv_6, gv_7, gv_8, gv_9, gv_10, gv_11, gv_12, gv_13, ev_pure, ev_bind, wipeE, dI0, resP, resM, resF, dCmp, dGt, dLt, dLe, dGe, ix30, ix31, ix32, List.length_cons, List.length_nil, Nat.zero_add, Nat.reduceAdd, List.set_cons_zero, Bool.true_eq_false, Bool.false_eq_true, if_true, if_false, ite_true, ite_false, decide_true, decide_false, dInt, sz0, sz1, sz2, sz3, sz4, sz5, sz6, sz7, intsD]) (fun x hx => ?_)
        have m1 := mulB bb (A.fb x hx) xk
        simp only [fSeq, fNext, sIf, sIfP, sAsg, sAsgP, sDrop, sPar, sPar3, sAug, sRet, sRetP, sRetO, sForget, sAsgF, sMut, sSetI, setAt, fIxO, fIxP, dAt, fFlat, gCallM, gPop, f2, g2, f1, fNil, fCons, gNilE, gConsE, fCall, gCall, fLst, fTup, gLstE, gTupE, fTest, gTest, fAnd, fOr, fNot, gAnd, gOr, gNot, fIf, gIf, fAndV, fOrV, fNotV, fChain, fRev, tgTup, tgCons, tgNil, up, asB, asL, asT, asI, asS, enumA, zipA, zipB, setE, Option.bind_some, Option.bind_none, Option.map_some, Option.map_none, owns, List.mapM_cons, List.mapM_nil, List.set_cons_zero, List.set_cons_succ, gv_0, gv_1, gv_2, gv_3, gv_4, gv_5, gv_6, gv_7, gv_8, gv_9, gv_10, gv_11, gv_12, gv_13, ev_pure, ev_bind, wipeE, dI0, resP, resM, resF, dCmp, dGt, dLt, dLe, dGe, ix30, ix31, ix32, List.length_cons, List.length_nil, Nat.zero_add, Nat.reduceAdd, List.set_cons_zero, Bool.true_eq_false, Bool.false_eq_true, if_true, if_false, ite_true, ite_false, decide_true, decide_false, dInt, sz0, sz1, sz2, sz3, sz4, sz5, sz6, sz7, m1]
      have m3 := mulB A.sb bb xk
      refine wp_st [some (.list (basis.map rowD)), some d, some (intsD ((a.rest.zip r.row).map fun p => bot * p.1 - top * p.2)), some (.int a.scale), some (intsD a.fnd), some (.int (r.piv : Nat)), some (intsD r.row), some (intsD r.par), some (.int top), some (.int bot), none, none, none, none] (by simp only [fSeq, fNext, sIf, sIfP, sAsg, sAsgP, sDrop, sPar, sPar3, sAug, sRet, sRetP, sRetO, sForget, sAsgF, sMut, sSetI, setAt, fIxO, fIxP, dAt, fFlat, gCallM, gPop, f2, g2, f1, fNil, fCons, gNilE, gConsE, fCall, gCall, fLst, fTup, gLstE, gTupE, fTest, gTest, fAnd, fOr, fNot, gAnd, gOr, gNot, fIf, gIf, fAndV, fOrV, fNotV, fChain, fRev, tgTup, tgCons, tgNil, up, asB, asL, asT, asI, asS, enumA, zipA, zipB, setE, Option.bind_some, Option.bind_none, Option.map_some, Option.map_none, owns, List.mapM_cons, List.mapM_nil, List.set_cons_zero, List.set_cons_succ, gv_0, gv_1, gv_2, gv_3, gv_4, gv_5, gv_6, gv_7, gv_8, gv_9, gv_10, gv_11, gv_12, gv_13, ev_pure, ev_bind, wipeE, dI0, resP, resM, resF, dCmp, dGt, dLt, dLe, dGe, ix30, ix31, ix32, List.length_cons, List.length_nil, Nat.zero_add, Nat.reduceAdd, List.set_cons_zero, Bool.true_eq_false, Bool.false_eq_true, if_true, if_false, ite_true, ite_false, decide_true, decide_false, dInt, sz0, sz1, sz2, sz3, sz4, sz5, sz6, sz7, eC1]) ?_
      generalize (a.rest.zip r.row).map (fun p => bot * p.1 - top * p.2) = rest'
      refine wp_st [some (.list (basis.map rowD)), some d, some (intsD rest'), some (.int (a.scale * bot)), some (intsD a.fnd), some (.int (r.piv : Nat)), some (intsD r.row), some (intsD r.par), some (.int top), some (.int bot), none, none, none, none] (by simp only [fSeq, fNext, sIf, sIfP, sAsg, sAsgP, sDrop, sPar, sPar3, sAug, sRet, sRetP, sRetO, sForget, sAsgF, sMut, sSetI, setAt, fIxO, fIxP, dAt, fFlat, gCallM, gPop, f2, g2, f1, fNil, fCons, gNilE, gConsE, fCall, gCall, fLst, fTup, gLstE, gTupE, fTest, gTest, fAnd, fOr, fNot, gAnd, gOr, gNot, fIf, gIf, fAndV, fOrV, fNotV, fChain, fRev, tgTup, tgCons, tgNil, up, asB, asL, asT, asI, asS, enumA, zipA, zipB, setE, Option.bind_some, Option.bind_none, Option.map_some, Option.map_none, owns, List.mapM_cons, List.mapM_nil, List.set_cons_zero, List.set_cons_succ, gv_0, gv_1, gv_2, gv_3, gv_4, gv_5, gv_6, gv_7, gv_8, gv_9, gv_10, gv_11, gv_12, gv_13, ev_pure, ev_bind, wipeE, dI0, resP, resM, resF, dCmp, dGt, dLt, dLe, dGe, ix30, ix31, ix32, List.length_cons, List.length_nil, Nat.zero_add, Nat.reduceAdd, List.set_cons_zero, Bool.true_eq_false, Bool.false_eq_true, if_true, if_false, ite_true, ite_false, decide_true, decide_false, dInt, sz0, sz1, sz2, sz3, sz4, sz5, sz6, sz7, m3]) ?_
      refine wp_st [some (.list (basis.map rowD)), some d, some (intsD rest'), some (.int (a.scale * bot)), some (intsD (a.fnd.map fun x => bot * x)), some (.int (r.piv : Nat)), some (intsD r.row), some (intsD r.par), some (.int top), some (.int bot), none, none, none, none] ?_ ?_
      · unfold sReF fBor
        rw [eC2, Option.bind_some]
        show ((asL (intsD _)).bind _ |>.bind _) = _
        simp only [intsD, asL, Option.bind_some, noL_ints, if_true]
        rw [if_pos (by simp)]
        rfl
      have hfl : (a.fnd.map fun x => bot * x).length = basis.length := by rw [List.length_map]; exact A.fl
      have hfb : Bd (2 * xb b p.length + 1) (a.fnd.map fun x => bot * x) := fun y hy => by
        obtain ⟨z, hz, rfl⟩ := List.mem_map.mp hy
        exact one_bound bb (A.fb z hz)
      generalize (a.fnd.map fun x => bot * x) = fs at *
      refine wp_for (fun x : Int × Nat => PyData.tuple [.int (x.2 : Nat), .int x.1]) r.par.zipIdx (fun pp e => e = [some (.list (basis.map rowD)), some d, some (intsD rest'), some (.int (a.scale * bot)), some (intsD (addPar top fs (pp.map (·.1)))), some (.int (r.piv : Nat)), some (intsD r.row), some (intsD r.par), some (.int top), some (.int bot), none, none, none, none]) (env1 := [some (.list (basis.map rowD)), some d, some (intsD rest'), some (.int (a.scale * bot)), some (intsD fs), some (.int (r.piv : Nat)), some (intsD r.row), some (intsD r.par), some (.int top), some (.int bot), none, none, none, none]) (by simp only [fSeq, fNext, sIf, sIfP, sAsg, sAsgP, sDrop, sPar, sPar3, sAug, sRet, sRetP, sRetO, sForget, sAsgF, sMut, sSetI, setAt, fIxO, fIxP, dAt, fFlat, gCallM, gPop, f2, g2, f1, fNil, fCons, gNilE, gConsE, fCall, gCall, fLst, fTup, gLstE, gTupE, fTest, gTest, fAnd, fOr, fNot, gAnd, gOr, gNot, fIf, gIf, fAndV, fOrV, fNotV, fChain, fRev, tgTup, tgCons, tgNil, up, asB, asL, asT, asI, asS, enumA, zipA, zipB, setE, Option.bind_some, Option.bind_none, Option.map_some, Option.map_none, owns, List.mapM_cons, List.mapM_nil, List.set_cons_zero, List.set_cons_succ, gv_0, gv_1, gv_2, gv_3, gv_4, gv_5, gv_6, gv_7, gv_8, gv_9, gv_10, gv_11, gv_12, gv_13, ev_pure, ev_bind, wipeE, dI0, resP, resM, resF, dCmp, dGt, dLt, dLe, dGe, ix30, ix31, ix32, List.length_cons, List.length_nil, Nat.zero_add, Nat.reduceAdd, List.set_cons_zero, Bool.true_eq_false, Bool.false_eq_true, if_true, if_false, ite_true, ite_false, decide_true, decide_false, dInt, sz0, sz1, sz2, sz3, sz4, sz5, sz6, sz7, intsD, enumD_map]) (by cases fs <;> rfl) ?_ ?_
      · rintro pp x qq e hx rfl
        obtain ⟨z1, z2, z3⟩ := zipIdx_cut hx
        refine ⟨[some (.list (basis.map rowD)), some d, some (intsD rest'), some (.int (a.scale * bot)), some (intsD (addPar top fs (pp.map (·.1)))), some (.int (r.piv : Nat)), some (intsD r.row), some (intsD r.par), some (.int top), some (.int bot), none, none, some (.int (x.2 : Nat)), some (.int x.1)], by simp only [fSeq, fNext, sIf, sIfP, sAsg, sAsgP, sDrop, sPar, sPar3, sAug, sRet, sRetP, sRetO, sForget, sAsgF, sMut, sSetI, setAt, fIxO, fIxP, dAt, fFlat, gCallM, gPop, f2, g2, f1, fNil, fCons, gNilE, gConsE, fCall, gCall, fLst, fTup, gLstE, gTupE, fTest, gTest, fAnd, fOr, fNot, gAnd, gOr, gNot, fIf, gIf, fAndV, fOrV, fNotV, fChain, fRev, tgTup, tgCons, tgNil, up, asB, asL, asT, asI, asS, enumA, zipA, zipB, setE, Option.bind_some, Option.bind_none, Option.map_some, Option.map_none, owns, List.mapM_cons, List.mapM_nil, List.set_cons_zero, List.set_cons_succ, gv_0, gv_1, gv_2, gv_3, gv_4, gv_5, gv_6, gv_7, gv_8, gv_9, gv_10, gv_11, gv_12, gv_13, ev_pure, ev_bind, wipeE, dI0, resP, resM, resF, dCmp, dGt, dLt, dLe, dGe, ix30, ix31, ix32, List.length_cons, List.length_nil, Nat.zero_add, Nat.reduceAdd, List.set_cons_zero, Bool.true_eq_false, Bool.false_eq_true, if_true, if_false, ite_true, ite_false, decide_true, decide_false, dInt, sz0, sz1, sz2, sz3, sz4, sz5, sz6, sz7], ?_⟩
        have hl1 : (pp.map (·.1)).length < fs.length := by rw [List.length_map, hfl]; have := hr.pl; omega
        obtain ⟨s1, s2⟩ := addPar_snoc top x.1 fs (pp.map (·.1)) hl1
        have hl2 : pp.length < (addPar top fs (pp.map (·.1))).length := by rw [addPar_len]; simpa using hl1
        rw [List.length_map] at s1 s2
        have hxp : x.1 ∈ r.par := by
          have : x ∈ r.par.zipIdx := by rw [hx]; simp
          exact List.fst_mem_of_mem_zipIdx this
        have m4 := mulB bt (hr.pb _ hxp) xk
        have g1 := dAt_get hl2
        have g2' := setAt_ii (v := fs.getD pp.length 0 + top * x.1) hl2
        rw [s2] at g1
        unfold dAt at g1
        unfold setAt at g2'
        unfold B1_against
        refine wp_forget (Wp.of (a := .nx [some (.list (basis.map rowD)), some d, some (intsD rest'), some (.int (a.scale * bot)), some (intsD (addPar top fs ((pp ++ [x]).map (·.1)))), some (.int (r.piv : Nat)), some (intsD r.row), some (intsD r.par), some (.int top), some (.int bot), none, none, some (.int (x.2 : Nat)), some (.int x.1)]) ?_ ?_)
        · rw [z2, s1, z1]
          simp only [fSeq, fNext, sIf, sIfP, sAsg, sAsgP, sDrop, sPar, sPar3, sAug, sRet, sRetP, sRetO, sForget, sAsgF, sMut, sSetI, setAt, fIxO, fIxP, dAt, fFlat, gCallM, gPop, f2, g2, f1, fNil, fCons, gNilE, gConsE, fCall, gCall, fLst, fTup, gLstE, gTupE, fTest, gTest, fAnd, fOr, fNot, gAnd, gOr, gNot, fIf, gIf, fAndV, fOrV, fNotV, fChain, fRev, tgTup, tgCons, tgNil, up, asB, asL, asT, asI, asS, enumA, zipA, zipB, setE, Option.bind_some, Option.bind_none, Option.map_some, Option.map_none, owns, List.mapM_cons, List.mapM_nil, List.set_cons_zero, List.set_cons_succ, gv_0, gv_1, gv_2, gv_3, gv_4, gv_5, gv_6, gv_7, gv_8, gv_9, gv_10, gv_11, gv_12, gv_13, ev_pure, ev_bind, wipeE, dI0, resP, resM, resF, dCmp, dGt, dLt, dLe, dGe, ix30, ix31, ix32, List.length_cons, List.length_nil, Nat.zero_add, Nat.reduceAdd, List.set_cons_zero, Bool.true_eq_false, Bool.false_eq_true, if_true, if_false, ite_true, ite_false, decide_true, decide_false, dInt, sz0, sz1, sz2, sz3, sz4, sz5, sz6, sz7, intsD, m4, g1, g2', dAdd_i]
        · rfl
      · rintro e' rfl
        show wipeE _ _ = _
        rw [show r.par.zipIdx.map (·.1) = r.par by simp, if_neg hc]
        rfl
    · have hc : top = 0 := by simpa using hc
      refine Wp.of (a := .nx [some (.list (basis.map rowD)), some d, some (intsD a.rest), some (.int a.scale), some (intsD a.fnd), some (.int (r.piv : Nat)), some (intsD r.row), some (intsD r.par), some (.int top), some (.int bot), none, none, none, none]) rfl ?_
      show wipeE _ _ = _
      rw [if_pos hc]
      rfl
  · rintro e' rfl
    generalize agF basis.length basis v = a
    exact Wp.of (a := .rt (agD a) []) (by unfold agE; simp only [fSeq, fNext, sIf, sIfP, sAsg, sAsgP, sDrop, sPar, sPar3, sAug, sRet, sRetP, sRetO, sForget, sAsgF, sMut, sSetI, setAt, fIxO, fIxP, dAt, fFlat, gCallM, gPop, f2, g2, f1, fNil, fCons, gNilE, gConsE, fCall, gCall, fLst, fTup, gLstE, gTupE, fTest, gTest, fAnd, fOr, fNot, gAnd, gOr, gNot, fIf, gIf, fAndV, fOrV, fNotV, fChain, fRev, tgTup, tgCons, tgNil, up, asB, asL, asT, asI, asS, enumA, zipA, zipB, setE, Option.bind_some, Option.bind_none, Option.map_some, Option.map_none, owns, List.mapM_cons, List.mapM_nil, List.set_cons_zero, List.set_cons_succ, gv_0, gv_1, gv_2, gv_3, gv_4, gv_5, gv_6, gv_7, gv_8, gv_9, gv_10, gv_11, gv_12, gv_13, ev_pure, ev_bind, wipeE, dI0, resP, resM, resF, dCmp, dGt, dLt, dLe, dGe, ix30, ix31, ix32, List.length_cons, List.length_nil, Nat.zero_add, Nat.reduceAdd, List.set_cons_zero, Bool.true_eq_false, Bool.false_eq_true, if_true, if_false, ite_true, ite_false, decide_true, decide_false, dInt, sz0, sz1, sz2, sz3, sz4, sz5, sz6, sz7]; rfl) rfl
end CSk21

namespace CSk21
open PySem CS
theorem dFd {a l : Int} {k : Nat} (h0 : l ≠ 0) (h : l.natAbs < 2 ^ k) (hk : k ≤ 9000) : dFdiv (.int a) (.int l) = some (.int (a.fdiv l)) := dI_pos (C := COkDiv) ⟨h0, log2_small h hk⟩
theorem zip_first {t : Nat → D} : ∀ {l : List Int} {k : Nat}, (∃ x ∈ l, x ≠ 0) → ∃ r, ((l.zipIdx k).filterMap fun p => if p.1 ≠ 0 then some (t p.2) else none) = t (k + l.findIdx (· ≠ 0)) :: r
  | [], _, h => by obtain ⟨x, hx, _⟩ := h; simp at hx
  | y :: l, k, h => by
    by_cases c : y = 0
    · subst c
      obtain ⟨r, hr⟩ := zip_first (t := t) (l := l) (k := k + 1) (by
        obtain ⟨x, hx, h0⟩ := h
        rcases List.mem_cons.mp hx with rfl | hx
        · exact absurd rfl h0
        · exact ⟨x, hx, h0⟩)
      refine ⟨r, ?_⟩
      rw [List.zipIdx_cons, List.filterMap_cons_none (by simp), hr, List.findIdx_cons]
      simp only [ne_eq, not_true_eq_false, decide_false, cond_false]
      rw [Nat.add_assoc, Nat.add_comm 1]
    · refine ⟨(l.zipIdx (k + 1)).filterMap fun p => if p.1 ≠ 0 then some (t p.2) else none, ?_⟩
      rw [List.zipIdx_cons, List.filterMap_cons_some (b := t k) (by simp [c]), List.findIdx_cons]
      simp [c]
theorem sized_i {l : List D} (h : l.length ≤ 1000000) : sized l = some l := sized_le (by have := sizeL; omega)
theorem least_bd {b size n : Nat} {p : List Row} {a : Ag} (h : AgOk b size n p a) : (leastOf a).natAbs < 2 ^ xb b p.length := by
  obtain ⟨l1, l2, l3⟩ := least_ne h.sp
  rw [l2]
  exact Nat.lt_of_le_of_lt (gcdF_le (x := a.scale) (by simp) (by have := h.sp; omega) (Nat.le_refl _)) h.sb
theorem rowof_is {b size : Nat} {p : List Row} {a : Ag} (h : AgOk b size p.length p a) (hn : ∃ x ∈ a.rest, x ≠ 0) (hx : xb b p.length ≤ 9000) (hs : size ≤ 1000) (hp : p.length ≤ 1000) : g_row_of [intsD a.rest, .int a.scale, intsD a.fnd] = some (rowD (rowOf a)) := by
  obtain ⟨qf, qn⟩ := find_spec hn
  obtain ⟨l1, l2, l3⟩ := least_ne h.sp
  have lb := least_bd h
  have hl1 := h.rl
  have hl2 := h.fl
  refine wp_get (F := F_row_of) (env := [some (intsD a.rest), some (.int a.scale), some (intsD a.fnd), none, none, none, none, none]) (by rw [g_row_of_eq]; rfl) ?_
  unfold F_row_of
  have e1 : ∃ r, C1_row_of [some (intsD a.rest), some (.int a.scale), some (intsD a.fnd), none, none, none, none, none] = some (.list (PyData.int ((a.rest.findIdx (· ≠ 0) : Nat) : Int) :: r)) := by
    obtain ⟨r, hr⟩ := zip_first (t := fun i : Nat => PyData.int (i : Int)) (k := 0) hn
    refine ⟨r, ?_⟩
    rw [Nat.zero_add] at hr
    rw [← hr]
    unfold C1_row_of
    refine lcF_map (fun p : Int × Nat => PyData.tuple [.int (p.2 : Nat), .int p.1]) (a.rest.zipIdx) (fun p => if p.1 ≠ 0 then some (.int (p.2 : Nat)) else none) (by simp only [fSeq, fNext, sIf, sIfP, sAsg, sAsgP, sDrop, sPar, sPar3, sAug, sRet, sRetP, sRetO, sForget, sAsgF, sMut, sSetI, setAt, fIxO, fIxP, dAt, fFlat, gCallM, gPop, f2, g2, f1, fNil, fCons, gNilE, gConsE, fCall, gCall, fLst, fTup, gLstE, gTupE, fTest, gTest, fAnd, fOr, fNot, gAnd, gOr, gNot, fIf, gIf, fAndV, fOrV, fNotV, fChain, fRev, tgTup, tgCons, tgNil, up, asB, asL, asT, asI, asS, enumA, zipA, zipB, setE, Option.bind_some, Option.bind_none, Option.map_some, Option.map_none, owns, List.mapM_cons, List.mapM_nil, List.set_cons_zero, List.set_cons_succ, gv_0, gv_1, gv_2, gv_3, gv_4, gv_5, gv_6, gv_7, gv_8, gv_9, gv_10, gv_11, gv_12, gv_13, ev_pure, ev_bind, wipeE, dI0, resP, resM, resF, dCmp, dGt, dLt, dLe, dGe, ix30, ix31, ix32, List.length_cons, List.length_nil, Nat.zero_add, Nat.reduceAdd, List.set_cons_zero, Bool.true_eq_false, Bool.false_eq_true, if_true, if_false, ite_true, ite_false, decide_true, decide_false, dInt, sz0, sz1, sz2, sz3, sz4, sz5, sz6, sz7, intsD, enumD_map]) (fun x hx => ?_)
    by_cases c : x.1 = 0
    · simp only [fSeq, fNext, sIf, sIfP, sAsg, sAsgP, sDrop, sPar, sPar3, sAug, sRet, sRetP, sRetO, sForget, sAsgF, sMut, sSetI, setAt, fIxO, fIxP, dAt, fFlat, gCallM, gPop, f2, g2, f1, fNil, fCons, gNilE, gConsE, fCall, gCall, fLst, fTup, gLstE, gTupE, fTest, gTest, fAnd, fOr, fNot, gAnd, gOr, gNot, fIf, gIf, fAndV, fOrV, fNotV, fChain, fRev, tgTup, tgCons, tgNil, up, asB, asL, asT, asI, asS, enumA, zipA, zipB, setE, Option.bind_some, Option.bind_none, Option.map_some, Option.map_none, owns, List.mapM_cons, List.mapM_nil, List.set_cons_zero, List.set_cons_succ, gv_0, gv_1, gv_2, gv_3, gv_4, gv_5, gv_6, gv_7, gv_8, gv_9, gv_10, gv_11, gv_12, gv_13, ev_pure, ev_bind, wipeE, dI0, resP, resM, resF, dCmp, dGt, dLt, dLe, dGe, ix30, ix31, ix32, List.length_cons, List.length_nil, Nat.zero_add, Nat.reduceAdd, List.set_cons_zero, Bool.true_eq_false, Bool.false_eq_true, if_true, if_false, ite_true, ite_false, decide_true, decide_false, dInt, sz0, sz1, sz2, sz3, sz4, sz5, sz6, sz7, dEq_nei, c, Bool.not_true, ne_eq, not_true_eq_false]
    · simp only [fSeq, fNext, sIf, sIfP, sAsg, sAsgP, sDrop, sPar, sPar3, sAug, sRet, sRetP, sRetO, sForget, sAsgF, sMut, sSetI, setAt, fIxO, fIxP, dAt, fFlat, gCallM, gPop, f2, g2, f1, fNil, fCons, gNilE, gConsE, fCall, gCall, fLst, fTup, gLstE, gTupE, fTest, gTest, fAnd, fOr, fNot, gAnd, gOr, gNot, fIf, gIf, fAndV, fOrV, fNotV, fChain, fRev, tgTup, tgCons, tgNil, up, asB, asL, asT, asI, asS, enumA, zipA, zipB, setE, Option.bind_some, Option.bind_none, Option.map_some, Option.map_none, owns, List.mapM_cons, List.mapM_nil, List.set_cons_zero, List.set_cons_succ, gv_0, gv_1, gv_2, gv_3, gv_4, gv_5, gv_6, gv_7, gv_8, gv_9, gv_10, gv_11, gv_12, gv_13, ev_pure, ev_bind, wipeE, dI0, resP, resM, resF, dCmp, dGt, dLt, dLe, dGe, ix30, ix31, ix32, List.length_cons, List.length_nil, Nat.zero_add, Nat.reduceAdd, List.set_cons_zero, Bool.true_eq_false, Bool.false_eq_true, if_true, if_false, ite_true, ite_false, decide_true, decide_false, dInt, sz0, sz1, sz2, sz3, sz4, sz5, sz6, sz7, dEq_nei, c, Bool.not_false, ne_eq, not_false_eq_true]
  obtain ⟨r, e1⟩ := e1
  have e2 : dIx (.list (PyData.int ((a.rest.findIdx (· ≠ 0) : Nat) : Int) :: r)) (.int 0) = some (PyData.int ((a.rest.findIdx (· ≠ 0) : Nat) : Int)) := atI_0
  refine wp_st [some (intsD a.rest), some (.int a.scale), some (intsD a.fnd), some (.int ((a.rest.findIdx (· ≠ 0) : Nat) : Int)), none, none, none, none] (by simp only [fSeq, fNext, sIf, sIfP, sAsg, sAsgP, sDrop, sPar, sPar3, sAug, sRet, sRetP, sRetO, sForget, sAsgF, sMut, sSetI, setAt, fIxO, fIxP, dAt, fFlat, gCallM, gPop, f2, g2, f1, fNil, fCons, gNilE, gConsE, fCall, gCall, fLst, fTup, gLstE, gTupE, fTest, gTest, fAnd, fOr, fNot, gAnd, gOr, gNot, fIf, gIf, fAndV, fOrV, fNotV, fChain, fRev, tgTup, tgCons, tgNil, up, asB, asL, asT, asI, asS, enumA, zipA, zipB, setE, Option.bind_some, Option.bind_none, Option.map_some, Option.map_none, owns, List.mapM_cons, List.mapM_nil, List.set_cons_zero, List.set_cons_succ, gv_0, gv_1, gv_2, gv_3, gv_4, gv_5, gv_6, gv_7, gv_8, gv_9, gv_10, gv_11, gv_12, gv_13, ev_pure, ev_bind, wipeE, dI0, resP, resM, resF, dCmp, dGt, dLt, dLe, dGe, ix30, ix31, ix32, List.length_cons, List.length_nil, Nat.zero_add, Nat.reduceAdd, List.set_cons_zero, Bool.true_eq_false, Bool.false_eq_true, if_true, if_false, ite_true, ite_false, decide_true, decide_false, dInt, sz0, sz1, sz2, sz3, sz4, sz5, sz6, sz7, e1, e2]) ?_
  have e3 : fLst (fStar (gv 0) (fCons (gv 1) (fStar (gv 2) fNil))) [some (intsD a.rest), some (.int a.scale), some (intsD a.fnd), some (.int ((a.rest.findIdx (· ≠ 0) : Nat) : Int)), none, none, none, none] = some (intsD (a.rest ++ a.scale :: a.fnd)) := by
    unfold fLst fStar
    simp only [fSeq, fNext, sIf, sIfP, sAsg, sAsgP, sDrop, sPar, sPar3, sAug, sRet, sRetP, sRetO, sForget, sAsgF, sMut, sSetI, setAt, fIxO, fIxP, dAt, fFlat, gCallM, gPop, f2, g2, f1, fNil, fCons, gNilE, gConsE, fCall, gCall, fLst, fTup, gLstE, gTupE, fTest, gTest, fAnd, fOr, fNot, gAnd, gOr, gNot, fIf, gIf, fAndV, fOrV, fNotV, fChain, fRev, tgTup, tgCons, tgNil, up, asB, asL, asT, asI, asS, enumA, zipA, zipB, setE, Option.bind_some, Option.bind_none, Option.map_some, Option.map_none, owns, List.mapM_cons, List.mapM_nil, List.set_cons_zero, List.set_cons_succ, gv_0, gv_1, gv_2, gv_3, gv_4, gv_5, gv_6, gv_7, gv_8, gv_9, gv_10, gv_11, gv_12, gv_13, ev_pure, ev_bind, wipeE, dI0, resP, resM, resF, dCmp, dGt, dLt, dLe, dGe, ix30, ix31, ix32, List.length_cons, List.length_nil, Nat.zero_add, Nat.reduceAdd, List.set_cons_zero, Bool.true_eq_false, Bool.false_eq_true, if_true, if_false, ite_true, ite_false, decide_true, decide_false, dInt, sz0, sz1, sz2, sz3, sz4, sz5, sz6, sz7, intsD, List.append_nil]
    rw [sized_i (by simp; omega), Option.map_some]
    simp
  have e4 := divisor (l := a.rest ++ a.scale :: a.fnd) (d := intsD (a.rest ++ a.scale :: a.fnd)) rfl
  refine wp_st [some (intsD a.rest), some (.int a.scale), some (intsD a.fnd), some (.int ((a.rest.findIdx (· ≠ 0) : Nat) : Int)), none, none, some (.int (gcdF (a.rest ++ a.scale :: a.fnd) : Nat)), none] (by simp only [fCall, sAsgP, fCons, fNil, e3, Option.bind_some, Option.map_some, e4]; rfl) ?_
  have e5 : dIx (intsD a.rest) (.int ((a.rest.findIdx (· ≠ 0) : Nat) : Int)) = some (.int (a.rest.getD (a.rest.findIdx (· ≠ 0)) 0)) := ix_get qf
  refine wp_seq (Wp.imp (P := fun o => o = .nx [some (intsD a.rest), some (.int a.scale), some (intsD a.fnd), some (.int ((a.rest.findIdx (· ≠ 0) : Nat) : Int)), none, none, some (.int (leastOf a)), none]) (wp_ifP (decide (a.rest.getD (a.rest.findIdx (· ≠ 0)) 0 < 0)) (by simp only [fSeq, fNext, sIf, sIfP, sAsg, sAsgP, sDrop, sPar, sPar3, sAug, sRet, sRetP, sRetO, sForget, sAsgF, sMut, sSetI, setAt, fIxO, fIxP, dAt, fFlat, gCallM, gPop, f2, g2, f1, fNil, fCons, gNilE, gConsE, fCall, gCall, fLst, fTup, gLstE, gTupE, fTest, gTest, fAnd, fOr, fNot, gAnd, gOr, gNot, fIf, gIf, fAndV, fOrV, fNotV, fChain, fRev, tgTup, tgCons, tgNil, up, asB, asL, asT, asI, asS, enumA, zipA, zipB, setE, Option.bind_some, Option.bind_none, Option.map_some, Option.map_none, owns, List.mapM_cons, List.mapM_nil, List.set_cons_zero, List.set_cons_succ, gv_0, gv_1, gv_2, gv_3, gv_4, gv_5, gv_6, gv_7, gv_8, gv_9, gv_10, gv_11, gv_12, gv_13, ev_pure, ev_bind, wipeE, dI0, resP, resM, resF, dCmp, dGt, dLt, dLe, dGe, ix30, ix31, ix32, List.length_cons, List.length_nil, Nat.zero_add, Nat.reduceAdd, List.set_cons_zero, Bool.true_eq_false, Bool.false_eq_true, if_true, if_false, ite_true, ite_false, decide_true, decide_false, dInt, sz0, sz1, sz2, sz3, sz4, sz5, sz6, sz7, e5]) (fun hc => ?_) fun hc => ?_) ?_)
  · have hc := of_decide_eq_true hc
    have el : leastOf a = -((gcdF (a.rest ++ a.scale :: a.fnd) : Nat) : Int) := by unfold leastOf; dsimp only; rw [if_pos hc]
    rw [el]
    exact Wp.of (a := .nx [some (intsD a.rest), some (.int a.scale), some (intsD a.fnd), some (.int ((a.rest.findIdx (· ≠ 0) : Nat) : Int)), none, none, some (.int (-((gcdF (a.rest ++ a.scale :: a.fnd) : Nat) : Int))), none]) (by simp only [fSeq, fNext, sIf, sIfP, sAsg, sAsgP, sDrop, sPar, sPar3, sAug, sRet, sRetP, sRetO, sForget, sAsgF, sMut, sSetI, setAt, fIxO, fIxP, dAt, fFlat, gCallM, gPop, f2, g2, f1, fNil, fCons, gNilE, gConsE, fCall, gCall, fLst, fTup, gLstE, gTupE, fTest, gTest, fAnd, fOr, fNot, gAnd, gOr, gNot, fIf, gIf, fAndV, fOrV, fNotV, fChain, fRev, tgTup, tgCons, tgNil, up, asB, asL, asT, asI, asS, enumA, zipA, zipB, setE, Option.bind_some, Option.bind_none, Option.map_some, Option.map_none, owns, List.mapM_cons, List.mapM_nil, List.set_cons_zero, List.set_cons_succ, gv_0, gv_1, gv_2, gv_3, gv_4, gv_5, gv_6, gv_7, gv_8, gv_9, gv_10, gv_11, gv_12, gv_13, ev_pure, ev_bind, wipeE, dI0, resP, resM, resF, dCmp, dGt, dLt, dLe, dGe, ix30, ix31, ix32, List.length_cons, List.length_nil, Nat.zero_add, Nat.reduceAdd, List.set_cons_zero, Bool.true_eq_false, Bool.false_eq_true, if_true, if_false, ite_true, ite_false, decide_true, decide_false, dInt, sz0, sz1, sz2, sz3, sz4, sz5, sz6, sz7, CS.f1, dNeg]) rfl
  · have hc := of_decide_eq_false hc
    have el : leastOf a = ((gcdF (a.rest ++ a.scale :: a.fnd) : Nat) : Int) := by unfold leastOf; dsimp only; rw [if_neg hc]
    rw [el]
    exact Wp.of (a := .nx [some (intsD a.rest), some (.int a.scale), some (intsD a.fnd), some (.int ((a.rest.findIdx (· ≠ 0) : Nat) : Int)), none, none, some (.int ((gcdF (a.rest ++ a.scale :: a.fnd) : Nat) : Int)), none]) rfl rfl
  rintro o rfl
  have d1 : ∀ x : Int, dFdiv (.int x) (.int (leastOf a)) = some (.int (x.fdiv (leastOf a))) := fun x => dFd l1 lb hx
  have e6 : C2_row_of [some (intsD a.rest), some (.int a.scale), some (intsD a.fnd), some (.int ((a.rest.findIdx (· ≠ 0) : Nat) : Int)), none, none, some (.int (leastOf a)), none] = some (intsD (a.fnd.map fun x => -(x.fdiv (leastOf a)))) := by
    unfold C2_row_of
    rw [← fmI]
    exact lcF_map PyData.int a.fnd (fun x => some (.int (-(x.fdiv (leastOf a))))) (by simp only [fSeq, fNext, sIf, sIfP, sAsg, sAsgP, sDrop, sPar, sPar3, sAug, sRet, sRetP, sRetO, sForget, sAsgF, sMut, sSetI, setAt, fIxO, fIxP, dAt, fFlat, gCallM, gPop, f2, g2, f1, fNil, fCons, gNilE, gConsE, fCall, gCall, fLst, fTup, gLstE, gTupE, fTest, gTest, fAnd, fOr, fNot, gAnd, gOr, gNot, fIf, gIf, fAndV, fOrV, fNotV, fChain, fRev, tgTup, tgCons, tgNil, up, asB, asL, asT, asI, asS, enumA, zipA, zipB, setE, Option.bind_some, Option.bind_none, Option.map_some, Option.map_none, owns, List.mapM_cons, List.mapM_nil, List.set_cons_zero, List.set_cons_succ, gv_0, gv_1, gv_2, gv_3, gv_4, gv_5, gv_6, gv_7, gv_8, gv_9, gv_10, gv_11, gv_12, gv_13, ev_pure, ev_bind, wipeE, dI0, resP, resM, resF, dCmp, dGt, dLt, dLe, dGe, ix30, ix31, ix32, List.length_cons, List.length_nil, Nat.zero_add, Nat.reduceAdd, List.set_cons_zero, Bool.true_eq_false, Bool.false_eq_true, if_true, if_false, ite_true, ite_false, decide_true, decide_false, dInt, sz0, sz1, sz2, sz3, sz4, sz5, sz6, sz7, intsD]) (fun x _ => by simp only [fSeq, fNext, sIf, sIfP, sAsg, sAsgP, sDrop, sPar, sPar3, sAug, sRet, sRetP, sRetO, sForget, sAsgF, sMut, sSetI, setAt, fIxO, fIxP, dAt, fFlat, gCallM, gPop, f2, g2, f1, fNil, fCons, gNilE, gConsE, fCall, gCall, fLst, fTup, gLstE, gTupE, fTest, gTest, fAnd, fOr, fNot, gAnd, gOr, gNot, fIf, gIf, fAndV, fOrV, fNotV, fChain, fRev, tgTup, tgCons, tgNil, up, asB, asL, asT, asI, asS, enumA, zipA, zipB, setE, Option.bind_some, Option.bind_none, Option.map_some, Option.map_none, owns, List.mapM_cons, List.mapM_nil, List.set_cons_zero, List.set_cons_succ, gv_0, gv_1, gv_2, gv_3, gv_4, gv_5, gv_6, gv_7, gv_8, gv_9, gv_10, gv_11, gv_12, gv_13, ev_pure, ev_bind, wipeE, dI0, resP, resM, resF, dCmp, dGt, dLt, dLe, dGe, ix30, ix31, ix32, List.length_cons, List.length_nil, Nat.zero_add, Nat.reduceAdd, List.set_cons_zero, Bool.true_eq_false, Bool.false_eq_true, if_true, if_false, ite_true, ite_false, decide_true, decide_false, dInt, sz0, sz1, sz2, sz3, sz4, sz5, sz6, sz7, CS.f1, d1, dNeg])
  have e7 : C3_row_of [some (intsD a.rest), some (.int a.scale), some (intsD a.fnd), some (.int ((a.rest.findIdx (· ≠ 0) : Nat) : Int)), none, none, some (.int (leastOf a)), none] = some (intsD (a.rest.map fun x => x.fdiv (leastOf a))) := by
    unfold C3_row_of
    rw [← fmI]
    exact lcF_map PyData.int a.rest (fun x => some (.int (x.fdiv (leastOf a)))) (by simp only [fSeq, fNext, sIf, sIfP, sAsg, sAsgP, sDrop, sPar, sPar3, sAug, sRet, sRetP, sRetO, sForget, sAsgF, sMut, sSetI, setAt, fIxO, fIxP, dAt, fFlat, gCallM, gPop, f2, g2, f1, fNil, fCons, gNilE, gConsE, fCall, gCall, fLst, fTup, gLstE, gTupE, fTest, gTest, fAnd, fOr, fNot, gAnd, gOr, gNot, fIf, gIf, fAndV, fOrV, fNotV, fChain, fRev, tgTup, tgCons, tgNil, up, asB, asL, asT, asI, asS, enumA, zipA, zipB, setE, Option.bind_some, Option.bind_none, Option.map_some, Option.map_none, owns, List.mapM_cons, List.mapM_nil, List.set_cons_zero, List.set_cons_succ, gv_0, gv_1, gv_2, gv_3, gv_4, gv_5, gv_6, gv_7, gv_8, gv_9, gv_10, gv_11, gv_12, gv_13, ev_pure, ev_bind, wipeE, dI0, resP, resM, resF, dCmp, dGt, dLt, dLe, dGe, ix30, ix31, ix32, List.length_cons, List.length_nil, Nat.zero_add, Nat.reduceAdd, List.set_cons_zero, Bool.true_eq_false, Bool.false_eq_true, if_true, if_false, ite_true, ite_false, decide_true, decide_false, dInt, sz0, sz1, sz2, sz3, sz4, sz5, sz6, sz7, intsD]) (fun x _ => by simp only [fSeq, fNext, sIf, sIfP, sAsg, sAsgP, sDrop, sPar, sPar3, sAug, sRet, sRetP, sRetO, sForget, sAsgF, sMut, sSetI, setAt, fIxO, fIxP, dAt, fFlat, gCallM, gPop, f2, g2, f1, fNil, fCons, gNilE, gConsE, fCall, gCall, fLst, fTup, gLstE, gTupE, fTest, gTest, fAnd, fOr, fNot, gAnd, gOr, gNot, fIf, gIf, fAndV, fOrV, fNotV, fChain, fRev, tgTup, tgCons, tgNil, up, asB, asL, asT, asI, asS, enumA, zipA, zipB, setE, Option.bind_some, Option.bind_none, Option.map_some, Option.map_none, owns, List.mapM_cons, List.mapM_nil, List.set_cons_zero, List.set_cons_succ, gv_0, gv_1, gv_2, gv_3, gv_4, gv_5, gv_6, gv_7, gv_8, gv_9, gv_10, gv_11, gv_12, gv_13, ev_pure, ev_bind, wipeE, dI0, resP, resM, resF, dCmp, dGt, dLt, dLe, dGe, ix30, ix31, ix32, List.length_cons, List.length_nil, Nat.zero_add, Nat.reduceAdd, List.set_cons_zero, Bool.true_eq_false, Bool.false_eq_true, if_true, if_false, ite_true, ite_false, decide_true, decide_false, dInt, sz0, sz1, sz2, sz3, sz4, sz5, sz6, sz7, d1])
  have e8 : fLst (fStar C2_row_of (fCons (f2 dFdiv (gv 1) (gv 6)) fNil)) [some (intsD a.rest), some (.int a.scale), some (intsD a.fnd), some (.int ((a.rest.findIdx (· ≠ 0) : Nat) : Int)), none, none, some (.int (leastOf a)), none] = some (intsD ((a.fnd.map fun x => -(x.fdiv (leastOf a))) ++ [a.scale.fdiv (leastOf a)])) := by
    unfold fLst fStar
    simp only [fSeq, fNext, sIf, sIfP, sAsg, sAsgP, sDrop, sPar, sPar3, sAug, sRet, sRetP, sRetO, sForget, sAsgF, sMut, sSetI, setAt, fIxO, fIxP, dAt, fFlat, gCallM, gPop, f2, g2, f1, fNil, fCons, gNilE, gConsE, fCall, gCall, fLst, fTup, gLstE, gTupE, fTest, gTest, fAnd, fOr, fNot, gAnd, gOr, gNot, fIf, gIf, fAndV, fOrV, fNotV, fChain, fRev, tgTup, tgCons, tgNil, up, asB, asL, asT, asI, asS, enumA, zipA, zipB, setE, Option.bind_some, Option.bind_none, Option.map_some, Option.map_none, owns, List.mapM_cons, List.mapM_nil, List.set_cons_zero, List.set_cons_succ, gv_0, gv_1, gv_2, gv_3, gv_4, gv_5, gv_6, gv_7, gv_8, gv_9, gv_10, gv_11, gv_12, gv_13, ev_pure, ev_bind, wipeE, dI0, resP, resM, resF, dCmp, dGt, dLt, dLe, dGe, ix30, ix31, ix32, List.length_cons, List.length_nil, Nat.zero_add, Nat.reduceAdd, List.set_cons_zero, Bool.true_eq_false, Bool.false_eq_true, if_true, if_false, ite_true, ite_false, decide_true, decide_false, dInt, sz0, sz1, sz2, sz3, sz4, sz5, sz6, sz7, e6, d1]
    simp only [intsD, asS, Option.bind_some, Option.map_some]
    rw [sized_i (by simp; omega), Option.map_some]
    simp
  exact Wp.of (a := .rt (rowD (rowOf a)) []) (by simp only [fTup, sRetP, owns, fCons, fNil, gv_3, e7, e8, Option.bind_some, Option.map_some, List.mapM_nil, ev_pure, sz3]; rfl) rfl
end CSk21

namespace CSk21
open PySem CS
/-! ### the knots, plain -/
abbrev Knot := List (Nat × Int)
def itemN (p : Nat × Int) : D := .tuple [.int (p.1 : Nat), .int p.2]
def knotD (k : Knot) : D := .list (k.map itemN)
def knotOf (chosen : List Nat) (a : Ag) (i : Nat) : Knot :=
  let g : Int := ((gcdF (a.fnd ++ [a.scale]) : Nat) : Int)
  ((chosen.zip a.fnd).map fun p => (p.1, (-p.2).fdiv g)) ++ [(i, a.scale.fdiv g)]
def knB (vs : List (List Int)) : Nat → Nat → List Nat → List Row → List Knot
  | 0, _, _, _ => []
  | n + 1, first, chosen, basis => (List.range' first (vs.length - first)).flatMap fun i =>
    if (agF basis.length basis (vs.getD i [])).rest.any (fun x => decide (x ≠ 0)) = true then knB vs n (i + 1) (chosen ++ [i]) (basis ++ [rowOf (agF basis.length basis (vs.getD i []))])
    else if (agF basis.length basis (vs.getD i [])).fnd.all (fun x => decide (x < 0)) = true then [knotOf chosen (agF basis.length basis (vs.getD i [])) i] else []
theorem flat_len {α : Type} {f : Nat → List α} : ∀ {m s : Nat}, (∀ i, s ≤ i → i < s + m → (f i).length ≤ 2 ^ (s + m - i - 1)) → ((List.range' s m).flatMap f).length ≤ 2 ^ m - 1
  | 0, s, _ => by simp
  | m + 1, s, h => by
    have h1 := h s (Nat.le_refl _) (by omega)
    have h2 := flat_len (f := f) (m := m) (s := s + 1) fun i hi hi2 => by
      have := h i (by omega) (by omega)
      rwa [show s + 1 + m - i - 1 = s + (m + 1) - i - 1 by omega]
    rw [List.range'_succ, List.flatMap_cons, List.length_append]
    rw [show s + (m + 1) - s - 1 = m by omega] at h1
    have := Nat.two_pow_pos m
    rw [Nat.pow_succ]
    omega
theorem knB_len {vs : List (List Int)} : ∀ {n first : Nat} {chosen : List Nat} {basis : List Row}, (knB vs n first chosen basis).length ≤ 2 ^ (vs.length - first) - 1
  | 0, first, chosen, basis => by simp [knB]
  | n + 1, first, chosen, basis => by
    unfold knB
    refine flat_len fun i hi hi2 => ?_
    split
    · refine Nat.le_trans (knB_len (n := n)) ?_
      rw [show first + (vs.length - first) - i - 1 = vs.length - (i + 1) by omega]
      exact Nat.sub_le _ _
    · split
      · exact Nat.one_le_two_pow
      · exact Nat.zero_le _
theorem maxneg (l : List Int) : maxL (-1 :: l) < 0 ↔ l.all (fun x => decide (x < 0)) = true := by
  rw [List.all_eq_true]
  constructor
  · intro h x hx
    have := maxL_ge (l := -1 :: l) (y := x) (by simp [hx])
    exact decide_eq_true (by omega)
  · intro h
    rcases List.mem_cons.mp (maxL_mem (l := -1 :: l) (by simp)) with e | e
    · omega
    · exact of_decide_eq_true (h _ e)
theorem rng2_n {i j : Nat} (hi : i ≤ 1000000) (hj : j ≤ 1000000) : rng2 [.int (i : Nat), .int (j : Nat)] = some ((List.range' i (j - i)).map fun k : Nat => .int (k : Nat)) := by
  have hz := sizeL
  unfold rng2
  dsimp only
  rw [if_pos ⟨by omega, by omega, by omega, by omega, by omega⟩]
  unfold rangeD
  rw [show ((j : Int) - (i : Int)).toNat = j - i by omega, List.range'_eq_map_range, List.map_map]
  congr 1
theorem up_it {Fa : En → Option (List D)} {g : List D → Option (List D)} {env : En} {xs ds : List D} (h : Fa env = some xs) (h2 : g xs = some ds) : up (fun env => (Fa env).bind g) env = some (ds, env) := by
  show ((Fa env).bind g).map (fun d => (d, env)) = _
  rw [h, Option.bind_some, h2]; rfl
theorem ix_vs {t : List Int → D} {vs : List (List Int)} {i : Nat} (h : i < vs.length) : dIx (.list (vs.map t)) (.int (i : Nat)) = some (t (vs.getD i [])) :=
  L2.atI_nat (j := i) (by rw [List.getElem?_map, List.getElem?_eq_getElem h, List.getD_eq_getElem?_getD, List.getElem?_eq_getElem h]; rfl)
def natsD (l : List Nat) : D := .list (l.map fun i : Nat => PyData.int (i : Int))
theorem getD_vs {vs : List (List Int)} {i : Nat} (h : i < vs.length) : vs.getD i [] ∈ vs := by
  rw [List.getD_eq_getElem?_getD, List.getElem?_eq_getElem h, Option.getD_some]
  exact List.getElem_mem h
theorem any_ex {l : List Int} (h : l.any (fun x => decide (x ≠ 0)) = true) : ∃ x ∈ l, x ≠ 0 := by
  obtain ⟨x, hx, e⟩ := List.any_eq_true.mp h
  exact ⟨x, hx, of_decide_eq_true e⟩
theorem behind {t : List Int → D} (ht : ∀ v, dListOf [t v] = some (intsD v)) {b size : Nat} {vs : List (List Int)} (hvs : ∀ v ∈ vs, v.length = size ∧ Bd b v) (h1 : 1 ≤ b) (hx : xb b size ≤ 9000) (hs : size ≤ 50) (hl : vs.length ≤ 20) :
    ∀ (n : Nat) {first : Nat} {chosen : List Nat} {basis : List Row}, Ech b size basis → chosen.length = basis.length → size + 1 ≤ n + basis.length → first ≤ vs.length → g_knots_behind n [.list (vs.map t), .int (first : Nat), natsD chosen, .list (basis.map rowD)] = some (.list ((knB vs n first chosen basis).map knotD)) := by
  intro n
  induction n with
  | zero =>
    intro first chosen basis he hc hn hf
    have := ech_len he
    omega
  | succ n ih =>
    intro first chosen basis he hc hn hf
    have hz := sizeL
    have el := ech_len he
    have hxb : xb b basis.length ≤ 9000 := Nat.le_trans (xb_mono el) hx
    refine wp_get (F := F_knots_behind (g_knots_behind n)) (env := [some (.list (vs.map t)), some (.int (first : Nat)), some (natsD chosen), some (.list (basis.map rowD)), none, none, none, none, none, none, none, none, none]) (by rw [g_knots_behind_succ]; rfl) ?_
    unfold F_knots_behind
    refine wp_st [some (.list (vs.map t)), some (.int (first : Nat)), some (natsD chosen), some (.list (basis.map rowD)), some (.list []), none, none, none, none, none, none, none, none] (by simp only [fSeq, fNext, sIf, sIfP, sAsg, sAsgP, sDrop, sPar, sPar3, sAug, sRet, sRetP, sRetO, sForget, sAsgF, sMut, sSetI, setAt, fIxO, fIxP, dAt, fFlat, gCallM, gPop, f2, g2, f1, fNil, fCons, gNilE, gConsE, fCall, gCall, fLst, fTup, gLstE, gTupE, fTest, gTest, fAnd, fOr, fNot, gAnd, gOr, gNot, fIf, gIf, fAndV, fOrV, fNotV, fChain, fRev, tgTup, tgCons, tgNil, up, asB, asL, asT, asI, asS, enumA, zipA, zipB, setE, Option.bind_some, Option.bind_none, Option.map_some, Option.map_none, owns, List.mapM_cons, List.mapM_nil, List.set_cons_zero, List.set_cons_succ, gv_0, gv_1, gv_2, gv_3, gv_4, gv_5, gv_6, gv_7, gv_8, gv_9, gv_10, gv_11, gv_12, gv_13, ev_pure, ev_bind, wipeE, dI0, resP, resM, resF, dCmp, dGt, dLt, dLe, dGe, ix30, ix31, ix32, List.length_cons, List.length_nil, Nat.zero_add, Nat.reduceAdd, List.set_cons_zero, Bool.true_eq_false, Bool.false_eq_true, if_true, if_false, ite_true, ite_false, decide_true, decide_false, dInt, sz0, sz1, sz2, sz3, sz4, sz5, sz6, sz7]; rfl) ?_
    have hB := knB_len (vs := vs) (n := n + 1) (first := first) (chosen := chosen) (basis := basis)
    unfold knB at hB
    unfold knB
    have h20 : 2 ^ (vs.length - first) ≤ 2 ^ 20 := Nat.pow_le_pow_right (by decide) (by omega)
    generalize hf2 : (fun i : Nat => if (agF basis.length basis (vs.getD i [])).rest.any (fun x => decide (x ≠ 0)) = true then knB vs n (i + 1) (chosen ++ [i]) (basis ++ [rowOf (agF basis.length basis (vs.getD i []))])
      else if (agF basis.length basis (vs.getD i [])).fnd.all (fun x => decide (x < 0)) = true then [knotOf chosen (agF basis.length basis (vs.getD i [])) i] else []) = f at hB
    refine wp_seq (wp_for (fun k : Nat => PyData.int (k : Nat)) (List.range' first (vs.length - first)) (fun p e => e = [some (.list (vs.map t)), some (.int (first : Nat)), some (natsD chosen), some (.list (basis.map rowD)), some (.list ((p.flatMap f).map knotD)), none, none, none, none, none, none, none, none]) (env1 := [some (.list (vs.map t)), some (.int (first : Nat)), some (natsD chosen), some (.list (basis.map rowD)), some (.list []), none, none, none, none, none, none, none, none]) (up_it (xs := [.int (first : Nat), .int (vs.length : Nat)]) (by simp only [fSeq, fNext, sIf, sIfP, sAsg, sAsgP, sDrop, sPar, sPar3, sAug, sRet, sRetP, sRetO, sForget, sAsgF, sMut, sSetI, setAt, fIxO, fIxP, dAt, fFlat, gCallM, gPop, f2, g2, f1, fNil, fCons, gNilE, gConsE, fCall, gCall, fLst, fTup, gLstE, gTupE, fTest, gTest, fAnd, fOr, fNot, gAnd, gOr, gNot, fIf, gIf, fAndV, fOrV, fNotV, fChain, fRev, tgTup, tgCons, tgNil, up, asB, asL, asT, asI, asS, enumA, zipA, zipB, setE, Option.bind_some, Option.bind_none, Option.map_some, Option.map_none, owns, List.mapM_cons, List.mapM_nil, List.set_cons_zero, List.set_cons_succ, gv_0, gv_1, gv_2, gv_3, gv_4, gv_5, gv_6, gv_7, gv_8, gv_9, gv_10, gv_11, gv_12, gv_13, ev_pure, ev_bind, wipeE, dI0, resP, resM, resF, dCmp, dGt, dLt, dLe, dGe, ix30, ix31, ix32, List.length_cons, List.length_nil, Nat.zero_add, Nat.reduceAdd, List.set_cons_zero, Bool.true_eq_false, Bool.false_eq_true, if_true, if_false, ite_true, ite_false, decide_true, decide_false, dInt, sz0, sz1, sz2, sz3, sz4, sz5, sz6, sz7, dLen, List.length_map]) (rng2_n (show first ≤ 1000000 by omega) (show vs.length ≤ 1000000 by omega))) rfl ?_ ?_)
    · rintro p i q e hpq rfl
      refine ⟨[some (.list (vs.map t)), some (.int (first : Nat)), some (natsD chosen), some (.list (basis.map rowD)), some (.list ((p.flatMap f).map knotD)), some (.int (i : Nat)), none, none, none, none, none, none, none], by simp only [fSeq, fNext, sIf, sIfP, sAsg, sAsgP, sDrop, sPar, sPar3, sAug, sRet, sRetP, sRetO, sForget, sAsgF, sMut, sSetI, setAt, fIxO, fIxP, dAt, fFlat, gCallM, gPop, f2, g2, f1, fNil, fCons, gNilE, gConsE, fCall, gCall, fLst, fTup, gLstE, gTupE, fTest, gTest, fAnd, fOr, fNot, gAnd, gOr, gNot, fIf, gIf, fAndV, fOrV, fNotV, fChain, fRev, tgTup, tgCons, tgNil, up, asB, asL, asT, asI, asS, enumA, zipA, zipB, setE, Option.bind_some, Option.bind_none, Option.map_some, Option.map_none, owns, List.mapM_cons, List.mapM_nil, List.set_cons_zero, List.set_cons_succ, gv_0, gv_1, gv_2, gv_3, gv_4, gv_5, gv_6, gv_7, gv_8, gv_9, gv_10, gv_11, gv_12, gv_13, ev_pure, ev_bind, wipeE, dI0, resP, resM, resF, dCmp, dGt, dLt, dLe, dGe, ix30, ix31, ix32, List.length_cons, List.length_nil, Nat.zero_add, Nat.reduceAdd, List.set_cons_zero, Bool.true_eq_false, Bool.false_eq_true, if_true, if_false, ite_true, ite_false, decide_true, decide_false, dInt, sz0, sz1, sz2, sz3, sz4, sz5, sz6, sz7], ?_⟩
      have him : i ∈ List.range' first (vs.length - first) := by rw [hpq]; simp
      have him := List.mem_range'_1.mp him
      have hi : i < vs.length := by omega
      have hlen : (p.flatMap f).length + (f i).length ≤ 2 ^ 20 := by
        rw [hpq] at hB
        rw [List.flatMap_append, List.flatMap_cons, List.length_append, List.length_append] at hB
        omega
      have efi : (p ++ [i]).flatMap f = p.flatMap f ++ f i := by simp
      rw [efi]
      generalize p.flatMap f = sofar at *
      obtain ⟨hv1, hv2⟩ := hvs _ (getD_vs hi)
      have ea := against_is (d := t (vs.getD i [])) he hv1 hv2 h1 (by omega) (ht _) (by omega)
      have A := ag_ok (n := basis.length) hv1 hv2 h1 he
      have efi2 : f i = if (agF basis.length basis (vs.getD i [])).rest.any (fun x => decide (x ≠ 0)) = true then knB vs n (i + 1) (chosen ++ [i]) (basis ++ [rowOf (agF basis.length basis (vs.getD i []))])
        else if (agF basis.length basis (vs.getD i [])).fnd.all (fun x => decide (x < 0)) = true then [knotOf chosen (agF basis.length basis (vs.getD i [])) i] else [] := by rw [← hf2]
      rw [efi2] at hlen ⊢
      generalize hga : agF basis.length basis (vs.getD i []) = a at *
      unfold B1_knots_behind
      refine wp_forget (wp_seq (Wp.of (a := .nx [some (.list (vs.map t)), some (.int (first : Nat)), some (natsD chosen), some (.list (basis.map rowD)), some (.list (sofar.map knotD)), some (.int (i : Nat)), some (intsD a.rest), some (.int a.scale), some (intsD a.fnd), none, none, none, none]) (by simp only [fSeq, fNext, sIf, sIfP, sAsg, sAsgP, sDrop, sPar, sPar3, sAug, sRet, sRetP, sRetO, sForget, sAsgF, sMut, sSetI, setAt, fIxO, fIxP, dAt, fFlat, gCallM, gPop, f2, g2, f1, fNil, fCons, gNilE, gConsE, fCall, gCall, fLst, fTup, gLstE, gTupE, fTest, gTest, fAnd, fOr, fNot, gAnd, gOr, gNot, fIf, gIf, fAndV, fOrV, fNotV, fChain, fRev, tgTup, tgCons, tgNil, up, asB, asL, asT, asI, asS, enumA, zipA, zipB, setE, Option.bind_some, Option.bind_none, Option.map_some, Option.map_none, owns, List.mapM_cons, List.mapM_nil, List.set_cons_zero, List.set_cons_succ, gv_0, gv_1, gv_2, gv_3, gv_4, gv_5, gv_6, gv_7, gv_8, gv_9, gv_10, gv_11, gv_12, gv_13, ev_pure, ev_bind, wipeE, dI0, resP, resM, resF, dCmp, dGt, dLt, dLe, dGe, ix30, ix31, ix32, List.length_cons, List.length_nil, Nat.zero_add, Nat.reduceAdd, List.set_cons_zero, Bool.true_eq_false, Bool.false_eq_true, if_true, if_false, ite_true, ite_false, decide_true, decide_false, dInt, sz0, sz1, sz2, sz3, sz4, sz5, sz6, sz7, ix_vs hi, ea, agD]) ?_))
      have eany : dAnyI [intsD a.rest] = some (.bool (a.rest.any fun x => decide (x ≠ 0))) := by
        show (asInts (a.rest.map PyData.int)).map _ = _
        rw [asInts_map]; rfl
      refine wp_ifP (a.rest.any fun x => decide (x ≠ 0)) (by simp only [fSeq, fNext, sIf, sIfP, sAsg, sAsgP, sDrop, sPar, sPar3, sAug, sRet, sRetP, sRetO, sForget, sAsgF, sMut, sSetI, setAt, fIxO, fIxP, dAt, fFlat, gCallM, gPop, f2, g2, f1, fNil, fCons, gNilE, gConsE, fCall, gCall, fLst, fTup, gLstE, gTupE, fTest, gTest, fAnd, fOr, fNot, gAnd, gOr, gNot, fIf, gIf, fAndV, fOrV, fNotV, fChain, fRev, tgTup, tgCons, tgNil, up, asB, asL, asT, asI, asS, enumA, zipA, zipB, setE, Option.bind_some, Option.bind_none, Option.map_some, Option.map_none, owns, List.mapM_cons, List.mapM_nil, List.set_cons_zero, List.set_cons_succ, gv_0, gv_1, gv_2, gv_3, gv_4, gv_5, gv_6, gv_7, gv_8, gv_9, gv_10, gv_11, gv_12, gv_13, ev_pure, ev_bind, wipeE, dI0, resP, resM, resF, dCmp, dGt, dLt, dLe, dGe, ix30, ix31, ix32, List.length_cons, List.length_nil, Nat.zero_add, Nat.reduceAdd, List.set_cons_zero, Bool.true_eq_false, Bool.false_eq_true, if_true, if_false, ite_true, ite_false, decide_true, decide_false, dInt, sz0, sz1, sz2, sz3, sz4, sz5, sz6, sz7, eany]) (fun hc1 => ?_) (fun hc1 => ?_)
      · rw [if_pos hc1] at hlen ⊢
        have hne := any_ex hc1
        have er := rowof_is A hne hxb (by omega) (by omega)
        have eb : fLst (fStar (gv 3) (fCons (fCall g_row_of (fCons (gv 6) (fCons (gv 7) (fCons (gv 8) fNil)))) fNil)) [some (.list (vs.map t)), some (.int (first : Nat)), some (natsD chosen), some (.list (basis.map rowD)), some (.list (sofar.map knotD)), some (.int (i : Nat)), some (intsD a.rest), some (.int a.scale), some (intsD a.fnd), none, none, none, none] = some (.list ((basis ++ [rowOf a]).map rowD)) := by
          unfold fLst fStar
          simp only [fSeq, fNext, sIf, sIfP, sAsg, sAsgP, sDrop, sPar, sPar3, sAug, sRet, sRetP, sRetO, sForget, sAsgF, sMut, sSetI, setAt, fIxO, fIxP, dAt, fFlat, gCallM, gPop, f2, g2, f1, fNil, fCons, gNilE, gConsE, fCall, gCall, fLst, fTup, gLstE, gTupE, fTest, gTest, fAnd, fOr, fNot, gAnd, gOr, gNot, fIf, gIf, fAndV, fOrV, fNotV, fChain, fRev, tgTup, tgCons, tgNil, up, asB, asL, asT, asI, asS, enumA, zipA, zipB, setE, Option.bind_some, Option.bind_none, Option.map_some, Option.map_none, owns, List.mapM_cons, List.mapM_nil, List.set_cons_zero, List.set_cons_succ, gv_0, gv_1, gv_2, gv_3, gv_4, gv_5, gv_6, gv_7, gv_8, gv_9, gv_10, gv_11, gv_12, gv_13, ev_pure, ev_bind, wipeE, dI0, resP, resM, resF, dCmp, dGt, dLt, dLe, dGe, ix30, ix31, ix32, List.length_cons, List.length_nil, Nat.zero_add, Nat.reduceAdd, List.set_cons_zero, Bool.true_eq_false, Bool.false_eq_true, if_true, if_false, ite_true, ite_false, decide_true, decide_false, dInt, sz0, sz1, sz2, sz3, sz4, sz5, sz6, sz7, er]
          rw [sized_i (by simp; omega), Option.map_some]
          simp
        have ec : fLst (fStar (gv 2) (fCons (gv 5) fNil)) [some (.list (vs.map t)), some (.int (first : Nat)), some (natsD chosen), some (.list (basis.map rowD)), some (.list (sofar.map knotD)), some (.int (i : Nat)), some (intsD a.rest), some (.int a.scale), some (intsD a.fnd), some (.list ((basis ++ [rowOf a]).map rowD)), none, none, none] = some (natsD (chosen ++ [i])) := by
          unfold fLst fStar
          simp only [fSeq, fNext, sIf, sIfP, sAsg, sAsgP, sDrop, sPar, sPar3, sAug, sRet, sRetP, sRetO, sForget, sAsgF, sMut, sSetI, setAt, fIxO, fIxP, dAt, fFlat, gCallM, gPop, f2, g2, f1, fNil, fCons, gNilE, gConsE, fCall, gCall, fLst, fTup, gLstE, gTupE, fTest, gTest, fAnd, fOr, fNot, gAnd, gOr, gNot, fIf, gIf, fAndV, fOrV, fNotV, fChain, fRev, tgTup, tgCons, tgNil, up, asB, asL, asT, asI, asS, enumA, zipA, zipB, setE, Option.bind_some, Option.bind_none, Option.map_some, Option.map_none, owns, List.mapM_cons, List.mapM_nil, List.set_cons_zero, List.set_cons_succ, gv_0, gv_1, gv_2, gv_3, gv_4, gv_5, gv_6, gv_7, gv_8, gv_9, gv_10, gv_11, gv_12, gv_13, ev_pure, ev_bind, wipeE, dI0, resP, resM, resF, dCmp, dGt, dLt, dLe, dGe, ix30, ix31, ix32, List.length_cons, List.length_nil, Nat.zero_add, Nat.reduceAdd, List.set_cons_zero, Bool.true_eq_false, Bool.false_eq_true, if_true, if_false, ite_true, ite_false, decide_true, decide_false, dInt, sz0, sz1, sz2, sz3, sz4, sz5, sz6, sz7, natsD]
          rw [sized_i (by simp; omega), Option.map_some]
          simp
        have ek := ih (first := i + 1) (chosen := chosen ++ [i]) (basis := basis ++ [rowOf a]) (he.snoc (row_ok A hne)) (by simp [hc]) (by simp; omega) (by omega)
        rw [show (((i + 1 : Nat)) : Int) = (i : Int) + 1 by omega] at ek
        refine wp_st [some (.list (vs.map t)), some (.int (first : Nat)), some (natsD chosen), some (.list (basis.map rowD)), some (.list (sofar.map knotD)), some (.int (i : Nat)), some (intsD a.rest), some (.int a.scale), some (intsD a.fnd), some (.list ((basis ++ [rowOf a]).map rowD)), none, none, none] (by simp only [sAsgP, eb, Option.bind_some, Option.map_some]; rfl) ?_
        generalize knB vs n (i + 1) (chosen ++ [i]) (basis ++ [rowOf a]) = more at *
        have eg : gExtend (sofar.map knotD) (.list (more.map knotD)) = some (sofar.map knotD ++ more.map knotD) := by
          unfold gExtend
          simp only [asL, Option.bind_some, List.length_map]
          rw [if_pos (by omega)]
        refine Wp.of (a := .nx [some (.list (vs.map t)), some (.int (first : Nat)), some (natsD chosen), some (.list (basis.map rowD)), some (.list ((sofar ++ more).map knotD)), some (.int (i : Nat)), some (intsD a.rest), some (.int a.scale), some (intsD a.fnd), some (.list ((basis ++ [rowOf a]).map rowD)), none, none, none]) (by rw [show (sofar ++ more).map knotD = sofar.map knotD ++ more.map knotD from List.map_append]; simp only [sMut, up, fCall, CS.f2, fCons, fNil, gv_0, gv_4, gv_5, gv_9, ec, ek, dAdd_i, Option.bind_some, Option.map_some, asL, eg]; rfl) (by show wipeE _ _ = _; rfl)
      · have hc1' : ¬ (a.rest.any fun x => decide (x ≠ 0)) = true := by rw [hc1]; decide
        rw [if_neg hc1'] at hlen ⊢
        have emx : dMax [.list (.int (-1) :: a.fnd.map PyData.int)] = some (.int (maxL (-1 :: a.fnd))) := by
          show (asInts ((-1 :: a.fnd).map PyData.int)).bind _ = _
          rw [asInts_map, Option.bind_some, if_pos (by simp)]
        have em2 : fLst (fCons (f1 dNeg (fun _ => some (.int 1))) (fStar (gv 8) fNil)) [some (.list (vs.map t)), some (.int (first : Nat)), some (natsD chosen), some (.list (basis.map rowD)), some (.list (sofar.map knotD)), some (.int (i : Nat)), some (intsD a.rest), some (.int a.scale), some (intsD a.fnd), none, none, none, none] = some (.list (.int (-1) :: a.fnd.map PyData.int)) := by
          unfold fLst fStar
          simp only [fSeq, fNext, sIf, sIfP, sAsg, sAsgP, sDrop, sPar, sPar3, sAug, sRet, sRetP, sRetO, sForget, sAsgF, sMut, sSetI, setAt, fIxO, fIxP, dAt, fFlat, gCallM, gPop, f2, g2, f1, fNil, fCons, gNilE, gConsE, fCall, gCall, fLst, fTup, gLstE, gTupE, fTest, gTest, fAnd, fOr, fNot, gAnd, gOr, gNot, fIf, gIf, fAndV, fOrV, fNotV, fChain, fRev, tgTup, tgCons, tgNil, up, asB, asL, asT, asI, asS, enumA, zipA, zipB, setE, Option.bind_some, Option.bind_none, Option.map_some, Option.map_none, owns, List.mapM_cons, List.mapM_nil, List.set_cons_zero, List.set_cons_succ, gv_0, gv_1, gv_2, gv_3, gv_4, gv_5, gv_6, gv_7, gv_8, gv_9, gv_10, gv_11, gv_12, gv_13, ev_pure, ev_bind, wipeE, dI0, resP, resM, resF, dCmp, dGt, dLt, dLe, dGe, ix30, ix31, ix32, List.length_cons, List.length_nil, Nat.zero_add, Nat.reduceAdd, List.set_cons_zero, Bool.true_eq_false, Bool.false_eq_true, if_true, if_false, ite_true, ite_false, decide_true, decide_false, dInt, sz0, sz1, sz2, sz3, sz4, sz5, sz6, sz7, intsD, dNeg, List.append_nil]
          rw [sized_i (by simp [A.fl]; omega), Option.map_some]
        have hdec : decide (maxL (-1 :: a.fnd) < 0) = a.fnd.all fun x => decide (x < 0) := by
          rw [Bool.eq_iff_iff, decide_eq_true_eq]; exact maxneg _
        refine wp_ifP (a.fnd.all fun x => decide (x < 0)) (by simp only [fTest, CS.f2, fCall, fCons, fNil, em2, emx, Option.bind_some, Option.map_some, dLt, dCmp, asB, hdec]) (fun hc2 => ?_) (fun hc2 => ?_)
        · rw [if_pos hc2] at hlen ⊢
          have ed : fLst (fStar (gv 8) (fCons (gv 7) fNil)) [some (.list (vs.map t)), some (.int (first : Nat)), some (natsD chosen), some (.list (basis.map rowD)), some (.list (sofar.map knotD)), some (.int (i : Nat)), some (intsD a.rest), some (.int a.scale), some (intsD a.fnd), none, none, none, none] = some (intsD (a.fnd ++ [a.scale])) := by
            unfold fLst fStar
            simp only [fSeq, fNext, sIf, sIfP, sAsg, sAsgP, sDrop, sPar, sPar3, sAug, sRet, sRetP, sRetO, sForget, sAsgF, sMut, sSetI, setAt, fIxO, fIxP, dAt, fFlat, gCallM, gPop, f2, g2, f1, fNil, fCons, gNilE, gConsE, fCall, gCall, fLst, fTup, gLstE, gTupE, fTest, gTest, fAnd, fOr, fNot, gAnd, gOr, gNot, fIf, gIf, fAndV, fOrV, fNotV, fChain, fRev, tgTup, tgCons, tgNil, up, asB, asL, asT, asI, asS, enumA, zipA, zipB, setE, Option.bind_some, Option.bind_none, Option.map_some, Option.map_none, owns, List.mapM_cons, List.mapM_nil, List.set_cons_zero, List.set_cons_succ, gv_0, gv_1, gv_2, gv_3, gv_4, gv_5, gv_6, gv_7, gv_8, gv_9, gv_10, gv_11, gv_12, gv_13, ev_pure, ev_bind, wipeE, dI0, resP, resM, resF, dCmp, dGt, dLt, dLe, dGe, ix30, ix31, ix32, List.length_cons, List.length_nil, Nat.zero_add, Nat.reduceAdd, List.set_cons_zero, Bool.true_eq_false, Bool.false_eq_true, if_true, if_false, ite_true, ite_false, decide_true, decide_false, dInt, sz0, sz1, sz2, sz3, sz4, sz5, sz6, sz7, intsD]
            rw [sized_i (by simp [A.fl]; omega), Option.map_some]
            simp
          have eg := divisor (l := a.fnd ++ [a.scale]) (d := intsD (a.fnd ++ [a.scale])) rfl
          have g0 : gcdF (a.fnd ++ [a.scale]) ≠ 0 := by
            intro e
            have := gcdF_dvd (l := a.fnd ++ [a.scale]) (x := a.scale) (by simp)
            rw [e] at this
            have := Nat.zero_dvd.mp this
            have := A.sp
            omega
          have gb : gcdF (a.fnd ++ [a.scale]) < 2 ^ xb b basis.length := Nat.lt_of_le_of_lt (gcdF_le (x := a.scale) (by simp) (by have := A.sp; omega) (Nat.le_refl _)) A.sb
          refine wp_st [some (.list (vs.map t)), some (.int (first : Nat)), some (natsD chosen), some (.list (basis.map rowD)), some (.list (sofar.map knotD)), some (.int (i : Nat)), some (intsD a.rest), some (.int a.scale), some (intsD a.fnd), none, some (.int (gcdF (a.fnd ++ [a.scale]) : Nat)), none, none] (by simp only [sAsgP, fCall, fCons, fNil, ed, eg, Option.bind_some, Option.map_some]; rfl) ?_
          have d1 : ∀ x : Int, dFdiv (.int x) (.int (gcdF (a.fnd ++ [a.scale]) : Nat)) = some (.int (x.fdiv (gcdF (a.fnd ++ [a.scale]) : Nat))) := fun x => dFd (by omega) (by simpa using gb) hxb
          have eC : C1_knots_behind (g_knots_behind n) [some (.list (vs.map t)), some (.int (first : Nat)), some (natsD chosen), some (.list (basis.map rowD)), some (.list (sofar.map knotD)), some (.int (i : Nat)), some (intsD a.rest), some (.int a.scale), some (intsD a.fnd), none, some (.int (gcdF (a.fnd ++ [a.scale]) : Nat)), none, none] = some (.list (((chosen.zip a.fnd).map fun p => (p.1, (-p.2).fdiv (gcdF (a.fnd ++ [a.scale]) : Nat))).map itemN)) := by
            unfold C1_knots_behind
            rw [← fm2]
            refine lcF_map (fun p : Nat × Int => PyData.tuple [.int (p.1 : Nat), .int p.2]) (chosen.zip a.fnd) (fun p => some (itemN (p.1, (-p.2).fdiv (gcdF (a.fnd ++ [a.scale]) : Nat)))) ?_ (fun x _ => by simp only [fSeq, fNext, sIf, sIfP, sAsg, sAsgP, sDrop, sPar, sPar3, sAug, sRet, sRetP, sRetO, sForget, sAsgF, sMut, sSetI, setAt, fIxO, fIxP, dAt, fFlat, gCallM, gPop, f2, g2, f1, fNil, fCons, gNilE, gConsE, fCall, gCall, fLst, fTup, gLstE, gTupE, fTest, gTest, fAnd, fOr, fNot, gAnd, gOr, gNot, fIf, gIf, fAndV, fOrV, fNotV, fChain, fRev, tgTup, tgCons, tgNil, up, asB, asL, asT, asI, asS, enumA, zipA, zipB, setE, Option.bind_some, Option.bind_none, Option.map_some, Option.map_none, owns, List.mapM_cons, List.mapM_nil, List.set_cons_zero, List.set_cons_succ, gv_0, gv_1, gv_2, gv_3, gv_4, gv_5, gv_6, gv_7, gv_8, gv_9, gv_10, gv_11, gv_12, gv_13, ev_pure, ev_bind, wipeE, dI0, resP, resM, resF, dCmp, dGt, dLt, dLe, dGe, ix30, ix31, ix32, List.length_cons, List.length_nil, Nat.zero_add, Nat.reduceAdd, List.set_cons_zero, Bool.true_eq_false, Bool.false_eq_true, if_true, if_false, ite_true, ite_false, decide_true, decide_false, dInt, sz0, sz1, sz2, sz3, sz4, sz5, sz6, sz7, CS.f1, dNeg, d1, itemN])
            show zipB [natsD chosen, intsD a.fnd] = _
            show some (zipD (chosen.map fun i : Nat => PyData.int (i : Int)) (a.fnd.map PyData.int)) = _
            unfold zipD
            rw [List.zipWith_map_left, List.zipWith_map_right, ← List.map_uncurry_zip_eq_zipWith]
            rfl
          have eK : fLst (fStar (C1_knots_behind (g_knots_behind n)) (fCons (fTup (fCons (gv 5) (fCons (f2 dFdiv (gv 7) (gv 10)) fNil))) fNil)) [some (.list (vs.map t)), some (.int (first : Nat)), some (natsD chosen), some (.list (basis.map rowD)), some (.list (sofar.map knotD)), some (.int (i : Nat)), some (intsD a.rest), some (.int a.scale), some (intsD a.fnd), none, some (.int (gcdF (a.fnd ++ [a.scale]) : Nat)), none, none] = some (knotD (knotOf chosen a i)) := by
            unfold fLst fStar
            simp only [fSeq, fNext, sIf, sIfP, sAsg, sAsgP, sDrop, sPar, sPar3, sAug, sRet, sRetP, sRetO, sForget, sAsgF, sMut, sSetI, setAt, fIxO, fIxP, dAt, fFlat, gCallM, gPop, f2, g2, f1, fNil, fCons, gNilE, gConsE, fCall, gCall, fLst, fTup, gLstE, gTupE, fTest, gTest, fAnd, fOr, fNot, gAnd, gOr, gNot, fIf, gIf, fAndV, fOrV, fNotV, fChain, fRev, tgTup, tgCons, tgNil, up, asB, asL, asT, asI, asS, enumA, zipA, zipB, setE, Option.bind_some, Option.bind_none, Option.map_some, Option.map_none, owns, List.mapM_cons, List.mapM_nil, List.set_cons_zero, List.set_cons_succ, gv_0, gv_1, gv_2, gv_3, gv_4, gv_5, gv_6, gv_7, gv_8, gv_9, gv_10, gv_11, gv_12, gv_13, ev_pure, ev_bind, wipeE, dI0, resP, resM, resF, dCmp, dGt, dLt, dLe, dGe, ix30, ix31, ix32, List.length_cons, List.length_nil, Nat.zero_add, Nat.reduceAdd, List.set_cons_zero, Bool.true_eq_false, Bool.false_eq_true, if_true, if_false, ite_true, ite_false, decide_true, decide_false, dInt, sz0, sz1, sz2, sz3, sz4, sz5, sz6, sz7, eC, d1]
            rw [sized_i (by simp; omega), Option.map_some]
            unfold knotD knotOf itemN
            simp
          have ep : gAppend (sofar.map knotD) (knotD (knotOf chosen a i)) = some (sofar.map knotD ++ [knotD (knotOf chosen a i)]) := gAppend_ok (by rw [List.length_map]; omega)
          exact Wp.of (a := .nx [some (.list (vs.map t)), some (.int (first : Nat)), some (natsD chosen), some (.list (basis.map rowD)), some (.list ((sofar ++ [knotOf chosen a i]).map knotD)), some (.int (i : Nat)), some (intsD a.rest), some (.int a.scale), some (intsD a.fnd), none, some (.int (gcdF (a.fnd ++ [a.scale]) : Nat)), none, none]) (by rw [show (sofar ++ [knotOf chosen a i]).map knotD = sofar.map knotD ++ [knotD (knotOf chosen a i)] from List.map_append]; simp only [sMut, up, gv_4, eK, Option.bind_some, Option.map_some, asL, ep]; rfl) (by show wipeE _ _ = _; rfl)
        · have hc2' : ¬ (a.fnd.all fun x => decide (x < 0)) = true := by rw [hc2]; decide
          rw [if_neg hc2', List.append_nil]
          exact Wp.of (a := .nx [some (.list (vs.map t)), some (.int (first : Nat)), some (natsD chosen), some (.list (basis.map rowD)), some (.list (sofar.map knotD)), some (.int (i : Nat)), some (intsD a.rest), some (.int a.scale), some (intsD a.fnd), none, none, none, none]) rfl (by show wipeE _ _ = _; rfl)
    · rintro e' rfl
      exact Wp.of (a := .rt (.list (((List.range' first (vs.length - first)).flatMap f).map knotD)) []) (by simp only [fSeq, fNext, sIf, sIfP, sAsg, sAsgP, sDrop, sPar, sPar3, sAug, sRet, sRetP, sRetO, sForget, sAsgF, sMut, sSetI, setAt, fIxO, fIxP, dAt, fFlat, gCallM, gPop, f2, g2, f1, fNil, fCons, gNilE, gConsE, fCall, gCall, fLst, fTup, gLstE, gTupE, fTest, gTest, fAnd, fOr, fNot, gAnd, gOr, gNot, fIf, gIf, fAndV, fOrV, fNotV, fChain, fRev, tgTup, tgCons, tgNil, up, asB, asL, asT, asI, asS, enumA, zipA, zipB, setE, Option.bind_some, Option.bind_none, Option.map_some, Option.map_none, owns, List.mapM_cons, List.mapM_nil, List.set_cons_zero, List.set_cons_succ, gv_0, gv_1, gv_2, gv_3, gv_4, gv_5, gv_6, gv_7, gv_8, gv_9, gv_10, gv_11, gv_12, gv_13, ev_pure, ev_bind, wipeE, dI0, resP, resM, resF, dCmp, dGt, dLt, dLe, dGe, ix30, ix31, ix32, List.length_cons, List.length_nil, Nat.zero_add, Nat.reduceAdd, List.set_cons_zero, Bool.true_eq_false, Bool.false_eq_true, if_true, if_false, ite_true, ite_false, decide_true, decide_false, dInt, sz0, sz1, sz2, sz3, sz4, sz5, sz6, sz7]) rfl
/-! ### sorted -/
def sortK (ks : List Knot) : List Knot := ks.mergeSort fun a b => dataLeF (knotD a) (knotD b)
theorem sortK_perm (ks : List Knot) : (sortK ks).Perm ks := List.mergeSort_perm ks _
theorem alike_items : ∀ (k l : List (Nat × Int)), PySem.W.alikeAll (k.map itemN) (l.map itemN) = true
  | [], l => by cases l <;> simp [PySem.W.alikeAll]
  | x :: k, [] => by simp [PySem.W.alikeAll]
  | x :: k, y :: l => by
    rw [List.map_cons, List.map_cons, PySem.W.alikeAll.eq_1, alike_items k l, Bool.and_true]
    unfold itemN
    simp [PySem.W.alike, PySem.W.alikeAll]
theorem knot_sort (ks : List Knot) : dSortD [.list (ks.map knotD)] = some (.list ((sortK ks).map knotD)) := by
  have ho : okSort (ks.map knotD) := by
    refine ⟨fun d hd d' hd' => ?_, .inl fun d hd => ?_, canLayAll_of fun d hd => ?_, depthAll_le fun d hd => ?_⟩
    · obtain ⟨k, _, rfl⟩ := List.mem_map.mp hd
      obtain ⟨l, _, rfl⟩ := List.mem_map.mp hd'
      unfold knotD
      rw [PySem.W.alike.eq_5]
      exact alike_items k l
    · obtain ⟨k, _, rfl⟩ := List.mem_map.mp hd
      exact ⟨_, rfl⟩
    · obtain ⟨k, _, rfl⟩ := List.mem_map.mp hd
      refine canLayAll_of fun d hd => ?_
      obtain ⟨x, _, rfl⟩ := List.mem_map.mp hd
      rfl
    · obtain ⟨k, _, rfl⟩ := List.mem_map.mp hd
      have := depthAll_le (k := 1) (ds := k.map itemN) fun d hd => by
        obtain ⟨x, _, rfl⟩ := List.mem_map.mp hd
        simp [itemN, PyData.depth, PyData.depthAll]
      unfold knotD
      simp only [PyData.depth]
      omega
  unfold dSortD
  dsimp only
  rw [if_pos ho]
  unfold sortK
  rw [List.map_mergeSort (r := fun a b => dataLeF (knotD a) (knotD b)) (s := dataLeF) (f := knotD) fun a _ b _ => rfl]
def knotsL (vs : List (List Int)) : List Knot := sortK (knB vs 8 0 [] [])
theorem knotsof {t : List Int → D} (ht : ∀ v, dListOf [t v] = some (intsD v)) {b size : Nat} {vs : List (List Int)} (hvs : ∀ v ∈ vs, v.length = size ∧ Bd b v) (h1 : 1 ≤ b) (hx : xb b size ≤ 9000) (hs : size ≤ 7) (hl : vs.length ≤ 20) : g_knots_of [.list (vs.map t)] = some (.list ((knotsL vs).map knotD)) := by
  have e := behind ht hvs h1 hx (show size ≤ 50 by omega) hl 8 (first := 0) (chosen := []) (basis := []) .nil rfl (by simp; omega) (by omega)
  have e : g_knots_behind 8 [.list (vs.map t), .int 0, .list [], .list []] = _ := e
  refine wp_get (F := F_knots_of) (env := [some (.list (vs.map t))]) (by rw [g_knots_of_eq]; rfl) ?_
  unfold F_knots_of
  exact Wp.of (a := .rt (.list ((knotsL vs).map knotD)) []) (by simp only [fSeq, fNext, sIf, sIfP, sAsg, sAsgP, sDrop, sPar, sPar3, sAug, sRet, sRetP, sRetO, sForget, sAsgF, sMut, sSetI, setAt, fIxO, fIxP, dAt, fFlat, gCallM, gPop, f2, g2, f1, fNil, fCons, gNilE, gConsE, fCall, gCall, fLst, fTup, gLstE, gTupE, fTest, gTest, fAnd, fOr, fNot, gAnd, gOr, gNot, fIf, gIf, fAndV, fOrV, fNotV, fChain, fRev, tgTup, tgCons, tgNil, up, asB, asL, asT, asI, asS, enumA, zipA, zipB, setE, Option.bind_some, Option.bind_none, Option.map_some, Option.map_none, owns, List.mapM_cons, List.mapM_nil, List.set_cons_zero, List.set_cons_succ, gv_0, gv_1, gv_2, gv_3, gv_4, gv_5, gv_6, gv_7, gv_8, gv_9, gv_10, gv_11, gv_12, gv_13, ev_pure, ev_bind, wipeE, dI0, resP, resM, resF, dCmp, dGt, dLt, dLe, dGe, ix30, ix31, ix32, List.length_cons, List.length_nil, Nat.zero_add, Nat.reduceAdd, List.set_cons_zero, Bool.true_eq_false, Bool.false_eq_true, if_true, if_false, ite_true, ite_false, decide_true, decide_false, dInt, sz0, sz1, sz2, sz3, sz4, sz5, sz6, sz7, e, knot_sort]; rfl) rfl
theorem knotsin {b size : Nat} {vs : List (List Int)} (hvs : ∀ v ∈ vs, v.length = size ∧ Bd b v) (h1 : 1 ≤ b) (hx : xb b size ≤ 9000) (hs : size ≤ 7) (hl : vs.length ≤ 20) : g_knots_in [.list (vs.map tupD)] = some (.list ((knotsL vs).map knotD)) := by
  refine wp_get (F := F_knots_in) (env := [some (.list (vs.map tupD))]) (by rw [g_knots_in_eq]; rfl) ?_
  unfold F_knots_in
  exact Wp.of (a := .rt (.list ((knotsL vs).map knotD)) []) (by simp only [fSeq, fNext, sIf, sIfP, sAsg, sAsgP, sDrop, sPar, sPar3, sAug, sRet, sRetP, sRetO, sForget, sAsgF, sMut, sSetI, setAt, fIxO, fIxP, dAt, fFlat, gCallM, gPop, f2, g2, f1, fNil, fCons, gNilE, gConsE, fCall, gCall, fLst, fTup, gLstE, gTupE, fTest, gTest, fAnd, fOr, fNot, gAnd, gOr, gNot, fIf, gIf, fAndV, fOrV, fNotV, fChain, fRev, tgTup, tgCons, tgNil, up, asB, asL, asT, asI, asS, enumA, zipA, zipB, setE, Option.bind_some, Option.bind_none, Option.map_some, Option.map_none, owns, List.mapM_cons, List.mapM_nil, List.set_cons_zero, List.set_cons_succ, gv_0, gv_1, gv_2, gv_3, gv_4, gv_5, gv_6, gv_7, gv_8, gv_9, gv_10, gv_11, gv_12, gv_13, ev_pure, ev_bind, wipeE, dI0, resP, resM, resF, dCmp, dGt, dLt, dLe, dGe, ix30, ix31, ix32, List.length_cons, List.length_nil, Nat.zero_add, Nat.reduceAdd, List.set_cons_zero, Bool.true_eq_false, Bool.false_eq_true, if_true, if_false, ite_true, ite_false, decide_true, decide_false, dInt, sz0, sz1, sz2, sz3, sz4, sz5, sz6, sz7, knotsof (t := tupD) (fun v => rfl) hvs h1 hx hs hl]) rfl
end CSk21

namespace CSk21
open PySem CS
/-! ### what knots are -/
def lin : List Int → List (List Int) → Nat → Int
  | c :: cs, v :: vs, i => c * v.getD i 0 + lin cs vs i
  | [], _, _ => 0
  | _ :: _, [], _ => 0
theorem lin_nil (us : List (List Int)) (i : Nat) : lin [] us i = 0 := by cases us <;> rfl
theorem lin_app (i : Nat) : ∀ {cs ds : List Int} {us ws : List (List Int)}, cs.length = us.length → lin (cs ++ ds) (us ++ ws) i = lin cs us i + lin ds ws i
  | [], ds, [], ws, _ => by simp [lin]
  | c :: cs, ds, u :: us, ws, h => by
    have := lin_app i (cs := cs) (ds := ds) (us := us) (ws := ws) (by simpa using h)
    show c * u.getD i 0 + lin (cs ++ ds) (us ++ ws) i = c * u.getD i 0 + lin cs us i + lin ds ws i
    omega
theorem lin_short (i : Nat) : ∀ {cs : List Int} {us ws : List (List Int)}, cs.length ≤ us.length → lin cs (us ++ ws) i = lin cs us i
  | [], us, ws, _ => by rw [lin_nil, lin_nil]
  | c :: cs, u :: us, ws, h => by
    have := lin_short i (cs := cs) (us := us) (ws := ws) (by simpa using h)
    show c * u.getD i 0 + lin cs (us ++ ws) i = c * u.getD i 0 + lin cs us i
    omega
theorem lin_smul (i : Nat) (b : Int) : ∀ {cs : List Int} {us : List (List Int)}, lin (cs.map fun x => b * x) us i = b * lin cs us i
  | [], us => by simp [lin_nil]
  | c :: cs, [] => by simp [lin]
  | c :: cs, u :: us => by
    have := lin_smul i b (cs := cs) (us := us)
    show b * c * u.getD i 0 + lin (cs.map fun x => b * x) us i = b * (c * u.getD i 0 + lin cs us i)
    rw [this]; grind
theorem lin_add (i : Nat) (t : Int) : ∀ {fs ps : List Int} {us : List (List Int)}, ps.length ≤ fs.length → lin (addPar t fs ps) us i = lin fs us i + t * lin ps us i
  | [], [], us, _ => by simp [addPar, lin_nil]
  | f :: fs, [], us, _ => by show lin (f :: fs) us i = _; simp [lin_nil]
  | f :: fs, p :: ps, [], _ => by simp [addPar, lin]
  | f :: fs, p :: ps, u :: us, h => by
    have := lin_add i t (fs := fs) (ps := ps) (us := us) (by simpa using h)
    show (f + t * p) * u.getD i 0 + lin (addPar t fs ps) us i = f * u.getD i 0 + lin fs us i + t * (p * u.getD i 0 + lin ps us i)
    rw [this]; grind
theorem lin_zero (i : Nat) : ∀ {n : Nat} {us : List (List Int)}, lin (List.replicate n 0) us i = 0
  | 0, us => lin_nil us i
  | n + 1, [] => rfl
  | n + 1, u :: us => by
    have := lin_zero i (n := n) (us := us)
    show 0 * u.getD i 0 + lin (List.replicate n 0) us i = 0
    rw [this]; simp
theorem lin_one (i : Nat) (c : Int) (u : List Int) : lin [c] [u] i = c * u.getD i 0 := by show c * u.getD i 0 + lin [] [] i = _; rw [lin_nil]; omega
def Ind (us : List (List Int)) : Prop := ∀ cs : List Int, cs.length = us.length → (∀ i, lin cs us i = 0) → ∀ c ∈ cs, c = 0
theorem zero_all {cs : List Int} {us : List (List Int)} (h : ∀ c ∈ cs, c = 0) (i : Nat) : lin cs us i = 0 := by
  rw [List.eq_replicate_of_mem h]
  exact lin_zero i
theorem Ind.front {us ws : List (List Int)} (h : Ind (us ++ ws)) : Ind us := fun cs hc hz c hm => by
  refine h (cs ++ List.replicate ws.length 0) (by simp [hc]) (fun i => ?_) c (by simp [hm])
  rw [lin_app i hc, hz i, lin_zero]; rfl
theorem Ind.same {us : List (List Int)} (h : Ind us) {as bs : List Int} {x y : Int} (ha : as.length = us.length) (hb : bs.length = us.length) (he : ∀ i, x * lin as us i + y * lin bs us i = 0) : ∀ j, x * as.getD j 0 + y * bs.getD j 0 = 0 := fun j => by
  have hl : ((as.map fun a => x * a)).length = us.length := by simp [ha]
  have hz := h (addPar y (as.map fun a => x * a) bs) (by rw [addPar_len]; exact hl) (fun i => by rw [lin_add i y (by simp [ha, hb]), lin_smul]; exact he i)
  have key : ∀ (as bs : List Int) (j : Nat), as.length = bs.length → (addPar y (as.map fun a => x * a) bs).getD j 0 = x * as.getD j 0 + y * bs.getD j 0 := by
    intro as
    induction as with
    | nil => intro bs j hl; cases bs with
      | nil => simp [addPar]
      | cons b r => simp at hl
    | cons a as ih => intro bs j hl; cases bs with
      | nil => simp at hl
      | cons b r => cases j with
        | zero => rfl
        | succ j => simpa [addPar] using ih r j (by simpa using hl)
  rw [← key as bs j (by rw [ha, hb])]
  by_cases c : j < (addPar y (as.map fun a => x * a) bs).length
  · exact hz _ (getD_mem c)
  · rw [List.getD_eq_getElem?_getD, List.getElem?_eq_none (by omega)]; rfl
/-- a basis of some vectors -/
inductive Bas (b size : Nat) : List (List Int) → List Row → Prop
  | nil : Bas b size [] []
  | snoc {us : List (List Int)} {p : List Row} {u : List Int} {r : Row} {ps : List Int} {l : Int} : Bas b size us p → RowOk b size p r → r.par = ps ++ [l] → l ≠ 0 → (∀ i, r.row.getD i 0 = lin ps us i + l * u.getD i 0) → Bas b size (us ++ [u]) (p ++ [r])
theorem Bas.ech {b size : Nat} {us : List (List Int)} {p : List Row} (h : Bas b size us p) : Ech b size p := by
  induction h with
  | nil => exact .nil
  | snoc _ h2 _ _ _ ih => exact ih.snoc h2
theorem Bas.len {b size : Nat} {us : List (List Int)} {p : List Row} (h : Bas b size us p) : us.length = p.length := by
  induction h with
  | nil => rfl
  | snoc _ _ _ _ _ ih => simp [ih]
theorem Bas.rows {b size : Nat} {us : List (List Int)} {p : List Row} (h : Bas b size us p) : ∀ r ∈ p, r.par.length ≤ us.length ∧ ∀ i, r.row.getD i 0 = lin r.par us i := by
  induction h with
  | nil => intro r hr; simp at hr
  | @snoc us p u r ps l h1 h2 h3 h4 h5 ih =>
    have hl := h1.len
    have hpl := h2.pl
    intro r' hr'
    rcases List.mem_append.mp hr' with z | z
    · obtain ⟨a, c⟩ := ih r' z
      exact ⟨by simp; omega, fun i => by rw [lin_short i a]; exact c i⟩
    · rw [List.mem_singleton.mp z]
      rw [h3] at hpl ⊢
      simp at hpl
      exact ⟨by simp; omega, fun i => by rw [lin_app i (by omega), lin_one]; exact h5 i⟩
/-- what is 0 at all pivots is 0 -/
theorem Bas.zero {b size : Nat} {us : List (List Int)} {p : List Row} (h : Bas b size us p) : ∀ ds : List Int, ds.length = us.length → (∀ r ∈ p, lin ds us r.piv = 0) → ∀ i, lin ds us i = 0 := by
  induction h with
  | nil => intro ds hd _ i; cases ds with
    | nil => rfl
    | cons a r => simp at hd
  | @snoc us p u r ps l h1 h2 h3 h4 h5 ih =>
    intro ds hd hp
    have hpl := h2.pl
    have hl := h1.len
    rw [h3] at hpl
    simp at hpl
    obtain ⟨ds', d, rfl⟩ : ∃ ds' d, ds = ds' ++ [d] := by
      rcases List.eq_nil_or_concat ds with rfl | ⟨a, c, rfl⟩
      · simp at hd
      · exact ⟨a, c, by simp⟩
    have hd' : ds'.length = us.length := by simpa using hd
    have hlin : ∀ i, lin (ds' ++ [d]) (us ++ [u]) i = lin ds' us i + d * u.getD i 0 := fun i => by rw [lin_app i hd', lin_one]
    have hadd : ∀ i, lin (addPar (-d) (ds'.map fun x => l * x) ps) us i = l * lin ds' us i - d * lin ps us i := fun i => by rw [lin_add i (-d) (by simp; omega), lin_smul]; grind
    have hrow : ∀ i, l * lin (ds' ++ [d]) (us ++ [u]) i = lin (addPar (-d) (ds'.map fun x => l * x) ps) us i + d * r.row.getD i 0 := fun i => by
      rw [hlin, hadd, h5 i]; grind
    have hz := ih (addPar (-d) (ds'.map fun x => l * x) ps) (by rw [addPar_len, List.length_map]; exact hd') (fun r' hr' => by
      have e1 := hrow r'.piv
      rw [hp r' (by simp [hr']), h2.zr r' hr'] at e1
      simp at e1
      omega)
    have e2 := hrow r.piv
    rw [hp r (by simp), hz, Int.mul_zero, Int.zero_add] at e2
    have hd0 : d = 0 := by
      rcases Int.mul_eq_zero.mp e2.symm with z | z
      · exact z
      · have := h2.ps; omega
    intro i
    have e3 := hrow i
    rw [hz, hd0, Int.zero_mul, Int.zero_add] at e3
    rw [hd0]
    rcases Int.mul_eq_zero.mp e3 with z | z
    · exact absurd z h4
    · exact z
theorem Bas.ind {b size : Nat} {us : List (List Int)} {p : List Row} (h : Bas b size us p) : Ind us := by
  induction h with
  | nil => intro cs hc _ c hm; cases cs with
    | nil => simp at hm
    | cons a r => simp at hc
  | @snoc us p u r ps l h1 h2 h3 h4 h5 ih =>
    intro cs hc hz
    have hpl := h2.pl
    have hl := h1.len
    rw [h3] at hpl
    simp at hpl
    obtain ⟨ds, d, rfl⟩ : ∃ ds d, cs = ds ++ [d] := by
      rcases List.eq_nil_or_concat cs with rfl | ⟨a, c, rfl⟩
      · simp at hc
      · exact ⟨a, c, by simp⟩
    have hd' : ds.length = us.length := by simpa using hc
    have hlin : ∀ i, lin ds us i + d * u.getD i 0 = 0 := fun i => by rw [← lin_one, ← lin_app i hd']; exact hz i
    have hadd : ∀ i, lin (addPar (-d) (ds.map fun x => l * x) ps) us i = l * lin ds us i - d * lin ps us i := fun i => by rw [lin_add i (-d) (by simp; omega), lin_smul]; grind
    have hrow : ∀ i, lin (addPar (-d) (ds.map fun x => l * x) ps) us i + d * r.row.getD i 0 = 0 := fun i => by
      have := hlin i
      rw [hadd, h5 i]; grind
    have hz2 := h1.zero (addPar (-d) (ds.map fun x => l * x) ps) (by rw [addPar_len, List.length_map]; exact hd') (fun r' hr' => by
      have e1 := hrow r'.piv
      rw [h2.zr r' hr'] at e1
      omega)
    have hd0 : d = 0 := by
      have e2 := hrow r.piv
      rw [hz2, Int.zero_add] at e2
      rcases Int.mul_eq_zero.mp e2 with z | z
      · exact z
      · have := h2.ps; omega
    subst hd0
    intro c hm
    rcases List.mem_append.mp hm with z | z
    · exact ih ds hd' (fun i => by have := hlin i; omega) c z
    · exact List.mem_singleton.mp z
theorem ag_lin {us : List (List Int)} {v : List Int} {n : Nat} (hn : n = us.length) {size : Nat} (hv : v.length = size) : ∀ p : List Row, (∀ r ∈ p, r.row.length = size ∧ r.par.length ≤ us.length ∧ ∀ i, r.row.getD i 0 = lin r.par us i) → (agF n p v).rest.length = size ∧ (agF n p v).fnd.length = n ∧ ∀ i, (agF n p v).scale * v.getD i 0 = (agF n p v).rest.getD i 0 + lin (agF n p v).fnd us i := by
  suffices h : ∀ (p : List Row) (a : Ag), a.rest.length = size → a.fnd.length = n → (∀ i, a.scale * v.getD i 0 = a.rest.getD i 0 + lin a.fnd us i) → (∀ r ∈ p, r.row.length = size ∧ r.par.length ≤ us.length ∧ ∀ i, r.row.getD i 0 = lin r.par us i) → (p.foldl agStep a).rest.length = size ∧ (p.foldl agStep a).fnd.length = n ∧ ∀ i, (p.foldl agStep a).scale * v.getD i 0 = (p.foldl agStep a).rest.getD i 0 + lin (p.foldl agStep a).fnd us i from
    fun p hp => h p ⟨v, 1, List.replicate n 0⟩ hv (by simp) (fun i => by show 1 * v.getD i 0 = v.getD i 0 + lin (List.replicate n 0) us i; rw [lin_zero]; omega) hp
  intro p
  induction p with
  | nil => intro a h1 h2 h3 _; exact ⟨h1, h2, h3⟩
  | cons r p ih =>
    intro a h1 h2 h3 hp
    obtain ⟨r1, r2, r3⟩ := hp r (by simp)
    have hp' := fun r' (hr' : r' ∈ p) => hp r' (by simp [hr'])
    rw [List.foldl_cons]
    refine ih _ ?_ ?_ ?_ hp'
    · unfold agStep; split
      · exact h1
      · simp [h1, r1]
    · unfold agStep; split
      · exact h2
      · show (addPar _ _ _).length = n
        rw [addPar_len, List.length_map]; exact h2
    · intro i
      unfold agStep; split
      · exact h3 i
      · show a.scale * r.row.getD r.piv 0 * v.getD i 0 = ((a.rest.zip r.row).map fun p => r.row.getD r.piv 0 * p.1 - a.rest.getD r.piv 0 * p.2).getD i 0 + lin (addPar (a.rest.getD r.piv 0) (a.fnd.map fun x => r.row.getD r.piv 0 * x) r.par) us i
        rw [zipmap_getD (f := fun x y => r.row.getD r.piv 0 * x - a.rest.getD r.piv 0 * y) (by simp) (by rw [h1, r1]), lin_add i _ (by simp; omega), lin_smul]
        have e1 := h3 i
        have e2 := r3 i
        grind
end CSk21

namespace CSk21
open PySem CS
theorem getD_map0 {f : Int → Int} (hf : f 0 = 0) (l : List Int) (i : Nat) : (l.map f).getD i 0 = f (l.getD i 0) := map_getD hf
theorem dvd_getD {l : List Int} {g : Int} (h : ∀ x ∈ l, g ∣ x) (i : Nat) : g ∣ l.getD i 0 := by
  by_cases c : i < l.length
  · exact h _ (getD_mem c)
  · rw [List.getD_eq_getElem?_getD, List.getElem?_eq_none (by omega)]
    exact Int.dvd_zero g
/-- what against tells of a vector -/
theorem Bas.tells {b size : Nat} {us : List (List Int)} {p : List Row} (h : Bas b size us p) {v : List Int} (hv : v.length = size) (hb : Bd b v) (h1 : 1 ≤ b) : AgOk b size p.length p (agF p.length p v) ∧ ∀ i, (agF p.length p v).scale * v.getD i 0 = (agF p.length p v).rest.getD i 0 + lin (agF p.length p v).fnd us i := by
  refine ⟨ag_ok hv hb h1 h.ech, (ag_lin (us := us) (n := p.length) h.len.symm hv p fun r hr => ?_).2.2⟩
  obtain ⟨a, c⟩ := h.rows r hr
  refine ⟨?_, a, c⟩
  have key : ∀ {l : List Row}, Ech b size l → ∀ r ∈ l, r.row.length = size := by
    intro l hl
    induction hl with
    | nil => intro r hr; simp at hr
    | snoc _ h2 ih =>
      intro r hr
      rcases List.mem_append.mp hr with z | z
      · exact ih r z
      · rw [List.mem_singleton.mp z]; exact h2.rl
  exact key h.ech r hr
theorem Bas.step {b size : Nat} {us : List (List Int)} {p : List Row} (h : Bas b size us p) {v : List Int} (hv : v.length = size) (hb : Bd b v) (h1 : 1 ≤ b) (hn : ∃ x ∈ (agF p.length p v).rest, x ≠ 0) : Bas b size (us ++ [v]) (p ++ [rowOf (agF p.length p v)]) := by
  obtain ⟨A, E⟩ := h.tells hv hb h1
  generalize agF p.length p v = a at *
  obtain ⟨l1, l2, l3⟩ := least_ne A.sp
  have hd : ∀ x ∈ a.rest, leastOf a ∣ x := fun x hx => least_dvd A.sp (by simp [hx])
  have hf : ∀ x ∈ a.fnd, leastOf a ∣ x := fun x hx => least_dvd A.sp (by simp [hx])
  have hs := fdiv_dvd (least_dvd A.sp (x := a.scale) (by simp)) l1
  refine h.snoc (row_ok A hn) (ps := a.fnd.map fun x => -(x.fdiv (leastOf a))) (l := a.scale.fdiv (leastOf a)) rfl (fun e => ?_) fun i => ?_
  · rw [e, Int.zero_mul] at hs
    have := A.sp
    omega
  · show (a.rest.map fun x => x.fdiv (leastOf a)).getD i 0 = _
    rw [getD_map0 (f := fun x => x.fdiv (leastOf a)) (Int.zero_fdiv _)]
    have e1 := fdiv_dvd (dvd_getD hd i) l1
    have e2 : leastOf a * lin (a.fnd.map fun x => -(x.fdiv (leastOf a))) us i = -lin a.fnd us i := by
      rw [← lin_smul, List.map_map]
      have : (a.fnd.map ((fun x => leastOf a * x) ∘ fun x => -(x.fdiv (leastOf a)))) = a.fnd.map fun x => (-1) * x := List.map_congr_left fun x hx => by
        have := fdiv_dvd (hf x hx) l1
        show leastOf a * -(x.fdiv (leastOf a)) = -1 * x
        grind
      rw [this, lin_smul]; omega
    have e3 := E i
    have e4 : leastOf a * ((a.rest.getD i 0).fdiv (leastOf a)) = leastOf a * (lin (a.fnd.map fun x => -(x.fdiv (leastOf a))) us i + a.scale.fdiv (leastOf a) * v.getD i 0) := by grind
    exact Int.eq_of_mul_eq_mul_left l1 e4
theorem gcdF_smul (c : Int) (l : List Int) : gcdF (l.map fun x => x * c) = gcdF l * c.natAbs := by
  have key : ∀ (l : List Int) (g : Nat), (l.map fun x => x * c).foldl (fun (g : Nat) x => Int.gcd g x) (g * c.natAbs) = l.foldl (fun (g : Nat) x => Int.gcd g x) g * c.natAbs := by
    intro l
    induction l with
    | nil => intro g; rfl
    | cons x r ih =>
      intro g
      rw [List.map_cons, List.foldl_cons, List.foldl_cons, ← ih]
      congr 1
      show Nat.gcd ((g * c.natAbs : Nat) : Int).natAbs (x * c).natAbs = Nat.gcd ((g : Nat) : Int).natAbs x.natAbs * c.natAbs
      rw [Int.natAbs_mul, Int.natAbs_natCast, Int.natAbs_natCast, Nat.gcd_mul_right]
  have := key l 0
  rw [Nat.zero_mul] at this
  exact this
theorem gcdF_abs {l m : List Int} (h : l.map Int.natAbs = m.map Int.natAbs) : gcdF l = gcdF m := by
  refine Nat.dvd_antisymm (dvd_gcdF fun x hx => ?_) (dvd_gcdF fun x hx => ?_)
  · have : x.natAbs ∈ l.map Int.natAbs := by rw [h]; exact List.mem_map.mpr ⟨x, hx, rfl⟩
    obtain ⟨y, hy, e⟩ := List.mem_map.mp this
    rw [← e]; exact gcdF_dvd hy
  · have : x.natAbs ∈ m.map Int.natAbs := by rw [← h]; exact List.mem_map.mpr ⟨x, hx, rfl⟩
    obtain ⟨y, hy, e⟩ := List.mem_map.mp this
    rw [← e]; exact gcdF_dvd hy
/-- weights with which vectors add up to 0, just these -/
structure KnotOn (us : List (List Int)) (u : List Int) (ws : List Int) (w : Int) : Prop where
  ln : ws.length = us.length
  ps : ∀ x ∈ ws, 0 < x
  pw : 0 < w
  gc : gcdF (ws ++ [w]) = 1
  sm : ∀ i, lin ws us i + w * u.getD i 0 = 0
  ind : Ind us
theorem gneg (a : List Int) (s : Int) : gcdF ((a.map fun x => -x) ++ [s]) = gcdF (a ++ [s]) := gcdF_abs (by
  rw [List.map_append, List.map_append, List.map_map]
  congr 1
  exact List.map_congr_left fun x _ => by show (-x).natAbs = x.natAbs; rw [Int.natAbs_neg])
/-- a knot is found -/
theorem knot_on {b size : Nat} {us : List (List Int)} {p : List Row} (h : Bas b size us p) {v : List Int} (hv : v.length = size) (hb : Bd b v) (h1 : 1 ≤ b) (hz : ∀ x ∈ (agF p.length p v).rest, x = 0) (hf : ∀ x ∈ (agF p.length p v).fnd, x < 0) :
    KnotOn us v ((agF p.length p v).fnd.map fun x => (-x).fdiv (gcdF ((agF p.length p v).fnd ++ [(agF p.length p v).scale]) : Nat)) ((agF p.length p v).scale.fdiv (gcdF ((agF p.length p v).fnd ++ [(agF p.length p v).scale]) : Nat)) := by
  obtain ⟨A, E⟩ := h.tells hv hb h1
  generalize agF p.length p v = a at *
  have g0 : gcdF (a.fnd ++ [a.scale]) ≠ 0 := by
    intro e
    have := gcdF_dvd (l := a.fnd ++ [a.scale]) (x := a.scale) (by simp)
    rw [e] at this
    have := Nat.zero_dvd.mp this
    have := A.sp
    omega
  have hgf : ∀ x ∈ a.fnd, ((gcdF (a.fnd ++ [a.scale]) : Nat) : Int) ∣ -x := fun x hx => by
    rw [Int.dvd_neg]
    exact Int.ofNat_dvd_left.mpr (gcdF_dvd (by simp [hx]))
  have hgs : ((gcdF (a.fnd ++ [a.scale]) : Nat) : Int) ∣ a.scale := Int.ofNat_dvd_left.mpr (gcdF_dvd (by simp))
  have hg1 := gneg a.fnd a.scale
  have hgd := gcdF_div hg1 g0
  generalize gcdF (a.fnd ++ [a.scale]) = g at *
  have gp : (0 : Int) < (g : Int) := by omega
  have efd : ∀ y : Int, y.fdiv (g : Int) = y / (g : Int) := fun y => Int.fdiv_eq_ediv_of_nonneg y (by omega)
  have es := Int.mul_ediv_cancel' hgs
  refine ⟨by rw [List.length_map, A.fl, h.len], fun x hx => ?_, ?_, ?_, fun i => ?_, h.ind⟩
  · obtain ⟨y, hy, rfl⟩ := List.mem_map.mp hx
    rw [efd]
    have e := Int.mul_ediv_cancel' (hgf y hy)
    have hy0 := hf y hy
    refine Classical.byContradiction fun hn => ?_
    have := Int.mul_nonpos_of_nonneg_of_nonpos (Int.le_of_lt gp) (show -y / (g : Int) ≤ 0 by omega)
    omega
  · rw [efd]
    refine Classical.byContradiction fun hn => ?_
    have := Int.mul_nonpos_of_nonneg_of_nonpos (Int.le_of_lt gp) (show a.scale / (g : Int) ≤ 0 by omega)
    have := A.sp
    omega
  · rw [← hgd, List.map_append, List.map_map]
    congr 2
    · exact List.map_congr_left fun x _ => by show (-x).fdiv (g : Int) = -x / (g : Int); rw [efd]
    · show [a.scale.fdiv (g : Int)] = [a.scale / (g : Int)]; rw [efd]
  · have e2 : (g : Int) * lin (a.fnd.map fun x => (-x).fdiv (g : Int)) us i = -lin a.fnd us i := by
      rw [← lin_smul, List.map_map]
      have : (a.fnd.map ((fun x => (g : Int) * x) ∘ fun x => (-x).fdiv (g : Int))) = a.fnd.map fun x => (-1) * x := List.map_congr_left fun x hx => by
        have := Int.mul_ediv_cancel' (hgf x hx)
        show (g : Int) * ((-x).fdiv (g : Int)) = -1 * x
        rw [efd]; omega
      rw [this, lin_smul]; omega
    have e3 := E i
    have e0 : a.rest.getD i 0 = 0 := by
      by_cases c : i < a.rest.length
      · exact hz _ (getD_mem c)
      · rw [List.getD_eq_getElem?_getD, List.getElem?_eq_none (by omega)]; rfl
    rw [efd]
    have : (g : Int) * (lin (a.fnd.map fun x => (-x).fdiv (g : Int)) us i + a.scale / (g : Int) * v.getD i 0) = (g : Int) * 0 := by grind
    exact Int.eq_of_mul_eq_mul_left (by omega) this
/-- a knot is the one that is found -/
theorem on_knot {b size : Nat} {us : List (List Int)} {p : List Row} (h : Bas b size us p) {v : List Int} (hv : v.length = size) (hb : Bd b v) (h1 : 1 ≤ b) {ws : List Int} {w : Int} (hk : KnotOn us v ws w) :
    (∀ x ∈ (agF p.length p v).rest, x = 0) ∧ (∀ x ∈ (agF p.length p v).fnd, x < 0) ∧ ws = ((agF p.length p v).fnd.map fun x => (-x).fdiv (gcdF ((agF p.length p v).fnd ++ [(agF p.length p v).scale]) : Nat)) ∧ w = ((agF p.length p v).scale.fdiv (gcdF ((agF p.length p v).fnd ++ [(agF p.length p v).scale]) : Nat)) := by
  have hrest : ∀ x ∈ (agF p.length p v).rest, x = 0 := fun x hx => by
    refine Classical.byContradiction fun hn => ?_
    have := (h.step hv hb h1 ⟨x, hx, hn⟩).ind (ws ++ [w]) (by simp [hk.ln]) (fun i => by rw [lin_app i hk.ln, lin_one]; exact hk.sm i) w (by simp)
    have := hk.pw
    omega
  obtain ⟨A, E⟩ := h.tells hv hb h1
  generalize agF p.length p v = a at *
  have hrel : ∀ j, w * a.fnd.getD j 0 + a.scale * ws.getD j 0 = 0 := hk.ind.same (by rw [A.fl, h.len]) hk.ln fun i => by
    have e3 := E i
    have e0 : a.rest.getD i 0 = 0 := by
      by_cases c : i < a.rest.length
      · exact hrest _ (getD_mem c)
      · rw [List.getD_eq_getElem?_getD, List.getElem?_eq_none (by omega)]; rfl
    have e4 := hk.sm i
    grind
  have hlen : a.fnd.length = ws.length := by rw [A.fl, hk.ln, h.len]
  have hsp := A.sp
  have hwp := hk.pw
  have hneg : ∀ x ∈ a.fnd, x < 0 := fun x hx => by
    obtain ⟨j, hj, rfl⟩ := List.mem_iff_getElem.mp hx
    have e := hrel j
    have hw := hk.ps _ (getD_mem (l := ws) (i := j) (by omega))
    rw [List.getD_eq_getElem?_getD (l := a.fnd), List.getElem?_eq_getElem hj, Option.getD_some] at e
    refine Classical.byContradiction fun hn => ?_
    have p1 := Int.mul_nonneg (Int.le_of_lt hwp) (show 0 ≤ a.fnd[j] by omega)
    have p2 := Int.mul_pos hsp hw
    omega
  have hprop : ((a.fnd.map fun x => -x) ++ [a.scale]).map (fun x => x * w) = (ws ++ [w]).map (fun x => x * a.scale) := by
    rw [List.map_append, List.map_append, List.map_map]
    congr 1
    · refine List.ext_getElem (by simp [hlen]) fun j h1 h2 => ?_
      rw [List.getElem_map, List.getElem_map]
      have e := hrel j
      have hj : j < a.fnd.length := by simpa using h1
      rw [List.getD_eq_getElem?_getD, List.getElem?_eq_getElem hj, Option.getD_some, List.getD_eq_getElem?_getD, List.getElem?_eq_getElem (by omega), Option.getD_some] at e
      show -a.fnd[j] * w = ws[j] * a.scale
      grind
    · show [a.scale * w] = [w * a.scale]
      rw [Int.mul_comm]
  have hg := congrArg gcdF hprop
  rw [gcdF_smul, gcdF_smul, hk.gc, Nat.one_mul, gneg] at hg
  generalize gcdF (a.fnd ++ [a.scale]) = g at *
  have hgw : (g : Int) * w = a.scale := by
    have : ((g * w.natAbs : Nat) : Int) = (a.scale.natAbs : Nat) := by rw [hg]
    rw [Int.natCast_mul] at this
    rw [show ((w.natAbs : Nat) : Int) = w by omega, show ((a.scale.natAbs : Nat) : Int) = a.scale by omega] at this
    exact this
  have g0 : (g : Int) ≠ 0 := by
    intro e
    rw [e, Int.zero_mul] at hgw
    omega
  refine ⟨hrest, hneg, ?_, by rw [← hgw, Int.mul_comm, Int.mul_fdiv_cancel _ g0]⟩
  refine List.ext_getElem (by simp [hlen]) fun j h1 h2 => ?_
  rw [List.getElem_map]
  have e := hrel j
  have hj : j < a.fnd.length := by omega
  rw [List.getD_eq_getElem?_getD, List.getElem?_eq_getElem hj, Option.getD_some, List.getD_eq_getElem?_getD, List.getElem?_eq_getElem h1, Option.getD_some] at e
  have e2 : w * (-a.fnd[j]) = w * (ws[j] * (g : Int)) := by grind
  rw [Int.eq_of_mul_eq_mul_left (by omega) e2, Int.mul_fdiv_cancel _ g0]
end CSk21

namespace CSk21
open PySem CS
/-! ### all knots, and no others -/
def vecs (vs : List (List Int)) (is : List Nat) : List (List Int) := is.map fun i => vs.getD i []
theorem any_rest {l : List Int} : (l.any fun x => decide (x ≠ 0)) = true ↔ ∃ x ∈ l, x ≠ 0 := by
  rw [List.any_eq_true]
  exact ⟨fun ⟨x, h1, h2⟩ => ⟨x, h1, of_decide_eq_true h2⟩, fun ⟨x, h1, h2⟩ => ⟨x, h1, decide_eq_true h2⟩⟩
theorem all_fnd {l : List Int} : (l.all fun x => decide (x < 0)) = true ↔ ∀ x ∈ l, x < 0 := by
  rw [List.all_eq_true]
  exact ⟨fun h x hx => of_decide_eq_true (h x hx), fun h x hx => decide_eq_true (h x hx)⟩
theorem zip_map2 {α β γ : Type} (f : β → γ) : ∀ (l : List α) (m : List β), (l.zip m).map (fun p => (p.1, f p.2)) = l.zip (m.map f)
  | [], _ => by simp
  | _ :: _, [] => by simp
  | a :: l, b :: m => by
    have := zip_map2 f l m
    simp [this]
theorem knotOf_zip (chosen : List Nat) (a : Ag) (i : Nat) : knotOf chosen a i = chosen.zip (a.fnd.map fun x => (-x).fdiv (gcdF (a.fnd ++ [a.scale]) : Nat)) ++ [(i, a.scale.fdiv (gcdF (a.fnd ++ [a.scale]) : Nat))] := by
  unfold knotOf
  dsimp only
  rw [← zip_map2 (fun x : Int => (-x).fdiv (gcdF (a.fnd ++ [a.scale]) : Nat))]
/-- a knot of some vectors: its numbers, its weights -/
structure IsKnot (vs : List (List Int)) (K : Knot) (is : List Nat) (i : Nat) (ws : List Int) (w : Int) : Prop where
  eq : K = is.zip ws ++ [(i, w)]
  on : KnotOn (vecs vs is) (vs.getD i []) ws w
theorem mem_knB {b size : Nat} {vs : List (List Int)} (hvs : ∀ v ∈ vs, v.length = size ∧ Bd b v) (h1 : 1 ≤ b) (K : Knot) : ∀ (n first : Nat) (chosen : List Nat) (basis : List Row), Bas b size (vecs vs chosen) basis → size + 1 ≤ n + basis.length →
    (K ∈ knB vs n first chosen basis ↔ ∃ is i ws w, IsKnot vs K is i ws w ∧ ∃ more, is ++ [i] = chosen ++ more ∧ more ≠ [] ∧ more.Pairwise (· < ·) ∧ ∀ m ∈ more, first ≤ m ∧ m < vs.length) := by
  intro n
  induction n with
  | zero =>
    intro first chosen basis hb hn
    have := ech_len hb.ech
    omega
  | succ n ih =>
    intro first chosen basis hb hn
    have hcl : chosen.length = basis.length := by rw [← hb.len]; unfold vecs; simp
    unfold knB
    rw [List.mem_flatMap]
    constructor
    · rintro ⟨i, hi, hK⟩
      have hi := List.mem_range'_1.mp hi
      have hil : i < vs.length := by omega
      obtain ⟨hv1, hv2⟩ := hvs _ (getD_vs hil)
      split at hK
      · rename_i hc
        have hst := hb.step hv1 hv2 h1 (any_rest.mp hc)
        have hst' : Bas b size (vecs vs (chosen ++ [i])) (basis ++ [rowOf (agF basis.length basis (vs.getD i []))]) := by
          unfold vecs
          rw [List.map_append]
          exact hst
        obtain ⟨is, j, ws, w, hk, more, e1, e2, e3, e4⟩ := (ih (i + 1) _ _ hst' (by simp; omega)).mp hK
        refine ⟨is, j, ws, w, hk, i :: more, by rw [e1]; simp, by simp, List.pairwise_cons.mpr ⟨fun m hm => by have := (e4 m hm).1; omega, e3⟩, fun m hm => ?_⟩
        rcases List.mem_cons.mp hm with rfl | hm
        · exact ⟨hi.1, hil⟩
        · have := e4 m hm; omega
      · rename_i hc
        split at hK
        · rename_i hc2
          have hK := List.mem_singleton.mp hK
          have hz : ∀ x ∈ (agF basis.length basis (vs.getD i [])).rest, x = 0 := fun x hx => Classical.byContradiction fun hx0 => hc (any_rest.mpr ⟨x, hx, hx0⟩)
          have hon := knot_on hb hv1 hv2 h1 hz (all_fnd.mp hc2)
          exact ⟨chosen, i, _, _, ⟨hK.trans (knotOf_zip _ _ _), hon⟩, [i], rfl, by simp, by simp, fun m hm => by rw [List.mem_singleton.mp hm]; exact ⟨hi.1, hil⟩⟩
        · simp at hK
    · rintro ⟨is, j, ws, w, hk, more, e1, e2, e3, e4⟩
      obtain ⟨i, more', rfl⟩ : ∃ i more', more = i :: more' := by
        cases more with
        | nil => exact absurd rfl e2
        | cons a r => exact ⟨a, r, rfl⟩
      have hi := e4 i (by simp)
      obtain ⟨hv1, hv2⟩ := hvs _ (getD_vs hi.2)
      refine ⟨i, List.mem_range'_1.mpr ⟨hi.1, by omega⟩, ?_⟩
      rcases List.eq_nil_or_concat more' with rfl | ⟨m2, z, rfl⟩
      · obtain ⟨rfl, e⟩ := List.append_inj' e1 rfl
        cases e
        obtain ⟨o1, o2, o3, o4⟩ := on_knot hb hv1 hv2 h1 hk.on
        rw [if_neg (fun hc => by obtain ⟨x, hx, h0⟩ := any_rest.mp hc; exact h0 (o1 x hx)), if_pos (all_fnd.mpr o2)]
        rw [List.mem_singleton, hk.eq, knotOf_zip, ← o3, ← o4]
      · rw [List.concat_eq_append] at e1 e3 e4
        have e1' : is ++ [j] = (chosen ++ i :: m2) ++ [z] := by rw [e1]; simp
        obtain ⟨rfl, e⟩ := List.append_inj' e1' rfl
        cases e
        have hind : Ind (vecs vs chosen ++ [vs.getD i []]) := by
          have h := hk.on.ind
          have e : vecs vs (chosen ++ i :: m2) = (vecs vs chosen ++ [vs.getD i []]) ++ vecs vs m2 := by unfold vecs; simp
          rw [e] at h
          exact h.front
        have hex : ∃ x ∈ (agF basis.length basis (vs.getD i [])).rest, x ≠ 0 := by
          refine Classical.byContradiction fun hno => ?_
          obtain ⟨A, E⟩ := hb.tells hv1 hv2 h1
          generalize agF basis.length basis (vs.getD i []) = a at *
          have hz := hind ((a.fnd.map fun x => (-1) * x) ++ [a.scale]) (by simp [A.fl, hb.len]) (fun k => by
            rw [lin_app k (by rw [List.length_map, A.fl, hb.len]), lin_one, lin_smul]
            have e0 : a.rest.getD k 0 = 0 := by
              by_cases c : k < a.rest.length
              · exact Classical.byContradiction fun h0 => hno ⟨_, getD_mem c, h0⟩
              · rw [List.getD_eq_getElem?_getD, List.getElem?_eq_none (by omega)]; rfl
            have := E k
            omega) a.scale (by simp)
          have := A.sp
          omega
        rw [if_pos (any_rest.mpr hex)]
        have hst := hb.step hv1 hv2 h1 hex
        have hst' : Bas b size (vecs vs (chosen ++ [i])) (basis ++ [rowOf (agF basis.length basis (vs.getD i []))]) := by
          unfold vecs
          rw [List.map_append]
          exact hst
        obtain ⟨p1, p2⟩ := List.pairwise_cons.mp e3
        refine (ih (i + 1) _ _ hst' (by simp; omega)).mpr ⟨_, j, ws, w, hk, m2 ++ [j], by simp, by simp, p2, fun m hm => ⟨p1 m hm, (e4 m (List.mem_cons_of_mem _ hm)).2⟩⟩
theorem mem_knots {b size : Nat} {vs : List (List Int)} (hvs : ∀ v ∈ vs, v.length = size ∧ Bd b v) (h1 : 1 ≤ b) (hs : size ≤ 7) (K : Knot) : K ∈ knotsL vs ↔ ∃ is i ws w, IsKnot vs K is i ws w ∧ (is ++ [i]).Pairwise (· < ·) ∧ ∀ m ∈ is ++ [i], m < vs.length := by
  unfold knotsL
  rw [(sortK_perm _).mem_iff, mem_knB hvs h1 K 8 0 [] [] .nil (by simp; omega)]
  constructor
  · rintro ⟨is, i, ws, w, hk, more, e1, e2, e3, e4⟩
    rw [List.nil_append] at e1
    rw [← e1] at e3 e4
    exact ⟨is, i, ws, w, hk, e3, fun m hm => (e4 m hm).2⟩
  · rintro ⟨is, i, ws, w, hk, e3, e4⟩
    exact ⟨is, i, ws, w, hk, is ++ [i], rfl, by simp, e3, fun m hm => ⟨Nat.zero_le _, e4 m hm⟩⟩
end CSk21

namespace CSk21
open PySem CS
/-! ### knots by functions -/
def S (c : List Int → Int) (V : List (List Int)) (i : Nat) : Int := (V.map fun x => c x * x.getD i 0).sum
theorem lin_S (c : List Int → Int) (i : Nat) : ∀ V : List (List Int), lin (V.map c) V i = S c V i
  | [] => rfl
  | x :: V => by
    have := lin_S c i V
    show c x * x.getD i 0 + lin (V.map c) V i = (List.map _ (x :: V)).sum
    rw [this, List.map_cons, List.sum_cons]
    rfl
theorem sum_perm {α : Type} {f : α → Int} {l m : List α} (h : l.Perm m) : (l.map f).sum = (m.map f).sum := by
  induction h with
  | nil => rfl
  | cons x _ ih => simp [ih]
  | swap x y l => simp only [List.map_cons, List.sum_cons]; omega
  | trans _ _ a b => rw [a, b]
theorem S_perm {c : List Int → Int} {V V' : List (List Int)} (h : V.Perm V') (i : Nat) : S c V i = S c V' i := sum_perm h
theorem fun_of : ∀ {V : List (List Int)} {cs : List Int}, V.Nodup → cs.length = V.length → ∃ c : List Int → Int, cs = V.map c
  | [], [], _, _ => ⟨fun _ => 0, rfl⟩
  | x :: V, a :: cs, hn, hl => by
    obtain ⟨n1, n2⟩ := List.nodup_cons.mp hn
    obtain ⟨c, hc⟩ := fun_of (V := V) (cs := cs) n2 (by simpa using hl)
    refine ⟨fun z => if z = x then a else c z, ?_⟩
    rw [List.map_cons, if_pos rfl, hc]
    congr 1
    exact List.map_congr_left fun z hz => by
      have : z ≠ x := fun e => n1 (e ▸ hz)
      show c z = if z = x then a else c z
      rw [if_neg this]
theorem sum_zero {α : Type} {f : α → Int} : ∀ {l : List α}, (∀ x ∈ l, f x = 0) → (l.map f).sum = 0
  | [], _ => rfl
  | x :: l, h => by
    have := sum_zero (l := l) fun y hy => h y (by simp [hy])
    rw [List.map_cons, List.sum_cons, h x (by simp), this]; rfl
theorem sum_one {α : Type} [DecidableEq α] {f : α → Int} {l : List α} {a : α} (hn : l.Nodup) (ha : a ∈ l) (h : ∀ x ∈ l, x ≠ a → f x = 0) : (l.map f).sum = f a := by
  rw [sum_perm (List.perm_cons_erase ha), List.map_cons, List.sum_cons, sum_zero fun x hx => ?_, Int.add_zero]
  have := (List.Nodup.mem_erase_iff hn).mp hx
  exact h x this.2 this.1
/-- a positive term, hence a negative one -/
theorem sum_neg {α : Type} {f : α → Int} : ∀ {l : List α} {a : α}, a ∈ l → 0 < f a → (l.map f).sum ≤ 0 → ∃ y ∈ l, f y < 0 := fun {l} {a} ha hp hs => by
  refine Classical.byContradiction fun hno => ?_
  have hnn : ∀ y ∈ l, 0 ≤ f y := fun y hy => Classical.byContradiction fun h => hno ⟨y, hy, by omega⟩
  have key : ∀ {l : List α}, (∀ y ∈ l, 0 ≤ f y) → 0 ≤ (l.map f).sum ∧ ∀ a ∈ l, f a ≤ (l.map f).sum := by
    intro l
    induction l with
    | nil => intro _; exact ⟨by simp, fun a h => by simp at h⟩
    | cons x l ih =>
      intro h
      obtain ⟨i1, i2⟩ := ih fun y hy => h y (by simp [hy])
      have hx := h x (by simp)
      rw [List.map_cons, List.sum_cons]
      refine ⟨by omega, fun a ha => ?_⟩
      rcases List.mem_cons.mp ha with rfl | ha
      · omega
      · have := i2 a ha; omega
  have := (key hnn).2 a ha
  omega
structure Tie (V : List (List Int)) (wf : List Int → Int) : Prop where
  nd : V.Nodup
  ps : ∀ x ∈ V, 0 < wf x
  gc : gcdF (V.map wf) = 1
  z : ∀ i, S wf V i = 0
  ker : ∀ c : List Int → Int, (∀ i, S c V i = 0) → ∃ q w : Int, 0 < w ∧ ∀ x ∈ V, w * c x = q * wf x
theorem vecs_nd {vs : List (List Int)} {I : List Nat} (hn : vs.Nodup) (hI : I.Pairwise (· < ·)) (hl : ∀ i ∈ I, i < vs.length) : (vecs vs I).Nodup := by
  unfold vecs
  refine List.pairwise_map.mpr (hI.imp_of_mem fun {a b} ha hb hab e => ?_)
  have h1 := hl a ha
  have h2 := hl b hb
  rw [List.getD_eq_getElem?_getD, List.getD_eq_getElem?_getD, List.getElem?_eq_getElem h1, List.getElem?_eq_getElem h2, Option.getD_some, Option.getD_some] at e
  have := (List.getElem_inj hn).mp e
  omega
theorem tie_of {vs : List (List Int)} (hn : vs.Nodup) {K : Knot} {is : List Nat} {i : Nat} {ws : List Int} {w : Int} (hk : IsKnot vs K is i ws w) (hI : (is ++ [i]).Pairwise (· < ·)) (hl : ∀ m ∈ is ++ [i], m < vs.length) : ∃ wf, Tie (vecs vs (is ++ [i])) wf ∧ ws ++ [w] = (vecs vs (is ++ [i])).map wf := by
  have hnd := vecs_nd hn hI hl
  have hv : vecs vs (is ++ [i]) = vecs vs is ++ [vs.getD i []] := by unfold vecs; simp
  obtain ⟨wf, hw⟩ := fun_of (cs := ws ++ [w]) hnd (by rw [hv]; simp [hk.on.ln])
  have hpos : ∀ x ∈ ws ++ [w], 0 < x := fun x hx => by
    rcases List.mem_append.mp hx with z | z
    · exact hk.on.ps x z
    · rw [List.mem_singleton.mp z]; exact hk.on.pw
  refine ⟨wf, ⟨hnd, fun x hx => hpos _ (by rw [hw]; exact List.mem_map.mpr ⟨x, hx, rfl⟩), by rw [← hw]; exact hk.on.gc, fun j => ?_, fun c hc => ?_⟩, hw⟩
  · rw [← lin_S, ← hw, hv, lin_app j hk.on.ln, lin_one]
    exact hk.on.sm j
  · have hlast : wf (vs.getD i []) = w := by
      rw [hv, List.map_append] at hw
      have := (List.append_inj' hw rfl).2
      simpa using this.symm
    have hfirst : ws = (vecs vs is).map wf := by
      rw [hv, List.map_append] at hw
      exact (List.append_inj' hw rfl).1
    have hrel : ∀ j, w * lin ((vecs vs is).map c) (vecs vs is) j + (-(c (vs.getD i []))) * lin ws (vecs vs is) j = 0 := fun j => by
      have e1 := hc j
      rw [← lin_S, hv, List.map_append, lin_app j (by simp)] at e1
      have e1 : lin ((vecs vs is).map c) (vecs vs is) j + lin [c (vs.getD i [])] [vs.getD i []] j = 0 := e1
      rw [lin_one] at e1
      have e2 := hk.on.sm j
      grind
    have hsame := hk.on.ind.same (as := (vecs vs is).map c) (bs := ws) (by simp) hk.on.ln hrel
    refine ⟨c (vs.getD i []), w, hk.on.pw, fun x hx => ?_⟩
    rw [hv] at hx
    rcases List.mem_append.mp hx with z | z
    · obtain ⟨j, hj, rfl⟩ := List.mem_iff_getElem.mp z
      have e := hsame j
      rw [hfirst, List.getD_eq_getElem?_getD (l := List.map c _), List.getD_eq_getElem?_getD (l := List.map wf _), List.getElem?_map, List.getElem?_map, List.getElem?_eq_getElem hj] at e
      simp only [Option.map_some, Option.getD_some] at e
      rw [Int.neg_mul] at e
      omega
    · rw [List.mem_singleton.mp z, hlast, Int.mul_comm]
theorem knot_of_tie {b size : Nat} {vs : List (List Int)} (hvs : ∀ v ∈ vs, v.length = size ∧ Bd b v) (h1 : 1 ≤ b) (hs : size ≤ 7) {I : List Nat} {wf : List Int → Int} (hI : I.Pairwise (· < ·)) (hl : ∀ m ∈ I, m < vs.length) (h0 : I ≠ []) (ht : Tie (vecs vs I) wf) : I.zip ((vecs vs I).map wf) ∈ knotsL vs := by
  obtain ⟨is, i, rfl⟩ : ∃ is i, I = is ++ [i] := by
    rcases List.eq_nil_or_concat I with rfl | ⟨a, c, rfl⟩
    · exact absurd rfl h0
    · exact ⟨a, c, by simp⟩
  have hv : vecs vs (is ++ [i]) = vecs vs is ++ [vs.getD i []] := by unfold vecs; simp
  refine (mem_knots hvs h1 hs _).mpr ⟨is, i, (vecs vs is).map wf, wf (vs.getD i []), ⟨?_, ?_⟩, hI, hl⟩
  · rw [hv, List.map_append, List.zip_append (by unfold vecs; simp)]
    rfl
  · have hm : (vecs vs (is ++ [i])).map wf = (vecs vs is).map wf ++ [wf (vs.getD i [])] := by rw [hv, List.map_append]; rfl
    refine ⟨by simp, fun x hx => ?_, ht.ps _ (by rw [hv]; simp), by rw [← hm]; exact ht.gc, fun j => ?_, fun cs hc hz c hcm => ?_⟩
    · obtain ⟨y, hy, rfl⟩ := List.mem_map.mp hx
      exact ht.ps y (by rw [hv]; simp [hy])
    · have := ht.z j
      rw [← lin_S, hm, hv, lin_app j (by simp), lin_one] at this
      exact this
    · obtain ⟨f, hf⟩ := fun_of (cs := cs ++ [0]) ht.nd (by rw [hv]; simp [hc])
      obtain ⟨q, w, hw, hq⟩ := ht.ker f fun j => by
        rw [← lin_S, ← hf, hv, lin_app j hc, lin_one, hz j]; simp
      rw [hv, List.map_append] at hf
      obtain ⟨hf1, hf2⟩ := List.append_inj' hf rfl
      have hl0 : f (vs.getD i []) = 0 := by simpa using hf2.symm
      have e := hq (vs.getD i []) (by rw [hv]; simp)
      rw [hl0, Int.mul_zero] at e
      have hq0 : q = 0 := by
        rcases Int.mul_eq_zero.mp e.symm with z | z
        · exact z
        · have := ht.ps (vs.getD i []) (by rw [hv]; simp); omega
      rw [hf1] at hcm
      obtain ⟨y, hy, rfl⟩ := List.mem_map.mp hcm
      have e2 := hq y (by rw [hv]; simp [hy])
      rw [hq0, Int.zero_mul] at e2
      rcases Int.mul_eq_zero.mp e2 with z | z
      · omega
      · exact z
end CSk21

namespace CSk21
open PySem CS
/-- what a source of drawn numbers holds: at most n draws were made behind its first part -/
def Src (n : Nat) (ds : List D) : Prop := ∃ s0 s1 s2 : Int, ds = [.int s0, .int s1, .int s2] ∧ 0 ≤ s0 ∧ 0 ≤ s1 ∧ s1 < 2 ^ 200 ∧ 0 ≤ s2 ∧ s2 ≤ n
theorem Src.mono {n k : Nat} {ds : List D} (h : Src n ds) (e : n ≤ k) : Src k ds := by
  obtain ⟨a, b, c, h1, h2, h3, h4, h5, h6⟩ := h
  exact ⟨a, b, c, h1, h2, h3, h4, h5, by omega⟩
theorem draw {n : Nat} {ds : List D} {c : Int} (h : Src n ds) (hn : n < 2 ^ 40) (hc : 0 < c) (hc2 : c < 2 ^ 190) : ∃ r ds', g_law_draw ds [.int c] = some (.int r, ds') ∧ 0 ≤ r ∧ r < c ∧ Src (n + 1) ds' := by
  obtain ⟨s0, s1, s2, rfl, h0, h1, h2, h3, h4⟩ := h
  have ec : c.natAbs < 2 ^ 200 := by omega
  by_cases hs : 0 < s0
  · refine ⟨s0 % c, [.int (s0 / c), .int s1, .int s2], ?_, Int.emod_nonneg _ (by omega), Int.emod_lt_of_pos _ hc, s0 / c, s1, s2, rfl, Int.ediv_nonneg h0 (by omega), h1, h2, h3, by omega⟩
    rw [g_law_draw_eq]
    show (F_law_draw [some (.list [.int s0, .int s1, .int s2]), some (.int c), none, none]).bind resM = _
    unfold F_law_draw
    simp only [fSeq, fNext, sIf, sIfP, sAsg, sAsgP, sDrop, sPar, sPar3, sAug, sRet, sRetP, sRetO, sForget, sAsgF, sMut, sSetI, setAt, fIxO, fIxP, dAt, fFlat, gCallM, gPop, f2, g2, f1, fNil, fCons, gNilE, gConsE, fCall, gCall, fLst, fTup, gLstE, gTupE, fTest, gTest, fAnd, fOr, fNot, gAnd, gOr, gNot, fIf, gIf, fAndV, fOrV, fNotV, fChain, fRev, tgTup, tgCons, tgNil, up, asB, asL, asT, asI, asS, enumA, zipA, zipB, setE, Option.bind_some, Option.bind_none, Option.map_some, Option.map_none, owns, List.mapM_cons, List.mapM_nil, List.set_cons_zero, List.set_cons_succ, gv_0, gv_1, gv_2, gv_3, gv_4, gv_5, gv_6, gv_7, gv_8, gv_9, gv_10, gv_11, gv_12, gv_13, ev_pure, ev_bind, wipeE, dI0, resP, resM, resF, dCmp, dGt, dLt, dLe, dGe, ix30, ix31, ix32, List.length_cons, List.length_nil, Nat.zero_add, Nat.reduceAdd, List.set_cons_zero, Bool.true_eq_false, Bool.false_eq_true, if_true, if_false, ite_true, ite_false, decide_true, decide_false, dInt, sz0, sz1, sz2, sz3, sz4, sz5, sz6, sz7, atI_0, atI_1, atI_2, dMod_pos hc, dFdiv_pos hc ec, decide_eq_true hs]
  · have k1 : (s1 + 900007 * (s2 + 1)).natAbs < 2 ^ 1000 := by omega
    have m1 : dMul (.int 900007) (.int (s2 + 1)) = some (.int (900007 * (s2 + 1))) := dMul_ok (mulOk_l (by decide))
    have p39 : dPow (.int 10) (.int 39) = some (.int (10 ^ 39)) := dPowL (by decide) rfl
    have p40 : dPow (.int 10) (.int 40) = some (.int (10 ^ 40)) := dPowL (by decide) rfl
    have q1 : (0 : Int) < 10 ^ 39 + 3 := by decide
    have q2 : (0 : Int) < 10 ^ 40 + 121 := by decide
    generalize hx : (s1 + 900007 * (s2 + 1)) ^ 3 % (10 ^ 39 + 3) = x
    have x1 : 0 ≤ x := hx ▸ Int.emod_nonneg _ (by omega)
    have x2 : x < 10 ^ 39 + 3 := hx ▸ Int.emod_lt_of_pos _ q1
    have m2 : dMul (.int x) (.int (s2 + 1)) = some (.int (x * (s2 + 1))) := dMul_ok (mulOk_r (by omega))
    have k2 : (x * (s2 + 1) + 60013).natAbs < 2 ^ 1000 := by
      have : x * (s2 + 1) ≤ (10 ^ 39 + 3) * (2 ^ 41) := Int.mul_le_mul (by omega) (by omega) (by omega) (by omega)
      have : 0 ≤ x * (s2 + 1) := Int.mul_nonneg x1 (by omega)
      omega
    generalize hy : (x * (s2 + 1) + 60013) ^ 3 % (10 ^ 40 + 121) = y
    refine ⟨y / 104729 % c, [.int s0, .int s1, .int (s2 + 1)], ?_, Int.emod_nonneg _ (by omega), Int.emod_lt_of_pos _ hc, s0, s1, s2 + 1, rfl, h0, h1, h2, by omega, by omega⟩
    rw [g_law_draw_eq]
    show (F_law_draw [some (.list [.int s0, .int s1, .int s2]), some (.int c), none, none]).bind resM = _
    unfold F_law_draw
    simp only [fSeq, fNext, sIf, sIfP, sAsg, sAsgP, sDrop, sPar, sPar3, sAug, sRet, sRetP, sRetO, sForget, sAsgF, sMut, sSetI, setAt, fIxO, fIxP, dAt, fFlat, gCallM, gPop, f2, g2, f1, fNil, fCons, gNilE, gConsE, fCall, gCall, fLst, fTup, gLstE, gTupE, fTest, gTest, fAnd, fOr, fNot, gAnd, gOr, gNot, fIf, gIf, fAndV, fOrV, fNotV, fChain, fRev, tgTup, tgCons, tgNil, up, asB, asL, asT, asI, asS, enumA, zipA, zipB, setE, Option.bind_some, Option.bind_none, Option.map_some, Option.map_none, owns, List.mapM_cons, List.mapM_nil, List.set_cons_zero, List.set_cons_succ, gv_0, gv_1, gv_2, gv_3, gv_4, gv_5, gv_6, gv_7, gv_8, gv_9, gv_10, gv_11, gv_12, gv_13, ev_pure, ev_bind, wipeE, dI0, resP, resM, resF, dCmp, dGt, dLt, dLe, dGe, ix30, ix31, ix32, List.length_cons, List.length_nil, Nat.zero_add, Nat.reduceAdd, List.set_cons_zero, Bool.true_eq_false, Bool.false_eq_true, if_true, if_false, ite_true, ite_false, decide_true, decide_false, dInt, sz0, sz1, sz2, sz3, sz4, sz5, sz6, sz7, atI_0, atI_1, atI_2, dMod_pos hc, dFdiv_pos (show (0 : Int) < 104729 by decide) (by decide), decide_eq_false hs, dAdd_i, m1, m2, dPow3 k1, dPow3 k2, p39, p40, dMod_pos q1, dMod_pos q2, hx, hy]
theorem source {z k : Int} (hk : 0 ≤ k) (hk2 : k ≤ 63) : ∃ ds, g_law_source [.int z, .int k] = some (.list ds) ∧ Src 0 ds := by
  have q1 : (0 : Int) < 10 ^ 44 + 31 := by decide
  have p18 : dPow (.int 10) (.int 18) = some (.int (10 ^ 18)) := dPowL (by decide) rfl
  have p44 : dPow (.int 10) (.int 44) = some (.int (10 ^ 44)) := dPowL (by decide) rfl
  generalize hx : (if z < 0 then -z else z) % (10 ^ 44 + 31) = x
  have x1 : 0 ≤ x := hx ▸ Int.emod_nonneg _ (by omega)
  have x2 : x < 10 ^ 44 + 31 := hx ▸ Int.emod_lt_of_pos _ q1
  have m1 : dMul (.int x) (.int 97) = some (.int (x * 97)) := dMul_ok (mulOk_r (by decide))
  have m2 : dMul (.int 2) (.int k) = some (.int (2 * k)) := dMul_ok (mulOk_l (by decide))
  have hb : ∃ b : Int, 0 ≤ b ∧ b ≤ 1 ∧ (if decide (z < 0) = true then (1 : Int) else 0) = b := ⟨_, by split <;> omega, by split <;> omega, rfl⟩
  obtain ⟨b, b1, b2, hb⟩ := hb
  have hm : ∃ s : Int, 0 ≤ s ∧ (if (if z < 0 then -z else z) - 10 ^ 18 > 0 then (if z < 0 then -z else z) - 10 ^ 18 else 0) = s := ⟨_, by split <;> omega, rfl⟩
  obtain ⟨s, s1, hm⟩ := hm
  refine ⟨[.int s, .int (x * 97 + 2 * k + b), .int 0], ?_, s, x * 97 + 2 * k + b, 0, rfl, s1, by omega, by omega, by omega, by omega⟩
  rw [g_law_source_eq]
  show (F_law_source [some (.int z), some (.int k), none]).bind resF = _
  unfold F_law_source
  simp only [fSeq, fNext, sIf, sIfP, sAsg, sAsgP, sDrop, sPar, sPar3, sAug, sRet, sRetP, sRetO, sForget, sAsgF, sMut, sSetI, setAt, fIxO, fIxP, dAt, fFlat, gCallM, gPop, f2, g2, f1, fNil, fCons, gNilE, gConsE, fCall, gCall, fLst, fTup, gLstE, gTupE, fTest, gTest, fAnd, fOr, fNot, gAnd, gOr, gNot, fIf, gIf, fAndV, fOrV, fNotV, fChain, fRev, tgTup, tgCons, tgNil, up, asB, asL, asT, asI, asS, enumA, zipA, zipB, setE, Option.bind_some, Option.bind_none, Option.map_some, Option.map_none, owns, List.mapM_cons, List.mapM_nil, List.set_cons_zero, List.set_cons_succ, gv_0, gv_1, gv_2, gv_3, gv_4, gv_5, gv_6, gv_7, gv_8, gv_9, gv_10, gv_11, gv_12, gv_13, ev_pure, ev_bind, wipeE, dI0, resP, resM, resF, dCmp, dGt, dLt, dLe, dGe, ix30, ix31, ix32, List.length_cons, List.length_nil, Nat.zero_add, Nat.reduceAdd, List.set_cons_zero, Bool.true_eq_false, Bool.false_eq_true, if_true, if_false, ite_true, ite_false, decide_true, decide_false, dInt, sz0, sz1, sz2, sz3, sz4, sz5, sz6, sz7, dAbs, dMax2, p18, p44, dMod_pos q1, dAdd_i, hx, m1, m2, hm, hb]
theorem once_len (ls : List (List Int)) : (ls.foldr (fun x r => if x ∈ r then r else x :: r) []).length ≤ ls.length := by
  induction ls with
  | nil => exact Nat.le_refl _
  | cons x r ih =>
    rw [List.foldr_cons]
    split
    · rw [List.length_cons]; omega
    · rw [List.length_cons, List.length_cons]; omega
theorem setL_len (ls : List (List Int)) : (setL ls).length ≤ ls.length := by
  have : (setL ls).length = _ := (sortL_perm (ls.foldr (fun x r => if x ∈ r then r else x :: r) [])).length_eq
  rw [this]
  exact once_len ls
theorem pw_as {ls : List (List Int)} (h : ls.Pairwise fun a b => lexLeI a b = true) (hn : ls.Nodup) : ls.Pairwise fun a b => lexI a b = true := by
  induction ls with
  | nil => exact .nil
  | cons x r ih =>
    obtain ⟨h1, h2⟩ := List.pairwise_cons.mp h
    obtain ⟨n1, n2⟩ := List.nodup_cons.mp hn
    refine List.pairwise_cons.mpr ⟨fun y hy => ?_, ih h2 n2⟩
    have h3 := h1 y hy
    unfold lexLeI at h3
    have h3 : lexI y x = false := by simpa using h3
    cases c : lexI x y with
    | true => rfl
    | false => exact absurd hy (lexI_eq x y c h3 ▸ n1)
theorem setL_as (ls : List (List Int)) : (setL ls).Pairwise fun a b => lexI a b = true := pw_as (setL_sorted ls) (setL_nodup ls)
theorem setL_ne {ls : List (List Int)} (h : 1 ≤ ls.length) : ∃ a r, setL ls = a :: r := by
  cases e : setL ls with
  | cons a r => exact ⟨a, r, rfl⟩
  | nil =>
    cases ls with
    | nil => simp at h
    | cons x r =>
      have := (setL_mem (x :: r) x).mpr List.mem_cons_self
      rw [e] at this; simp at this
theorem book_set {L : List (List Int)} {m : Nat} (h1 : 1 ≤ L.length) (h2 : L.length ≤ 12) (hk : ∀ n ∈ L, Kind n ∧ n.length = m) : Book (setL L) ∧ ((setL L).headD []).length = m := by
  obtain ⟨a, r, e⟩ := setL_ne h1
  have hm : ∀ n ∈ setL L, Kind n ∧ n.length = m := fun n hn => hk n ((setL_mem L n).mp hn)
  have hh : ((setL L).headD []).length = m := by
    rw [e]; exact (hm a (by rw [e]; simp)).2
  exact ⟨⟨by rw [e]; simp, Nat.le_trans (setL_len L) h2, fun n hn => (hm n hn).1, fun n hn => by rw [hh]; exact (hm n hn).2, setL_as L⟩, hh⟩
theorem sortset_is {L : List (List Int)} {m : Nat} (h1 : 1 ≤ m) (h2 : L.length ≤ 12) (h0 : 1 ≤ L.length) (hk : ∀ n ∈ L, n.length = m) : dSortSet (.list (L.map tupD)) = some (.list ((setL L).map tupD)) := by
  have ho : oneLen L := by
    cases L with
    | nil => simp at h0
    | cons a r => exact ⟨by show 1 ≤ a.length; rw [hk a (by simp)]; exact h1, fun n hn => by rw [hk n hn]; exact (hk a (by simp)).symm⟩
  unfold dSortSet
  dsimp only
  rw [asTups_map, Option.bind_some, if_pos ⟨by omega, ho⟩]
theorem Kind.sz {ns : List Int} (h : Kind ns) : ∀ x ∈ ns, x.natAbs < 2 ^ 5 := fun x hx => by have := h.it x hx; omega
theorem shBook {ls : List (List Int)} (h : Book ls) : Sh 2 700 (.list (ls.map tupD)) :=
  (Sh.listL (n := 1) (c := 5 * (5 + 4) + 3) (m := 12) (fun d hd => by
    obtain ⟨n, hn, rfl⟩ := List.mem_map.mp hd
    exact Sh.tup (h.kd n hn).sz (by decide) (h.kd n hn).hi) (by rw [List.length_map]; exact h.hi)).mono (by decide) (by decide)
theorem tupD_inj {a b : List Int} (h : tupD a = tupD b) : a = b := by
  unfold tupD at h
  injection h with h
  exact (List.map_inj_right fun x y e => by injection e).mp h
theorem asInts_tup {L : List (List Int)} (h : L ≠ []) : asInts (L.map tupD) = none := by
  cases L with
  | nil => exact absurd rfl h
  | cons a r => rfl
theorem sortT_is {L : List (List Int)} (h : oneLen L) : dSortT [.list (L.map tupD)] = some (.list ((sortL L).map tupD)) := by
  unfold dSortT
  dsimp only
  rw [asTups_map, Option.bind_some, if_pos h]
theorem lexLe_two {p q : Int × Int} (h : lexLe p q = true) : lexLeI [p.1, p.2] [q.1, q.2] = true := by
  unfold lexLe at h
  have h := of_decide_eq_true h
  unfold lexLeI
  show (!(if q.1 = p.1 then (if q.2 = p.2 then false else decide (q.2 < p.2)) else decide (q.1 < p.1))) = true
  by_cases c : q.1 = p.1
  · rw [if_pos c]
    by_cases d : q.2 = p.2
    · rw [if_pos d]; rfl
    · rw [if_neg d, decide_eq_false (by omega)]; rfl
  · rw [if_neg c, decide_eq_false (by omega)]; rfl
theorem sortAll_is {L : List (List Int)} (h : oneLen L) (h0 : L ≠ []) : dSortAll [.list (L.map tupD)] = some (.list ((sortL L).map tupD)) := by
  unfold dSortAll
  cases hp : asPairs (L.map tupD) with
  | none =>
    have e : dSorted [.list (L.map tupD)] = none := by
      unfold dSorted
      dsimp only
      rw [asInts_tup h0]
      dsimp only
      rw [hp]; rfl
    rw [e]
    exact sortT_is h
  | some ps =>
    have e : dSorted [.list (L.map tupD)] = some (.list ((sortP ps).map pairD)) := by
      unfold dSorted
      dsimp only
      rw [asInts_tup h0]
      dsimp only
      rw [hp]; rfl
    rw [e]
    have hL : L = ps.map fun p => [p.1, p.2] := by
      have h1 : L.map tupD = (ps.map fun p => [p.1, p.2]).map tupD := by rw [asPairs_some hp, List.map_map]; rfl
      exact (List.map_inj_right fun x y e => tupD_inj e).mp h1
    have hS : (sortP ps).map (fun p => [p.1, p.2]) = sortL L := by
      refine sortL_uniq ?_ (List.pairwise_map.mpr ((sortP_sorted ps).imp fun {a b} h => lexLe_two h))
      rw [hL]
      exact (sortP_perm ps).map _
    rw [← hS, List.map_map]
    rfl
theorem book_sort {L : List (List Int)} {m : Nat} (h1 : 1 ≤ L.length) (h2 : L.length ≤ 12) (hk : ∀ n ∈ L, Kind n ∧ n.length = m) (hn : L.Nodup) : Book (sortL L) := by
  have hp := sortL_perm L
  have hl := hp.length_eq
  have hm : ∀ n ∈ sortL L, Kind n ∧ n.length = m := fun n hn => hk n (hp.mem_iff.mp hn)
  cases e : sortL L with
  | nil => rw [e] at hl; simp at hl; omega
  | cons a r =>
    have hh : ((sortL L).headD []).length = m := by rw [e]; exact (hm a (by rw [e]; simp)).2
    rw [← e]
    exact ⟨by omega, by omega, fun n hn => (hm n hn).1, fun n hn => by rw [hh]; exact (hm n hn).2, pw_as (sortL_sorted L) (hp.nodup_iff.mpr hn)⟩
/-- 1 at one unknown, -1 at another one -/
def stepL (n one two : Nat) : List Int := (List.range n).map fun k : Nat => (if decide ((k : Int) = (one : Nat)) = true then (1 : Int) else 0) - (if decide ((k : Int) = (two : Nat)) = true then (1 : Int) else 0)
theorem stepL_len (n one two : Nat) : (stepL n one two).length = n := by unfold stepL; simp
theorem rngS {m : Nat} (h : m ≤ 1000) : rng1 [PyData.int (m : Int)] = some ((List.range m).map fun i : Nat => PyData.int (i : Int)) := rng1_nat (by have := sizeL; omega)
/-- zeros but for some items -/
def withL (n : Nat) (items : List (Nat × Int)) : List Int := items.foldl (fun l p => l.set p.1 p.2) (List.replicate n 0)
def itemD (p : Nat × Int) : D := .tuple [.int (p.1 : Nat), .int p.2]
theorem setAt_n {ds : List D} {k : Nat} {d : D} (h : k < ds.length) : setAt ds (k : Int) d = some (ds.set k d) := by
  unfold setAt L2.ixN
  rw [if_pos (by omega), if_pos (by omega)]
  simp
theorem setAt_i {l : List Int} {r : Nat} {v : Int} (h : r < l.length) : setAt (l.map PyData.int) (r : Int) (.int v) = some ((l.set r v).map PyData.int) := by
  rw [setAt_n (by rw [List.length_map]; exact h), List.map_set]
theorem repn {n : Nat} (h : n ≤ 12) (d : D) : dRepL (.list [d]) (.int (n : Nat)) = some (.list (List.replicate n d)) := by
  have hz := sizeL
  unfold dRepL
  simp only [List.length_cons, List.length_nil]
  rw [if_pos ⟨by omega, by omega, by omega⟩, Int.toNat_natCast]
  unfold repD
  rw [List.flatten_replicate_singleton]
theorem rep0 {n : Nat} (h : n ≤ 12) : dRepL (.list [.int 0]) (.int (n : Nat)) = some (.list ((List.replicate n (0 : Int)).map PyData.int)) := by
  rw [repn h, List.map_replicate]
theorem withL_len (n : Nat) (items : List (Nat × Int)) : (withL n items).length = n := by
  unfold withL
  suffices h : ∀ (items : List (Nat × Int)) (l : List Int), (items.foldl (fun l p => l.set p.1 p.2) l).length = l.length by rw [h]; simp
  intro items
  induction items with
  | nil => intro l; rfl
  | cons p r ih => intro l; rw [List.foldl_cons, ih, List.length_set]
theorem withL_snoc (n : Nat) (items : List (Nat × Int)) (p : Nat × Int) : withL n (items ++ [p]) = (withL n items).set p.1 p.2 := by unfold withL; rw [List.foldl_append]; rfl
theorem withitems {n : Nat} {items : List (Nat × Int)} (hn : n ≤ 12) (hi : ∀ p ∈ items, p.1 < n) : g_with_items [.int n, .list (items.map itemD)] = some (tupD (withL n items)) := by
  refine wp_get (F := F_with_items) (env := [some (.int n), some (.list (items.map itemD)), none, none, none]) (by rw [g_with_items_eq]; rfl) ?_
  unfold F_with_items
  refine wp_st [some (.int n), some (.list (items.map itemD)), some (.list ((List.replicate n (0 : Int)).map PyData.int)), none, none] (asg_rep (by simp only [fSeq, fNext, sIf, sIfP, sAsg, sAsgP, sDrop, sPar, sPar3, sAug, sRet, sRetP, sRetO, sForget, sAsgF, sMut, sSetI, setAt, fIxO, fIxP, dAt, fFlat, gCallM, gPop, f2, g2, f1, fNil, fCons, gNilE, gConsE, fCall, gCall, fLst, fTup, gLstE, gTupE, fTest, gTest, fAnd, fOr, fNot, gAnd, gOr, gNot, fIf, gIf, fAndV, fOrV, fNotV, fChain, fRev, tgTup, tgCons, tgNil, up, asB, asL, asT, asI, asS, enumA, zipA, zipB, setE, Option.bind_some, Option.bind_none, Option.map_some, Option.map_none, owns, List.mapM_cons, List.mapM_nil, List.set_cons_zero, List.set_cons_succ, gv_0, gv_1, gv_2, gv_3, gv_4, gv_5, gv_6, gv_7, gv_8, gv_9, gv_10, gv_11, gv_12, gv_13, ev_pure, ev_bind, wipeE, dI0, resP, resM, resF, dCmp, dGt, dLt, dLe, dGe, ix30, ix31, ix32, List.length_cons, List.length_nil, Nat.zero_add, Nat.reduceAdd, List.set_cons_zero, Bool.true_eq_false, Bool.false_eq_true, if_true, if_false, ite_true, ite_false, decide_true, decide_false, dInt, sz0, sz1, sz2, sz3, sz4, sz5, sz6, sz7]) (by simp only [fSeq, fNext, sIf, sIfP, sAsg, sAsgP, sDrop, sPar, sPar3, sAug, sRet, sRetP, sRetO, sForget, sAsgF, sMut, sSetI, setAt, fIxO, fIxP, dAt, fFlat, gCallM, gPop, f2, g2, f1, fNil, fCons, gNilE, gConsE, fCall, gCall, fLst, fTup, gLstE, gTupE, fTest, gTest, fAnd, fOr, fNot, gAnd, gOr, gNot, fIf, gIf, fAndV, fOrV, fNotV, fChain, fRev, tgTup, tgCons, tgNil, up, asB, asL, asT, asI, asS, enumA, zipA, zipB, setE, Option.bind_some, Option.bind_none, Option.map_some, Option.map_none, owns, List.mapM_cons, List.mapM_nil, List.set_cons_zero, List.set_cons_succ, gv_0, gv_1, gv_2, gv_3, gv_4, gv_5, gv_6, gv_7, gv_8, gv_9, gv_10, gv_11, gv_12, gv_13, ev_pure, ev_bind, wipeE, dI0, resP, resM, resF, dCmp, dGt, dLt, dLe, dGe, ix30, ix31, ix32, List.length_cons, List.length_nil, Nat.zero_add, Nat.reduceAdd, List.set_cons_zero, Bool.true_eq_false, Bool.false_eq_true, if_true, if_false, ite_true, ite_false, decide_true, decide_false, dInt, sz0, sz1, sz2, sz3, sz4, sz5, sz6, sz7]) (rep0 hn) (by simp only [List.length_cons, List.length_nil]; decide) rfl) ?_
  refine wp_seq (wp_for itemD items (fun p e => e = [some (.int n), some (.list (items.map itemD)), some (.list ((withL n p).map PyData.int)), none, none]) (env1 := [some (.int n), some (.list (items.map itemD)), some (.list ((List.replicate n (0 : Int)).map PyData.int)), none, none]) (by simp only [fSeq, fNext, sIf, sIfP, sAsg, sAsgP, sDrop, sPar, sPar3, sAug, sRet, sRetP, sRetO, sForget, sAsgF, sMut, sSetI, setAt, fIxO, fIxP, dAt, fFlat, gCallM, gPop, f2, g2, f1, fNil, fCons, gNilE, gConsE, fCall, gCall, fLst, fTup, gLstE, gTupE, fTest, gTest, fAnd, fOr, fNot, gAnd, gOr, gNot, fIf, gIf, fAndV, fOrV, fNotV, fChain, fRev, tgTup, tgCons, tgNil, up, asB, asL, asT, asI, asS, enumA, zipA, zipB, setE, Option.bind_some, Option.bind_none, Option.map_some, Option.map_none, owns, List.mapM_cons, List.mapM_nil, List.set_cons_zero, List.set_cons_succ, gv_0, gv_1, gv_2, gv_3, gv_4, gv_5, gv_6, gv_7, gv_8, gv_9, gv_10, gv_11, gv_12, gv_13, ev_pure, ev_bind, wipeE, dI0, resP, resM, resF, dCmp, dGt, dLt, dLe, dGe, ix30, ix31, ix32, List.length_cons, List.length_nil, Nat.zero_add, Nat.reduceAdd, List.set_cons_zero, Bool.true_eq_false, Bool.false_eq_true, if_true, if_false, ite_true, ite_false, decide_true, decide_false, dInt, sz0, sz1, sz2, sz3, sz4, sz5, sz6, sz7]) rfl ?_ ?_)
  · rintro p x q e hx rfl
    refine ⟨[some (.int n), some (.list (items.map itemD)), some (.list ((withL n p).map PyData.int)), some (.int (x.1 : Nat)), some (.int x.2)], by simp only [fSeq, fNext, sIf, sIfP, sAsg, sAsgP, sDrop, sPar, sPar3, sAug, sRet, sRetP, sRetO, sForget, sAsgF, sMut, sSetI, setAt, fIxO, fIxP, dAt, fFlat, gCallM, gPop, f2, g2, f1, fNil, fCons, gNilE, gConsE, fCall, gCall, fLst, fTup, gLstE, gTupE, fTest, gTest, fAnd, fOr, fNot, gAnd, gOr, gNot, fIf, gIf, fAndV, fOrV, fNotV, fChain, fRev, tgTup, tgCons, tgNil, up, asB, asL, asT, asI, asS, enumA, zipA, zipB, setE, Option.bind_some, Option.bind_none, Option.map_some, Option.map_none, owns, List.mapM_cons, List.mapM_nil, List.set_cons_zero, List.set_cons_succ, gv_0, gv_1, gv_2, gv_3, gv_4, gv_5, gv_6, gv_7, gv_8, gv_9, gv_10, gv_11, gv_12, gv_13, ev_pure, ev_bind, wipeE, dI0, resP, resM, resF, dCmp, dGt, dLt, dLe, dGe, ix30, ix31, ix32, List.length_cons, List.length_nil, Nat.zero_add, Nat.reduceAdd, List.set_cons_zero, Bool.true_eq_false, Bool.false_eq_true, if_true, if_false, ite_true, ite_false, decide_true, decide_false, dInt, sz0, sz1, sz2, sz3, sz4, sz5, sz6, sz7, itemD], ?_⟩
    have hlt : x.1 < (withL n p).length := by rw [withL_len]; exact hi x (by rw [hx]; simp)
    have hs := setAt_i (v := x.2) hlt
    unfold setAt at hs
    unfold B1_with_items
    refine wp_forget (Wp.of (a := .nx [some (.int n), some (.list (items.map itemD)), some (.list ((withL n (p ++ [x])).map PyData.int)), some (.int (x.1 : Nat)), some (.int x.2)]) (by simp only [fSeq, fNext, sIf, sIfP, sAsg, sAsgP, sDrop, sPar, sPar3, sAug, sRet, sRetP, sRetO, sForget, sAsgF, sMut, sSetI, setAt, fIxO, fIxP, dAt, fFlat, gCallM, gPop, f2, g2, f1, fNil, fCons, gNilE, gConsE, fCall, gCall, fLst, fTup, gLstE, gTupE, fTest, gTest, fAnd, fOr, fNot, gAnd, gOr, gNot, fIf, gIf, fAndV, fOrV, fNotV, fChain, fRev, tgTup, tgCons, tgNil, up, asB, asL, asT, asI, asS, enumA, zipA, zipB, setE, Option.bind_some, Option.bind_none, Option.map_some, Option.map_none, owns, List.mapM_cons, List.mapM_nil, List.set_cons_zero, List.set_cons_succ, gv_0, gv_1, gv_2, gv_3, gv_4, gv_5, gv_6, gv_7, gv_8, gv_9, gv_10, gv_11, gv_12, gv_13, ev_pure, ev_bind, wipeE, dI0, resP, resM, resF, dCmp, dGt, dLt, dLe, dGe, ix30, ix31, ix32, List.length_cons, List.length_nil, Nat.zero_add, Nat.reduceAdd, List.set_cons_zero, Bool.true_eq_false, Bool.false_eq_true, if_true, if_false, ite_true, ite_false, decide_true, decide_false, dInt, sz0, sz1, sz2, sz3, sz4, sz5, sz6, sz7, hs, withL_snoc]) ?_)
    rfl
  · rintro e' rfl
    exact Wp.of (a := .rt (tupD (withL n items)) []) (by simp only [fSeq, fNext, sIf, sIfP, sAsg, sAsgP, sDrop, sPar, sPar3, sAug, sRet, sRetP, sRetO, sForget, sAsgF, sMut, sSetI, setAt, fIxO, fIxP, dAt, fFlat, gCallM, gPop, f2, g2, f1, fNil, fCons, gNilE, gConsE, fCall, gCall, fLst, fTup, gLstE, gTupE, fTest, gTest, fAnd, fOr, fNot, gAnd, gOr, gNot, fIf, gIf, fAndV, fOrV, fNotV, fChain, fRev, tgTup, tgCons, tgNil, up, asB, asL, asT, asI, asS, enumA, zipA, zipB, setE, Option.bind_some, Option.bind_none, Option.map_some, Option.map_none, owns, List.mapM_cons, List.mapM_nil, List.set_cons_zero, List.set_cons_succ, gv_0, gv_1, gv_2, gv_3, gv_4, gv_5, gv_6, gv_7, gv_8, gv_9, gv_10, gv_11, gv_12, gv_13, ev_pure, ev_bind, wipeE, dI0, resP, resM, resF, dCmp, dGt, dLt, dLe, dGe, ix30, ix31, ix32, List.length_cons, List.length_nil, Nat.zero_add, Nat.reduceAdd, List.set_cons_zero, Bool.true_eq_false, Bool.false_eq_true, if_true, if_false, ite_true, ite_false, decide_true, decide_false, dInt, sz0, sz1, sz2, sz3, sz4, sz5, sz6, sz7]; rfl) rfl
theorem get_rep {n k : Nat} (h : k < n) : (List.replicate n (0 : Int))[k]? = some 0 := by rw [List.getElem?_replicate, if_pos h]
theorem stepL_get {n one two k : Nat} (h : k < n) : (stepL n one two)[k]? = some ((if k = one then (1 : Int) else 0) - (if k = two then (1 : Int) else 0)) := by
  unfold stepL
  rw [List.getElem?_map, List.getElem?_range h]
  simp only [Option.map_some, decide_eq_true_eq, Int.ofNat_inj]
theorem with_up {n i : Nat} (h : i < n) : withL n [(i, 1)] = stepL n i n := by
  refine List.ext_getElem? fun k => ?_
  rcases Nat.lt_or_ge k n with hk | hk
  · rw [stepL_get hk, if_neg (show ¬ k = n by omega)]
    show ((List.replicate n (0 : Int)).set i 1)[k]? = _
    by_cases c : k = i
    · subst c
      rw [List.getElem?_set_self (by simpa using h), if_pos rfl]; rfl
    · rw [List.getElem?_set_ne (fun e => c e.symm), get_rep hk, if_neg c]; rfl
  · rw [List.getElem?_eq_none (by rw [withL_len]; exact hk), List.getElem?_eq_none (by rw [stepL_len]; exact hk)]
theorem with_down {n i : Nat} (h : i < n) : withL n [(i, -1)] = stepL n n i := by
  refine List.ext_getElem? fun k => ?_
  rcases Nat.lt_or_ge k n with hk | hk
  · rw [stepL_get hk, if_neg (show ¬ k = n by omega)]
    show ((List.replicate n (0 : Int)).set i (-1))[k]? = _
    by_cases c : k = i
    · subst c
      rw [List.getElem?_set_self (by simpa using h), if_pos rfl]; rfl
    · rw [List.getElem?_set_ne (fun e => c e.symm), get_rep hk, if_neg c]; rfl
  · rw [List.getElem?_eq_none (by rw [withL_len]; exact hk), List.getElem?_eq_none (by rw [stepL_len]; exact hk)]
theorem with_two {n i j : Nat} (h : i < n) (h2 : j < n) (hij : i ≠ j) : withL n [(i, 1), (j, -1)] = stepL n i j := by
  refine List.ext_getElem? fun k => ?_
  rcases Nat.lt_or_ge k n with hk | hk
  · rw [stepL_get hk]
    show (((List.replicate n (0 : Int)).set i 1).set j (-1))[k]? = _
    by_cases d : k = j
    · subst d
      rw [List.getElem?_set_self (by simpa using h2), if_pos rfl, if_neg (fun e => hij e.symm)]; rfl
    · rw [List.getElem?_set_ne (fun e => d e.symm), if_neg d]
      by_cases c : k = i
      · subst c
        rw [List.getElem?_set_self (by simpa using h), if_pos rfl]; rfl
      · rw [List.getElem?_set_ne (fun e => c e.symm), get_rep hk, if_neg c]; rfl
  · rw [List.getElem?_eq_none (by rw [withL_len]; exact hk), List.getElem?_eq_none (by rw [stepL_len]; exact hk)]
theorem neednumber {v lo hi : Int} (h1 : lo ≤ v) (h2 : v ≤ hi) : g_need_number [.int v, .int lo, .int hi] = some .none := by
  refine wp_get (F := F_need_number) (env := [some (.int v), some (.int lo), some (.int hi)]) (by rw [g_need_number_eq]; rfl) ?_
  unfold F_need_number
  exact wp_ifP false (by simp only [fSeq, fNext, sIf, sIfP, sAsg, sAsgP, sDrop, sPar, sPar3, sAug, sRet, sRetP, sRetO, sForget, sAsgF, sMut, sSetI, setAt, fIxO, fIxP, dAt, fFlat, gCallM, gPop, f2, g2, f1, fNil, fCons, gNilE, gConsE, fCall, gCall, fLst, fTup, gLstE, gTupE, fTest, gTest, fAnd, fOr, fNot, gAnd, gOr, gNot, fIf, gIf, fAndV, fOrV, fNotV, fChain, fRev, tgTup, tgCons, tgNil, up, asB, asL, asT, asI, asS, enumA, zipA, zipB, setE, Option.bind_some, Option.bind_none, Option.map_some, Option.map_none, owns, List.mapM_cons, List.mapM_nil, List.set_cons_zero, List.set_cons_succ, gv_0, gv_1, gv_2, gv_3, gv_4, gv_5, gv_6, gv_7, gv_8, gv_9, gv_10, gv_11, gv_12, gv_13, ev_pure, ev_bind, wipeE, dI0, resP, resM, resF, dCmp, dGt, dLt, dLe, dGe, ix30, ix31, ix32, List.length_cons, List.length_nil, Nat.zero_add, Nat.reduceAdd, List.set_cons_zero, Bool.true_eq_false, Bool.false_eq_true, if_true, if_false, ite_true, ite_false, decide_true, decide_false, dInt, sz0, sz1, sz2, sz3, sz4, sz5, sz6, sz7, isint, decide_eq_false (show ¬ v < lo by omega), decide_eq_false (show ¬ hi < v by omega), dNotN_i, Bool.not_true]) nofun fun _ => Wp.of (a := .nx [some (.int v), some (.int lo), some (.int hi)]) rfl rfl
/-- all units -/
def upL (n : Nat) : List (List Int) := (List.range n).map fun i => stepL n i n
def downL (n : Nat) : List (List Int) := (List.range n).map fun i => stepL n n i
theorem fm_map {α β : Type} (l : List α) (f : α → β) (t : β → D) : (l.filterMap fun x => some (t (f x))) = (l.map f).map t := by
  rw [List.map_map, ← List.filterMap_eq_map]
  rfl
end CSk21

namespace CSk21
open PySem CS
/-! ### units and one kind more -/
def un (m i : Nat) (s : Int) : List Int := (List.range m).map fun k => if k = i then s else 0
theorem un_len (m i : Nat) (s : Int) : (un m i s).length = m := by unfold un; simp
theorem un_get {m i : Nat} (s : Int) (hi : i < m) (j : Nat) : (un m i s).getD j 0 = if j = i then s else 0 := by
  rw [List.getD_eq_getElem?_getD]
  rcases Nat.lt_or_ge j m with h | h
  · unfold un
    rw [List.getElem?_map, List.getElem?_range h]; rfl
  · rw [List.getElem?_eq_none (by rw [un_len]; exact h), if_neg (by omega)]; rfl
theorem ext_get {a b : List Int} (hl : a.length = b.length) (h : ∀ i, a.getD i 0 = b.getD i 0) : a = b := by
  refine List.ext_getElem hl fun i h1 h2 => ?_
  have := h i
  rw [List.getD_eq_getElem?_getD, List.getD_eq_getElem?_getD, List.getElem?_eq_getElem h1, List.getElem?_eq_getElem h2] at this
  exact this
theorem up_un {m i : Nat} (hi : i < m) : stepL m i m = un m i 1 := by
  unfold stepL un
  refine List.map_congr_left fun k hk => ?_
  have hk := List.mem_range.mp hk
  by_cases c : k = i
  · subst c
    simp; omega
  · have : ¬ (k : Int) = (i : Int) := by omega
    have h2 : ¬ (k : Int) = (m : Int) := by omega
    simp [c, this, h2]
theorem down_un {m i : Nat} (hi : i < m) : stepL m m i = un m i (-1) := by
  unfold stepL un
  refine List.map_congr_left fun k hk => ?_
  have hk := List.mem_range.mp hk
  by_cases c : k = i
  · subst c
    have h2 : ¬ (k : Int) = (m : Int) := by omega
    simp [h2]
  · have : ¬ (k : Int) = (i : Int) := by omega
    have h2 : ¬ (k : Int) = (m : Int) := by omega
    simp [c, this, h2]
theorem box_mem {m : Nat} {x : List Int} : x ∈ upL m ++ downL m ↔ ∃ i s, i < m ∧ (s = 1 ∨ s = -1) ∧ x = un m i s := by
  rw [List.mem_append]
  constructor
  · rintro (h | h)
    · obtain ⟨i, hi, rfl⟩ := List.mem_map.mp h
      have hi := List.mem_range.mp hi
      exact ⟨i, 1, hi, .inl rfl, up_un hi⟩
    · obtain ⟨i, hi, rfl⟩ := List.mem_map.mp h
      have hi := List.mem_range.mp hi
      exact ⟨i, -1, hi, .inr rfl, down_un hi⟩
  · rintro ⟨i, s, hi, rfl | rfl, rfl⟩
    · exact .inl (List.mem_map.mpr ⟨i, List.mem_range.mpr hi, up_un hi⟩)
    · exact .inr (List.mem_map.mpr ⟨i, List.mem_range.mpr hi, down_un hi⟩)
def supp (v : List Int) : List Nat := (List.range v.length).filter fun i => decide (v.getD i 0 ≠ 0)
theorem supp_len (v : List Int) : (supp v).length = (v.filter fun x => decide (x ≠ 0)).length := by
  have e : v = (List.range v.length).map fun i => v.getD i 0 := by
    refine List.ext_getElem (by simp) fun i h1 h2 => ?_
    rw [List.getElem_map, List.getElem_range, List.getD_eq_getElem?_getD, List.getElem?_eq_getElem h1]; rfl
  unfold supp
  conv => rhs; rw [e, List.filter_map]
  rw [List.length_map]
  rfl
theorem mem_supp {v : List Int} {i : Nat} : i ∈ supp v ↔ v.getD i 0 ≠ 0 := by
  unfold supp
  rw [List.mem_filter, List.mem_range, decide_eq_true_eq]
  refine ⟨fun h => h.2, fun h => ⟨Classical.byContradiction fun hn => h ?_, h⟩⟩
  rw [List.getD_eq_getElem?_getD, List.getElem?_eq_none (by omega)]; rfl
theorem supp_nd (v : List Int) : (supp v).Nodup := List.nodup_range.filter _
def ax (x : List Int) : Nat := x.findIdx (· ≠ 0)
theorem ax_un {m i : Nat} {s : Int} (hi : i < m) (hs : s ≠ 0) : ax (un m i s) = i := by
  have h1 := find_spec (l := un m i s) ⟨s, by
    have := getD_mem (l := un m i s) (i := i) (by rw [un_len]; exact hi)
    rwa [un_get s hi i, if_pos rfl] at this, hs⟩
  have h2 := h1.2
  rw [un_get s hi] at h2
  refine Classical.byContradiction fun hn => h2 ?_
  unfold ax at hn
  rw [if_neg hn]
theorem nodup_sub : ∀ {l m : List Nat}, l.Nodup → (∀ x ∈ l, x ∈ m) → l.length ≤ m.length
  | [], m, _, _ => Nat.zero_le _
  | a :: l, m, hn, h => by
    obtain ⟨n1, n2⟩ := List.nodup_cons.mp hn
    have ha := h a (by simp)
    have := nodup_sub (l := l) (m := m.erase a) n2 fun x hx => by
      have hne : x ≠ a := fun e => n1 (e ▸ hx)
      exact (List.mem_erase_of_ne hne).mpr (h x (by simp [hx]))
    rw [List.length_erase, if_pos ha] at this
    have := List.length_pos_of_mem ha
    rw [List.length_cons]
    omega
theorem un_ne {m i : Nat} {s : Int} (hi : i < m) (hs : s = 1 ∨ s = -1) : un m i s ≠ un m i (-s) := fun e => by
  have := congrArg (fun x : List Int => x.getD i 0) e
  simp only [un_get s hi, un_get (-s) hi, if_true] at this
  omega
theorem tie_pair {m i : Nat} {s : Int} {V : List (List Int)} {wf : List Int → Int} (ht : Tie V wf) (hi : i < m) (hs : s = 1 ∨ s = -1) (hx : un m i s ∈ V) (hy : un m i (-s) ∈ V) : V.length = 2 := by
  have hne := un_ne hi hs
  have hy2 : un m i (-s) ∈ V.erase (un m i s) := (List.mem_erase_of_ne (Ne.symm hne)).mpr hy
  have hp : V.Perm (un m i s :: un m i (-s) :: (V.erase (un m i s)).erase (un m i (-s))) := (List.perm_cons_erase hx).trans ((List.perm_cons_erase hy2).cons _)
  have hR : ∀ z ∈ (V.erase (un m i s)).erase (un m i (-s)), z ∈ V ∧ z ≠ un m i s ∧ z ≠ un m i (-s) := fun z hz => by
    obtain ⟨a, b⟩ := (List.Nodup.mem_erase_iff (ht.nd.erase _)).mp hz
    obtain ⟨c, d⟩ := (List.Nodup.mem_erase_iff ht.nd).mp b
    exact ⟨d, c, a⟩
  generalize (V.erase (un m i s)).erase (un m i (-s)) = R at *
  have hl := hp.length_eq
  cases R with
  | nil => simpa using hl
  | cons z R =>
    exfalso
    obtain ⟨q, w, hw, hq⟩ := ht.ker (fun x => if x = un m i s ∨ x = un m i (-s) then 1 else 0) fun j => by
      rw [S_perm hp]
      unfold S
      rw [List.map_cons, List.map_cons, List.sum_cons, List.sum_cons, sum_zero fun x hx => ?_]
      · dsimp only
        rw [if_pos (Or.inl rfl), if_pos (Or.inr rfl), un_get s hi, un_get (-s) hi]
        split <;> omega
      · obtain ⟨_, a, b⟩ := hR x hx
        dsimp only
        rw [if_neg (show ¬ (x = un m i s ∨ x = un m i (-s)) from fun e => e.elim a b), Int.zero_mul]
    obtain ⟨a, b, c⟩ := hR z (by simp)
    have e1 := hq z a
    rw [if_neg (show ¬ (z = un m i s ∨ z = un m i (-s)) from fun e => e.elim b c), Int.mul_zero] at e1
    have hq0 : q = 0 := by
      rcases Int.mul_eq_zero.mp e1.symm with y | y
      · exact y
      · have := ht.ps z a; omega
    have e2 := hq _ hx
    rw [if_pos (Or.inl rfl), hq0] at e2
    omega
theorem tie_opp {m i : Nat} {s : Int} {V : List (List Int)} {wf : List Int → Int} (ht : Tie V wf) (hi : i < m) (hs : s = 1 ∨ s = -1) (hx : un m i s ∈ V) : ∃ y ∈ V, y.getD i 0 * s < 0 := by
  have hz := ht.z i
  have hz2 : (V.map fun x => wf x * x.getD i 0 * s).sum = 0 := by
    have : ∀ l : List (List Int), (l.map fun x => wf x * x.getD i 0 * s).sum = (l.map fun x => wf x * x.getD i 0).sum * s := by
      intro l
      induction l with
      | nil => simp
      | cons x r ih => rw [List.map_cons, List.sum_cons, ih, List.map_cons, List.sum_cons, Int.add_mul]
    rw [this]
    unfold S at hz
    rw [hz, Int.zero_mul]
  obtain ⟨y, hy, h⟩ := sum_neg (f := fun x => wf x * x.getD i 0 * s) hx (by
    show 0 < wf (un m i s) * (un m i s).getD i 0 * s
    rw [un_get s hi, if_pos rfl]
    have := ht.ps _ hx
    rcases hs with rfl | rfl <;> omega) (by omega)
  refine ⟨y, hy, Classical.byContradiction fun hn => ?_⟩
  have h : wf y * y.getD i 0 * s < 0 := h
  have := Int.mul_nonneg (Int.le_of_lt (ht.ps y hy)) (show 0 ≤ y.getD i 0 * s by omega)
  rw [← Int.mul_assoc] at this
  omega
/-- at most so many -/
theorem box_up {m : Nat} {v : List Int} {V : List (List Int)} {wf : List Int → Int} (ht : Tie V wf) (hv : ∀ x ∈ V, x = v ∨ ∃ i s, i < m ∧ (s = 1 ∨ s = -1) ∧ x = un m i s) : V.length ≤ max 2 (1 + (supp v).length) := by
  by_cases hp : ∃ i s, i < m ∧ (s = 1 ∨ s = -1) ∧ un m i s ∈ V ∧ un m i (-s) ∈ V
  · obtain ⟨i, s, h1, h2, h3, h4⟩ := hp
    rw [tie_pair ht h1 h2 h3 h4]
    omega
  · have hno : ∀ i s, i < m → (s = 1 ∨ s = -1) → un m i s ∈ V → un m i (-s) ∈ V → False := fun i s a b c d => hp ⟨i, s, a, b, c, d⟩
    have hsup : ∀ i s, i < m → (s = 1 ∨ s = -1) → un m i s ∈ V → un m i s ≠ v → i ∈ supp v := fun i s hi hs hx _ => by
      obtain ⟨y, hy, hlt⟩ := tie_opp ht hi hs hx
      rcases hv y hy with rfl | ⟨i', s', hi', hs', rfl⟩
      · refine mem_supp.mpr fun e => ?_
        rw [e, Int.zero_mul] at hlt
        omega
      · rw [un_get s' hi'] at hlt
        split at hlt
        · rename_i e
          subst e
          have : s' = -s := by rcases hs with rfl | rfl <;> rcases hs' with rfl | rfl <;> omega
          subst this
          exact (hno i s hi hs hx hy).elim
        · rw [Int.zero_mul] at hlt; omega
    have hR : ∀ x ∈ V.erase v, ∃ i s, i < m ∧ (s = 1 ∨ s = -1) ∧ x = un m i s ∧ x ∈ V ∧ x ≠ v := fun x hx => by
      obtain ⟨a, b⟩ := (List.Nodup.mem_erase_iff ht.nd).mp hx
      rcases hv x b with rfl | ⟨i, s, h1, h2, h3⟩
      · exact absurd rfl a
      · exact ⟨i, s, h1, h2, h3, b, a⟩
    have hnd : ((V.erase v).map ax).Nodup := by
      refine List.pairwise_map.mpr ((ht.nd.erase v).imp_of_mem fun {a b} ha hb hab e => ?_)
      obtain ⟨i, s, h1, h2, rfl, h4, _⟩ := hR a ha
      obtain ⟨i', s', g1, g2', rfl, g4, _⟩ := hR b hb
      rw [ax_un h1 (by omega), ax_un g1 (by omega)] at e
      subst e
      by_cases c : s = s'
      · subst c; exact hab rfl
      · have : s' = -s := by omega
        subst this
        exact hno i s h1 h2 h4 g4
    have := nodup_sub hnd (m := supp v) fun j hj => by
      obtain ⟨x, hx, rfl⟩ := List.mem_map.mp hj
      obtain ⟨i, s, h1, h2, rfl, h4, h5⟩ := hR x hx
      rw [ax_un h1 (by omega)]
      exact hsup i s h1 h2 h4 h5
    rw [List.length_map, List.length_erase] at this
    split at this <;> omega
theorem Tie.perm {V V' : List (List Int)} {wf : List Int → Int} (ht : Tie V wf) (hp : V.Perm V') : Tie V' wf := by
  refine ⟨hp.nodup_iff.mp ht.nd, fun x hx => ht.ps x (hp.mem_iff.mpr hx), ?_, fun i => by rw [← S_perm hp]; exact ht.z i, fun c hc => ?_⟩
  · rw [← ht.gc]
    refine Nat.dvd_antisymm (dvd_gcdF fun x hx => gcdF_dvd ?_) (dvd_gcdF fun x hx => gcdF_dvd ?_)
    · exact (hp.map wf).mem_iff.mp hx
    · exact (hp.map wf).mem_iff.mpr hx
  · obtain ⟨q, w, hw, hq⟩ := ht.ker c fun i => by rw [S_perm hp]; exact hc i
    exact ⟨q, w, hw, fun x hx => hq x (hp.mem_iff.mpr hx)⟩
/-- a knot of some of the vectors -/
theorem knot_of_set {b size : Nat} {vs : List (List Int)} (hvs : ∀ v ∈ vs, v.length = size ∧ Bd b v) (h1 : 1 ≤ b) (hs : size ≤ 7) (hn : vs.Nodup) {V : List (List Int)} {wf : List Int → Int} (hV : ∀ x ∈ V, x ∈ vs) (h0 : V ≠ []) (ht : Tie V wf) : ∃ K ∈ knotsL vs, K.length = V.length := by
  have e : vecs vs ((List.range vs.length).filter fun k => decide (vs.getD k [] ∈ V)) = vs.filter fun x => decide (x ∈ V) := by
    have e0 : vs = (List.range vs.length).map fun i => vs.getD i [] := by
      refine List.ext_getElem (by simp) fun i h1 h2 => ?_
      rw [List.getElem_map, List.getElem_range, List.getD_eq_getElem?_getD, List.getElem?_eq_getElem h1]; rfl
    unfold vecs
    conv => rhs; rw [e0, List.filter_map]
    rfl
  have hp : V.Perm (vs.filter fun x => decide (x ∈ V)) := (List.perm_ext_iff_of_nodup ht.nd (hn.filter _)).mpr fun x => by
    rw [List.mem_filter, decide_eq_true_eq]
    exact ⟨fun h => ⟨hV x h, h⟩, fun h => h.2⟩
  have ht2 := ht.perm hp
  rw [← e] at ht2 hp
  have hlen := hp.length_eq
  have hk := knot_of_tie hvs h1 hs (I := (List.range vs.length).filter fun k => decide (vs.getD k [] ∈ V)) ((List.pairwise_lt_range).filter _) (fun k hk => List.mem_range.mp (List.mem_filter.mp hk).1) (fun e2 => h0 (List.eq_nil_of_length_eq_zero (by rw [hlen, e2]; rfl))) ht2
  exact ⟨_, hk, by rw [List.length_zip, List.length_map, hlen]; unfold vecs; simp⟩
theorem pair_tie {m i : Nat} (hi : i < m) : Tie [un m i 1, un m i (-1)] (fun _ => 1) := by
  have hne := un_ne (s := 1) hi (.inl rfl)
  refine ⟨by simpa using hne, fun x _ => by show (0 : Int) < 1; omega, by show gcdF [1, 1] = 1; decide, fun j => ?_, fun c hc => ?_⟩
  · show 1 * (un m i 1).getD j 0 + (1 * (un m i (-1)).getD j 0 + 0) = 0
    rw [un_get 1 hi, un_get (-1) hi]
    split <;> omega
  · have h := hc i
    have h : c (un m i 1) * (un m i 1).getD i 0 + (c (un m i (-1)) * (un m i (-1)).getD i 0 + 0) = 0 := h
    rw [un_get 1 hi, un_get (-1) hi, if_pos rfl, if_pos rfl] at h
    refine ⟨c (un m i 1), 1, by omega, fun x hx => ?_⟩
    rcases List.mem_cons.mp hx with rfl | hx
    · omega
    · rw [List.mem_singleton.mp hx]; omega
def sg (z : Int) : Int := if z < 0 then -1 else 1
theorem sg_abs (z : Int) : ((z.natAbs : Nat) : Int) * -sg z = -z := by unfold sg; split <;> omega
theorem sg_or (z : Int) : -sg z = 1 ∨ -sg z = -1 := by unfold sg; split <;> omega
/-- the great knot -/
theorem box_tie {m : Nat} {v : List Int} (hm : v.length = m) (h2 : 2 ≤ (supp v).length) : Tie (v :: (supp v).map fun i => un m i (-sg (v.getD i 0))) (fun x => if x = v then 1 else ((v.getD (ax x) 0).natAbs : Nat)) := by
  have hlt : ∀ i ∈ supp v, i < m := fun i hi => by
    unfold supp at hi
    have := List.mem_range.mp (List.mem_filter.mp hi).1
    omega
  have hnv : ∀ i ∈ supp v, un m i (-sg (v.getD i 0)) ≠ v := fun i hi e => by
    have : (supp v).length ≤ [i].length := nodup_sub (supp_nd v) fun j hj => by
      have hj := mem_supp.mp hj
      rw [← e, un_get _ (hlt i hi)] at hj
      refine Classical.byContradiction fun hn => hj ?_
      rw [if_neg (by simpa using hn)]
    simp at this
    omega
  have hax : ∀ i ∈ supp v, ax (un m i (-sg (v.getD i 0))) = i := fun i hi => ax_un (hlt i hi) (by have := sg_or (v.getD i 0); omega)
  have hsum : ∀ (c : List Int → Int) (j : Nat), S c (v :: (supp v).map fun i => un m i (-sg (v.getD i 0))) j = c v * v.getD j 0 + if j ∈ supp v then c (un m j (-sg (v.getD j 0))) * -sg (v.getD j 0) else 0 := fun c j => by
    unfold S
    rw [List.map_cons, List.sum_cons, List.map_map]
    congr 1
    split
    · rename_i hj
      rw [sum_one (supp_nd v) hj fun i hi hne => ?_]
      · show c _ * (un m j _).getD j 0 = _
        rw [un_get _ (hlt j hj), if_pos rfl]
      · show c _ * (un m i _).getD j 0 = 0
        rw [un_get _ (hlt i hi), if_neg (Ne.symm hne), Int.mul_zero]
    · rename_i hj
      refine sum_zero fun i hi => ?_
      show c _ * (un m i _).getD j 0 = 0
      rw [un_get _ (hlt i hi), if_neg (show ¬ j = i from fun e => hj (by rw [e]; exact hi)), Int.mul_zero]
  have hw : ∀ i ∈ supp v, (if un m i (-sg (v.getD i 0)) = v then (1 : Int) else ((v.getD (ax (un m i (-sg (v.getD i 0)))) 0).natAbs : Nat)) = ((v.getD i 0).natAbs : Nat) := fun i hi => by rw [if_neg (hnv i hi), hax i hi]
  refine ⟨?_, fun x hx => ?_, ?_, fun j => ?_, fun c hc => ?_⟩
  · refine List.nodup_cons.mpr ⟨fun h => ?_, List.pairwise_map.mpr ((supp_nd v).imp_of_mem fun {a b} ha hb hab e => hab ?_)⟩
    · obtain ⟨i, hi, e⟩ := List.mem_map.mp h
      exact hnv i hi e
    · have := congrArg ax e
      rwa [hax a ha, hax b hb] at this
  · show (0 : Int) < if x = v then (1 : Int) else ((v.getD (ax x) 0).natAbs : Nat)
    rcases List.mem_cons.mp hx with rfl | hx
    · rw [if_pos rfl]; omega
    · obtain ⟨i, hi, rfl⟩ := List.mem_map.mp hx
      rw [hw i hi]
      have := mem_supp.mp hi
      omega
  · refine gcdF_one (x := 1) ?_ rfl
    rw [List.map_cons, if_pos rfl]
    simp
  · rw [hsum]
    show (if v = v then (1 : Int) else _) * v.getD j 0 + (if j ∈ supp v then (if un m j (-sg (v.getD j 0)) = v then (1 : Int) else ((v.getD (ax (un m j (-sg (v.getD j 0)))) 0).natAbs : Nat)) * -sg (v.getD j 0) else 0) = 0
    rw [if_pos rfl, Int.one_mul]
    split
    · rename_i hj
      rw [hw j hj, sg_abs]; omega
    · rename_i hj
      have : v.getD j 0 = 0 := Classical.byContradiction fun h => hj (mem_supp.mpr h)
      omega
  · refine ⟨c v, 1, by omega, fun x hx => ?_⟩
    show 1 * c x = c v * if x = v then (1 : Int) else ((v.getD (ax x) 0).natAbs : Nat)
    rcases List.mem_cons.mp hx with rfl | hx
    · rw [if_pos rfl]; omega
    · obtain ⟨i, hi, rfl⟩ := List.mem_map.mp hx
      rw [hw i hi]
      have h := hc i
      rw [hsum, if_pos hi] at h
      have hs := sg_abs (v.getD i 0)
      have hso := sg_or (v.getD i 0)
      generalize v.getD i 0 = z at *
      generalize ((z.natAbs : Nat) : Int) = n at *
      generalize c (un m i (-sg z)) = t at *
      generalize c v = q at *
      rcases hso with e | e <;> rw [e] at h hs <;> grind
/-- the greatest knot of all units and a kind -/
theorem box_size_is {b m : Nat} {v : List Int} {vs : List (List Int)} (hb : 5 ≤ b) (hm : 1 ≤ m) (hm7 : m ≤ 7) (hv : v.length = m) (hvb : Bd b v) (hn : vs.Nodup) (hmem : ∀ x, x ∈ vs ↔ x ∈ upL m ++ downL m ∨ x = v) : (∀ K ∈ knotsL vs, K.length ≤ max 2 (1 + (supp v).length)) ∧ ∃ K ∈ knotsL vs, K.length = max 2 (1 + (supp v).length) := by
  have hvs : ∀ x ∈ vs, x.length = m ∧ Bd b x := fun x hx => by
    rcases (hmem x).mp hx with h | rfl
    · obtain ⟨i, s, hi, hs, rfl⟩ := box_mem.mp h
      refine ⟨un_len m i s, fun y hy => ?_⟩
      have h32 : 2 ^ 5 ≤ 2 ^ b := Nat.pow_le_pow_right (by decide) hb
      unfold un at hy
      obtain ⟨k, _, rfl⟩ := List.mem_map.mp hy
      split <;> omega
    · exact ⟨hv, hvb⟩
  refine ⟨fun K hK => ?_, ?_⟩
  · obtain ⟨is, i, ws, w, hk, h1, h2⟩ := (mem_knots hvs (by omega) hm7 K).mp hK
    obtain ⟨wf, ht, hw⟩ := tie_of hn hk h1 h2
    have := box_up (m := m) (v := v) ht fun x hx => by
      unfold vecs at hx
      obtain ⟨k, hk, rfl⟩ := List.mem_map.mp hx
      rcases (hmem _).mp (getD_vs (h2 k hk)) with h | h
      · exact .inr (box_mem.mp h)
      · exact .inl h
    rw [hk.eq, List.length_append, List.length_zip]
    have hl := hk.on.ln
    unfold vecs at this hl
    simp at this hl ⊢
    omega
  · by_cases c : 2 ≤ (supp v).length
    · obtain ⟨K, h1, h2⟩ := knot_of_set hvs (by omega) hm7 hn (V := v :: (supp v).map fun i => un m i (-sg (v.getD i 0))) (fun x hx => by
        rcases List.mem_cons.mp hx with rfl | hx
        · exact (hmem _).mpr (.inr rfl)
        · obtain ⟨i, hi, rfl⟩ := List.mem_map.mp hx
          refine (hmem _).mpr (.inl (box_mem.mpr ⟨i, _, ?_, sg_or _, rfl⟩))
          unfold supp at hi
          have := List.mem_range.mp (List.mem_filter.mp hi).1
          omega) (by simp) (box_tie hv c)
      refine ⟨K, h1, ?_⟩
      rw [h2, List.length_cons, List.length_map]
      omega
    · obtain ⟨K, h1, h2⟩ := knot_of_set hvs (by omega) hm7 hn (V := [un m 0 1, un m 0 (-1)]) (fun x hx => by
        rcases List.mem_cons.mp hx with rfl | hx
        · exact (hmem _).mpr (.inl (box_mem.mpr ⟨0, 1, by omega, .inl rfl, rfl⟩))
        · rw [List.mem_singleton.mp hx]
          exact (hmem _).mpr (.inl (box_mem.mpr ⟨0, -1, by omega, .inr rfl, rfl⟩))) (by simp) (pair_tie (by omega))
      refine ⟨K, h1, ?_⟩
      rw [h2]
      simp
      omega
end CSk21

namespace CSk21
open PySem CS
theorem lcommon (a b : Int) : g_law_common [.int a, .int b] = some (.int (Int.gcd a b : Nat)) := by
  refine wp_get (F := F_law_common) (env := [some (.int a), some (.int b)]) (by rw [g_law_common_eq]; rfl) ?_
  unfold F_law_common
  refine wp_st [some (.int (a.natAbs : Nat)), some (.int (b.natAbs : Nat))] (by simp only [fSeq, fNext, sIf, sIfP, sAsg, sAsgP, sDrop, sPar, sPar3, sAug, sRet, sRetP, sRetO, sForget, sAsgF, sMut, sSetI, setAt, fIxO, fIxP, dAt, fFlat, gCallM, gPop, f2, g2, f1, fNil, fCons, gNilE, gConsE, fCall, gCall, fLst, fTup, gLstE, gTupE, fTest, gTest, fAnd, fOr, fNot, gAnd, gOr, gNot, fIf, gIf, fAndV, fOrV, fNotV, fChain, fRev, tgTup, tgCons, tgNil, up, asB, asL, asT, asI, asS, enumA, zipA, zipB, setE, Option.bind_some, Option.bind_none, Option.map_some, Option.map_none, owns, List.mapM_cons, List.mapM_nil, List.set_cons_zero, List.set_cons_succ, gv_0, gv_1, gv_2, gv_3, gv_4, gv_5, gv_6, gv_7, gv_8, gv_9, gv_10, gv_11, gv_12, gv_13, ev_pure, ev_bind, wipeE, dI0, resP, resM, resF, dCmp, dGt, dLt, dLe, dGe, ix30, ix31, ix32, List.length_cons, List.length_nil, Nat.zero_add, Nat.reduceAdd, List.set_cons_zero, Bool.true_eq_false, Bool.false_eq_true, if_true, if_false, ite_true, ite_false, decide_true, decide_false, dInt, sz0, sz1, sz2, sz3, sz4, sz5, sz6, sz7, absN]) ?_
  refine wp_seq (wp_while (fun e => ∃ x y : Nat, e = [some (.int (x : Nat)), some (.int (y : Nat))] ∧ Nat.gcd x y = Int.gcd a b) (fun e => match e with | [_, some (.int y)] => y.toNat | _ => 0) ⟨_, _, rfl, rfl⟩ ?_)
  rintro e ⟨x, y, rfl, hg⟩
  by_cases c : 0 < (y : Int)
  · refine .inr ⟨by simp only [fSeq, fNext, sIf, sIfP, sAsg, sAsgP, sDrop, sPar, sPar3, sAug, sRet, sRetP, sRetO, sForget, sAsgF, sMut, sSetI, setAt, fIxO, fIxP, dAt, fFlat, gCallM, gPop, f2, g2, f1, fNil, fCons, gNilE, gConsE, fCall, gCall, fLst, fTup, gLstE, gTupE, fTest, gTest, fAnd, fOr, fNot, gAnd, gOr, gNot, fIf, gIf, fAndV, fOrV, fNotV, fChain, fRev, tgTup, tgCons, tgNil, up, asB, asL, asT, asI, asS, enumA, zipA, zipB, setE, Option.bind_some, Option.bind_none, Option.map_some, Option.map_none, owns, List.mapM_cons, List.mapM_nil, List.set_cons_zero, List.set_cons_succ, gv_0, gv_1, gv_2, gv_3, gv_4, gv_5, gv_6, gv_7, gv_8, gv_9, gv_10, gv_11, gv_12, gv_13, ev_pure, ev_bind, wipeE, dI0, resP, resM, resF, dCmp, dGt, dLt, dLe, dGe, ix30, ix31, ix32, List.length_cons, List.length_nil, Nat.zero_add, Nat.reduceAdd, List.set_cons_zero, Bool.true_eq_false, Bool.false_eq_true, if_true, if_false, ite_true, ite_false, decide_true, decide_false, dInt, sz0, sz1, sz2, sz3, sz4, sz5, sz6, sz7, decide_eq_true c], ?_⟩
    unfold B1_law_common
    refine Wp.of (a := .nx [some (.int (y : Nat)), some (.int ((x : Int) % (y : Int)))]) (by simp only [fSeq, fNext, sIf, sIfP, sAsg, sAsgP, sDrop, sPar, sPar3, sAug, sRet, sRetP, sRetO, sForget, sAsgF, sMut, sSetI, setAt, fIxO, fIxP, dAt, fFlat, gCallM, gPop, f2, g2, f1, fNil, fCons, gNilE, gConsE, fCall, gCall, fLst, fTup, gLstE, gTupE, fTest, gTest, fAnd, fOr, fNot, gAnd, gOr, gNot, fIf, gIf, fAndV, fOrV, fNotV, fChain, fRev, tgTup, tgCons, tgNil, up, asB, asL, asT, asI, asS, enumA, zipA, zipB, setE, Option.bind_some, Option.bind_none, Option.map_some, Option.map_none, owns, List.mapM_cons, List.mapM_nil, List.set_cons_zero, List.set_cons_succ, gv_0, gv_1, gv_2, gv_3, gv_4, gv_5, gv_6, gv_7, gv_8, gv_9, gv_10, gv_11, gv_12, gv_13, ev_pure, ev_bind, wipeE, dI0, resP, resM, resF, dCmp, dGt, dLt, dLe, dGe, ix30, ix31, ix32, List.length_cons, List.length_nil, Nat.zero_add, Nat.reduceAdd, List.set_cons_zero, Bool.true_eq_false, Bool.false_eq_true, if_true, if_false, ite_true, ite_false, decide_true, decide_false, dInt, sz0, sz1, sz2, sz3, sz4, sz5, sz6, sz7, dMod_pos c]) ?_
    refine ⟨⟨y, x % y, by rw [Int.natCast_emod], ?_⟩, ?_⟩
    · rw [← hg, Nat.gcd_comm x y, Nat.gcd_rec y x, Nat.gcd_comm]
    · show ((x : Int) % (y : Int)).toNat < (y : Int).toNat
      have := Int.emod_lt_of_pos (x : Int) c
      have := Int.emod_nonneg (x : Int) (show (y : Int) ≠ 0 by omega)
      omega
  · have hy : y = 0 := by omega
    subst hy
    refine .inl ⟨by simp only [fSeq, fNext, sIf, sIfP, sAsg, sAsgP, sDrop, sPar, sPar3, sAug, sRet, sRetP, sRetO, sForget, sAsgF, sMut, sSetI, setAt, fIxO, fIxP, dAt, fFlat, gCallM, gPop, f2, g2, f1, fNil, fCons, gNilE, gConsE, fCall, gCall, fLst, fTup, gLstE, gTupE, fTest, gTest, fAnd, fOr, fNot, gAnd, gOr, gNot, fIf, gIf, fAndV, fOrV, fNotV, fChain, fRev, tgTup, tgCons, tgNil, up, asB, asL, asT, asI, asS, enumA, zipA, zipB, setE, Option.bind_some, Option.bind_none, Option.map_some, Option.map_none, owns, List.mapM_cons, List.mapM_nil, List.set_cons_zero, List.set_cons_succ, gv_0, gv_1, gv_2, gv_3, gv_4, gv_5, gv_6, gv_7, gv_8, gv_9, gv_10, gv_11, gv_12, gv_13, ev_pure, ev_bind, wipeE, dI0, resP, resM, resF, dCmp, dGt, dLt, dLe, dGe, ix30, ix31, ix32, List.length_cons, List.length_nil, Nat.zero_add, Nat.reduceAdd, List.set_cons_zero, Bool.true_eq_false, Bool.false_eq_true, if_true, if_false, ite_true, ite_false, decide_true, decide_false, dInt, sz0, sz1, sz2, sz3, sz4, sz5, sz6, sz7, decide_eq_false c], ?_⟩
    refine Wp.of (a := .rt (.int (x : Nat)) []) (by simp only [fSeq, fNext, sIf, sIfP, sAsg, sAsgP, sDrop, sPar, sPar3, sAug, sRet, sRetP, sRetO, sForget, sAsgF, sMut, sSetI, setAt, fIxO, fIxP, dAt, fFlat, gCallM, gPop, f2, g2, f1, fNil, fCons, gNilE, gConsE, fCall, gCall, fLst, fTup, gLstE, gTupE, fTest, gTest, fAnd, fOr, fNot, gAnd, gOr, gNot, fIf, gIf, fAndV, fOrV, fNotV, fChain, fRev, tgTup, tgCons, tgNil, up, asB, asL, asT, asI, asS, enumA, zipA, zipB, setE, Option.bind_some, Option.bind_none, Option.map_some, Option.map_none, owns, List.mapM_cons, List.mapM_nil, List.set_cons_zero, List.set_cons_succ, gv_0, gv_1, gv_2, gv_3, gv_4, gv_5, gv_6, gv_7, gv_8, gv_9, gv_10, gv_11, gv_12, gv_13, ev_pure, ev_bind, wipeE, dI0, resP, resM, resF, dCmp, dGt, dLt, dLe, dGe, ix30, ix31, ix32, List.length_cons, List.length_nil, Nat.zero_add, Nat.reduceAdd, List.set_cons_zero, Bool.true_eq_false, Bool.false_eq_true, if_true, if_false, ite_true, ite_false, decide_true, decide_false, dInt, sz0, sz1, sz2, sz3, sz4, sz5, sz6, sz7]) ?_
    rw [Nat.gcd_zero_right] at hg
    rw [← hg]
    rfl
theorem lleast {l : List Int} {d : D} (hd : asS d = some (l.map PyData.int)) : g_law_least [d] = some (.int (gcdF l : Nat)) := by
  refine wp_get (F := F_law_least) (env := [some d, none, none]) (by rw [g_law_least_eq]; rfl) ?_
  unfold F_law_least
  refine wp_st [some d, some (.int 0), none] (by simp only [fSeq, fNext, sIf, sIfP, sAsg, sAsgP, sDrop, sPar, sPar3, sAug, sRet, sRetP, sRetO, sForget, sAsgF, sMut, sSetI, setAt, fIxO, fIxP, dAt, fFlat, gCallM, gPop, f2, g2, f1, fNil, fCons, gNilE, gConsE, fCall, gCall, fLst, fTup, gLstE, gTupE, fTest, gTest, fAnd, fOr, fNot, gAnd, gOr, gNot, fIf, gIf, fAndV, fOrV, fNotV, fChain, fRev, tgTup, tgCons, tgNil, up, asB, asL, asT, asI, asS, enumA, zipA, zipB, setE, Option.bind_some, Option.bind_none, Option.map_some, Option.map_none, owns, List.mapM_cons, List.mapM_nil, List.set_cons_zero, List.set_cons_succ, gv_0, gv_1, gv_2, gv_3, gv_4, gv_5, gv_6, gv_7, gv_8, gv_9, gv_10, gv_11, gv_12, gv_13, ev_pure, ev_bind, wipeE, dI0, resP, resM, resF, dCmp, dGt, dLt, dLe, dGe, ix30, ix31, ix32, List.length_cons, List.length_nil, Nat.zero_add, Nat.reduceAdd, List.set_cons_zero, Bool.true_eq_false, Bool.false_eq_true, if_true, if_false, ite_true, ite_false, decide_true, decide_false, dInt, sz0, sz1, sz2, sz3, sz4, sz5, sz6, sz7]) ?_
  refine wp_seq (wp_for PyData.int l (fun p e => e = [some d, some (.int (gcdF p : Nat)), none]) (env1 := [some d, some (.int 0), none]) (by simp only [up, gv_0, Option.bind_some, hd, Option.map_some]) rfl ?_ ?_)
  · rintro p x q e hx rfl
    refine ⟨[some d, some (.int (gcdF p : Nat)), some (.int x)], by simp only [fSeq, fNext, sIf, sIfP, sAsg, sAsgP, sDrop, sPar, sPar3, sAug, sRet, sRetP, sRetO, sForget, sAsgF, sMut, sSetI, setAt, fIxO, fIxP, dAt, fFlat, gCallM, gPop, f2, g2, f1, fNil, fCons, gNilE, gConsE, fCall, gCall, fLst, fTup, gLstE, gTupE, fTest, gTest, fAnd, fOr, fNot, gAnd, gOr, gNot, fIf, gIf, fAndV, fOrV, fNotV, fChain, fRev, tgTup, tgCons, tgNil, up, asB, asL, asT, asI, asS, enumA, zipA, zipB, setE, Option.bind_some, Option.bind_none, Option.map_some, Option.map_none, owns, List.mapM_cons, List.mapM_nil, List.set_cons_zero, List.set_cons_succ, gv_0, gv_1, gv_2, gv_3, gv_4, gv_5, gv_6, gv_7, gv_8, gv_9, gv_10, gv_11, gv_12, gv_13, ev_pure, ev_bind, wipeE, dI0, resP, resM, resF, dCmp, dGt, dLt, dLe, dGe, ix30, ix31, ix32, List.length_cons, List.length_nil, Nat.zero_add, Nat.reduceAdd, List.set_cons_zero, Bool.true_eq_false, Bool.false_eq_true, if_true, if_false, ite_true, ite_false, decide_true, decide_false, dInt, sz0, sz1, sz2, sz3, sz4, sz5, sz6, sz7], ?_⟩
    unfold B1_law_least
    refine wp_forget (Wp.of (a := .nx [some d, some (.int (gcdF (p ++ [x]) : Nat)), some (.int x)]) ?_ ?_)
    · have : gcdF (p ++ [x]) = Int.gcd (gcdF p : Nat) x := by unfold gcdF; rw [List.foldl_append]; rfl
      simp only [fSeq, fNext, sIf, sIfP, sAsg, sAsgP, sDrop, sPar, sPar3, sAug, sRet, sRetP, sRetO, sForget, sAsgF, sMut, sSetI, setAt, fIxO, fIxP, dAt, fFlat, gCallM, gPop, f2, g2, f1, fNil, fCons, gNilE, gConsE, fCall, gCall, fLst, fTup, gLstE, gTupE, fTest, gTest, fAnd, fOr, fNot, gAnd, gOr, gNot, fIf, gIf, fAndV, fOrV, fNotV, fChain, fRev, tgTup, tgCons, tgNil, up, asB, asL, asT, asI, asS, enumA, zipA, zipB, setE, Option.bind_some, Option.bind_none, Option.map_some, Option.map_none, owns, List.mapM_cons, List.mapM_nil, List.set_cons_zero, List.set_cons_succ, gv_0, gv_1, gv_2, gv_3, gv_4, gv_5, gv_6, gv_7, gv_8, gv_9, gv_10, gv_11, gv_12, gv_13, ev_pure, ev_bind, wipeE, dI0, resP, resM, resF, dCmp, dGt, dLt, dLe, dGe, ix30, ix31, ix32, List.length_cons, List.length_nil, Nat.zero_add, Nat.reduceAdd, List.set_cons_zero, Bool.true_eq_false, Bool.false_eq_true, if_true, if_false, ite_true, ite_false, decide_true, decide_false, dInt, sz0, sz1, sz2, sz3, sz4, sz5, sz6, sz7, lcommon, this]
    · rfl
  · rintro e' rfl
    exact Wp.of (a := .rt (.int (gcdF l : Nat)) []) (by simp only [fSeq, fNext, sIf, sIfP, sAsg, sAsgP, sDrop, sPar, sPar3, sAug, sRet, sRetP, sRetO, sForget, sAsgF, sMut, sSetI, setAt, fIxO, fIxP, dAt, fFlat, gCallM, gPop, f2, g2, f1, fNil, fCons, gNilE, gConsE, fCall, gCall, fLst, fTup, gLstE, gTupE, fTest, gTest, fAnd, fOr, fNot, gAnd, gOr, gNot, fIf, gIf, fAndV, fOrV, fNotV, fChain, fRev, tgTup, tgCons, tgNil, up, asB, asL, asT, asI, asS, enumA, zipA, zipB, setE, Option.bind_some, Option.bind_none, Option.map_some, Option.map_none, owns, List.mapM_cons, List.mapM_nil, List.set_cons_zero, List.set_cons_succ, gv_0, gv_1, gv_2, gv_3, gv_4, gv_5, gv_6, gv_7, gv_8, gv_9, gv_10, gv_11, gv_12, gv_13, ev_pure, ev_bind, wipeE, dI0, resP, resM, resF, dCmp, dGt, dLt, dLe, dGe, ix30, ix31, ix32, List.length_cons, List.length_nil, Nat.zero_add, Nat.reduceAdd, List.set_cons_zero, Bool.true_eq_false, Bool.false_eq_true, if_true, if_false, ite_true, ite_false, decide_true, decide_false, dInt, sz0, sz1, sz2, sz3, sz4, sz5, sz6, sz7]) rfl
/-- a drawn kind -/
def VecR (many : Nat) (w : Int) (ns : List Int) : Prop := ns.length = many ∧ (∀ x ∈ ns, (x.natAbs : Int) ≤ w) ∧ gcdF ns = 1
theorem atI_i {l : List Int} {r : Nat} (h : r < l.length) : L2.atI (l.map PyData.int) (r : Int) = some (.int l[r]) := L2.atI_nat (by rw [List.getElem?_map, List.getElem?_eq_getElem h]; rfl)
theorem pm1 {r : Int} (h : 0 ≤ r) (h2 : r < 2) : ∃ v : Int, L2.atI [PyData.int 1, PyData.int (-1)] r = some (.int v) ∧ v.natAbs = 1 := by
  have : r = 0 ∨ r = 1 := by omega
  rcases this with rfl | rfl
  · exact ⟨1, atI_0, rfl⟩
  · exact ⟨-1, atI_1, rfl⟩
theorem vec_draws {n many : Nat} {w : Int} {src : List D} (h : Src n src) (hn : n < 2 ^ 38) (hm : many ≤ 5) (hw : 1 ≤ w ∧ w ≤ 10 ^ 29) :
    ∃ (l : List Int) (src' : List D), C1_law_vector [some (.list src), some (.int many), some (.int w), none, none, none, none] = some (.list (l.map PyData.int), [some (.list src'), some (.int many), some (.int w), none, none, none, none]) ∧ l.length = many ∧ (∀ x ∈ l, (x.natAbs : Int) ≤ w) ∧ Src (n + many) src' := by
  have mw : dMul (.int 2) (.int w) = some (.int (2 * w)) := dMul_ok (mulOk_l (by decide))
  unfold C1_law_vector
  obtain ⟨ds, e', h1, zs, src', rfl, rfl, h2, h3, h4⟩ := lcG_map (m := [0]) (vs := [4]) (Fi := up (fun env => ((fCons (gv 1) fNil) env).bind rng1)) (Gt := fun d env => some (setE 4 d env)) (Ft := fun env => some (true, env))
    (Fe := g2 dSub (gCallM 0 g_law_draw (gConsE (up (f2 dAdd (f2 dMul (fun _ => some (.int 2)) (gv 2)) (fun _ => some (.int 1)))) gNilE)) (up (gv 2)))
    (env := [some (.list src), some (.int many), some (.int w), none, none, none, none]) (fun i : Nat => PyData.int (i : Int)) (List.range many)
    (fun p acc e => ∃ (zs : List Int) (src' : List D), acc = zs.map PyData.int ∧ e = [some (.list src'), some (.int many), some (.int w), none, none, none, none] ∧ (∀ z ∈ zs, (z.natAbs : Int) ≤ w) ∧ zs.length = p.length ∧ Src (n + p.length) src')
    (env1 := [some (.list src), some (.int many), some (.int w), none, none, none, none]) (by
      simp only [fSeq, fNext, sIf, sIfP, sAsg, sAsgP, sDrop, sPar, sPar3, sAug, sRet, sRetP, sRetO, sForget, sAsgF, sMut, sSetI, setAt, fIxO, fIxP, dAt, fFlat, gCallM, gPop, f2, g2, f1, fNil, fCons, gNilE, gConsE, fCall, gCall, fLst, fTup, gLstE, gTupE, fTest, gTest, fAnd, fOr, fNot, gAnd, gOr, gNot, fIf, gIf, fAndV, fOrV, fNotV, fChain, fRev, tgTup, tgCons, tgNil, up, asB, asL, asT, asI, asS, enumA, zipA, zipB, setE, Option.bind_some, Option.bind_none, Option.map_some, Option.map_none, owns, List.mapM_cons, List.mapM_nil, List.set_cons_zero, List.set_cons_succ, gv_0, gv_1, gv_2, gv_3, gv_4, gv_5, gv_6, gv_7, gv_8, gv_9, gv_10, gv_11, gv_12, gv_13, ev_pure, ev_bind, wipeE, dI0, resP, resM, resF, dCmp, dGt, dLt, dLe, dGe, ix30, ix31, ix32, List.length_cons, List.length_nil, Nat.zero_add, Nat.reduceAdd, List.set_cons_zero, Bool.true_eq_false, Bool.false_eq_true, if_true, if_false, ite_true, ite_false, decide_true, decide_false, dInt, sz0, sz1, sz2, sz3, sz4, sz5, sz6, sz7, rngS (show many ≤ 1000 by omega)]) ⟨[], src, rfl, rfl, by simp, rfl, h⟩ (by
      rintro p x q acc e hx ⟨zs, src', rfl, rfl, i1, i2, i3⟩
      have hl : p.length < many := by have := congrArg List.length hx; simp at this; omega
      obtain ⟨r, src2, d1, a1, b1, s1⟩ := draw (c := 2 * w + 1) i3 (by omega) (by omega) (by omega)
      refine ⟨some (.int (r - w)), _, ?_, zs ++ [r - w], src2, by simp, rfl, ?_, by simp [i2], by simpa [Nat.add_assoc] using s1⟩
      · unfold turnM
        simp only [fSeq, fNext, sIf, sIfP, sAsg, sAsgP, sDrop, sPar, sPar3, sAug, sRet, sRetP, sRetO, sForget, sAsgF, sMut, sSetI, setAt, fIxO, fIxP, dAt, fFlat, gCallM, gPop, f2, g2, f1, fNil, fCons, gNilE, gConsE, fCall, gCall, fLst, fTup, gLstE, gTupE, fTest, gTest, fAnd, fOr, fNot, gAnd, gOr, gNot, fIf, gIf, fAndV, fOrV, fNotV, fChain, fRev, tgTup, tgCons, tgNil, up, asB, asL, asT, asI, asS, enumA, zipA, zipB, setE, Option.bind_some, Option.bind_none, Option.map_some, Option.map_none, owns, List.mapM_cons, List.mapM_nil, List.set_cons_zero, List.set_cons_succ, gv_0, gv_1, gv_2, gv_3, gv_4, gv_5, gv_6, gv_7, gv_8, gv_9, gv_10, gv_11, gv_12, gv_13, ev_pure, ev_bind, wipeE, dI0, resP, resM, resF, dCmp, dGt, dLt, dLe, dGe, ix30, ix31, ix32, List.length_cons, List.length_nil, Nat.zero_add, Nat.reduceAdd, List.set_cons_zero, Bool.true_eq_false, Bool.false_eq_true, if_true, if_false, ite_true, ite_false, decide_true, decide_false, dInt, sz0, sz1, sz2, sz3, sz4, sz5, sz6, sz7, mw, dAdd_i, d1]
        rfl
      · intro z hz
        rcases List.mem_append.mp hz with hz | hz
        · exact i1 z hz
        · simp at hz; omega)
  exact ⟨zs, src', h1, by simpa using h3, h2, by simpa using h4⟩
theorem vector {n many : Nat} {w : Int} {src : List D} (h : Src n src) (hn : n < 2 ^ 37) (hm1 : 1 ≤ many) (hm : many ≤ 5) (hw : 1 ≤ w ∧ w ≤ 10 ^ 29) :
    ∃ (ns : List Int) (src' : List D), g_law_vector src [.int many, .int w] = some (tupD ns, src') ∧ VecR many w ns ∧ Src (n + 7) src' := by
  obtain ⟨l, s1, eC, h1, h2, h3⟩ := vec_draws h (by omega) hm hw
  have key : Wp (F_law_vector [some (.list src), some (.int many), some (.int w), none, none, none, none]) (fun o => ∃ (ns : List Int) (src' : List D), resM o = some (tupD ns, src') ∧ VecR many w ns ∧ Src (n + 7) src') := by
    have fin : ∀ (l' : List Int) (s2 : List D), l'.length = many → (∀ x ∈ l', (x.natAbs : Int) ≤ w) → gcdF l' ≠ 0 → Src (n + 7) s2 → Wp (fSeq (sAsgP (fCall g_law_least (fCons (gv 3) fNil)) (fun d env => some (setE 5 d env)))
        (sRetP [0] (fCall dTupOf (fCons C2_law_vector fNil))) [some (.list s2), some (.int many), some (.int w), some (.list (l'.map PyData.int)), none, none, none]) (fun o => ∃ (ns : List Int) (src' : List D), resM o = some (tupD ns, src') ∧ VecR many w ns ∧ Src (n + 7) src') := by
      intro l' s2 a1 a2 a3 a4
      have hg : (gcdF l' : Int) ≤ w := by
        have := gcdF_small (l := l') (m := w.toNat) fun x hx => by have := a2 x hx; omega
        omega
      have gp : (0 : Int) < (gcdF l' : Nat) := by omega
      have gb : ((gcdF l' : Nat) : Int).natAbs < 2 ^ 200 := by omega
      have e1 := lleast (l := l') (d := .list (l'.map PyData.int)) rfl
      have e2 : C2_law_vector [some (.list s2), some (.int many), some (.int w), some (.list (l'.map PyData.int)), none, some (.int (gcdF l' : Nat)), none] = some (.list ((l'.map fun x => x / ((gcdF l' : Nat) : Int)).map PyData.int)) := by
        unfold C2_law_vector
        rw [← filterMap_some_map]
        exact lcF_map PyData.int l' (fun x => some (.int (x / ((gcdF l' : Nat) : Int)))) rfl (fun x _ => by simp only [fSeq, fNext, sIf, sIfP, sAsg, sAsgP, sDrop, sPar, sPar3, sAug, sRet, sRetP, sRetO, sForget, sAsgF, sMut, sSetI, setAt, fIxO, fIxP, dAt, fFlat, gCallM, gPop, f2, g2, f1, fNil, fCons, gNilE, gConsE, fCall, gCall, fLst, fTup, gLstE, gTupE, fTest, gTest, fAnd, fOr, fNot, gAnd, gOr, gNot, fIf, gIf, fAndV, fOrV, fNotV, fChain, fRev, tgTup, tgCons, tgNil, up, asB, asL, asT, asI, asS, enumA, zipA, zipB, setE, Option.bind_some, Option.bind_none, Option.map_some, Option.map_none, owns, List.mapM_cons, List.mapM_nil, List.set_cons_zero, List.set_cons_succ, gv_0, gv_1, gv_2, gv_3, gv_4, gv_5, gv_6, gv_7, gv_8, gv_9, gv_10, gv_11, gv_12, gv_13, ev_pure, ev_bind, wipeE, dI0, resP, resM, resF, dCmp, dGt, dLt, dLe, dGe, ix30, ix31, ix32, List.length_cons, List.length_nil, Nat.zero_add, Nat.reduceAdd, List.set_cons_zero, Bool.true_eq_false, Bool.false_eq_true, if_true, if_false, ite_true, ite_false, decide_true, decide_false, dInt, sz0, sz1, sz2, sz3, sz4, sz5, sz6, sz7, dFdiv_pos gp gb])
      refine wp_st [some (.list s2), some (.int many), some (.int w), some (.list (l'.map PyData.int)), none, some (.int (gcdF l' : Nat)), none] (by simp only [fSeq, fNext, sIf, sIfP, sAsg, sAsgP, sDrop, sPar, sPar3, sAug, sRet, sRetP, sRetO, sForget, sAsgF, sMut, sSetI, setAt, fIxO, fIxP, dAt, fFlat, gCallM, gPop, f2, g2, f1, fNil, fCons, gNilE, gConsE, fCall, gCall, fLst, fTup, gLstE, gTupE, fTest, gTest, fAnd, fOr, fNot, gAnd, gOr, gNot, fIf, gIf, fAndV, fOrV, fNotV, fChain, fRev, tgTup, tgCons, tgNil, up, asB, asL, asT, asI, asS, enumA, zipA, zipB, setE, Option.bind_some, Option.bind_none, Option.map_some, Option.map_none, owns, List.mapM_cons, List.mapM_nil, List.set_cons_zero, List.set_cons_succ, gv_0, gv_1, gv_2, gv_3, gv_4, gv_5, gv_6, gv_7, gv_8, gv_9, gv_10, gv_11, gv_12, gv_13, ev_pure, ev_bind, wipeE, dI0, resP, resM, resF, dCmp, dGt, dLt, dLe, dGe, ix30, ix31, ix32, List.length_cons, List.length_nil, Nat.zero_add, Nat.reduceAdd, List.set_cons_zero, Bool.true_eq_false, Bool.false_eq_true, if_true, if_false, ite_true, ite_false, decide_true, decide_false, dInt, sz0, sz1, sz2, sz3, sz4, sz5, sz6, sz7, e1]) ?_
      refine Wp.of (a := .rt (tupD (l'.map fun x => x / ((gcdF l' : Nat) : Int))) [.list s2]) (by simp only [fSeq, fNext, sIf, sIfP, sAsg, sAsgP, sDrop, sPar, sPar3, sAug, sRet, sRetP, sRetO, sForget, sAsgF, sMut, sSetI, setAt, fIxO, fIxP, dAt, fFlat, gCallM, gPop, f2, g2, f1, fNil, fCons, gNilE, gConsE, fCall, gCall, fLst, fTup, gLstE, gTupE, fTest, gTest, fAnd, fOr, fNot, gAnd, gOr, gNot, fIf, gIf, fAndV, fOrV, fNotV, fChain, fRev, tgTup, tgCons, tgNil, up, asB, asL, asT, asI, asS, enumA, zipA, zipB, setE, Option.bind_some, Option.bind_none, Option.map_some, Option.map_none, owns, List.mapM_cons, List.mapM_nil, List.set_cons_zero, List.set_cons_succ, gv_0, gv_1, gv_2, gv_3, gv_4, gv_5, gv_6, gv_7, gv_8, gv_9, gv_10, gv_11, gv_12, gv_13, ev_pure, ev_bind, wipeE, dI0, resP, resM, resF, dCmp, dGt, dLt, dLe, dGe, ix30, ix31, ix32, List.length_cons, List.length_nil, Nat.zero_add, Nat.reduceAdd, List.set_cons_zero, Bool.true_eq_false, Bool.false_eq_true, if_true, if_false, ite_true, ite_false, decide_true, decide_false, dInt, sz0, sz1, sz2, sz3, sz4, sz5, sz6, sz7, e2]; rfl) ?_
      refine ⟨_, s2, rfl, ⟨by rw [List.length_map]; exact a1, fun x hx => ?_, gcdF_div rfl a3⟩, a4⟩
      obtain ⟨y, hy, rfl⟩ := List.mem_map.mp hx
      have := a2 y hy
      have := Int.natAbs_ediv_le_natAbs y ((gcdF l' : Nat) : Int)
      omega
    unfold F_law_vector
    refine wp_st [some (.list s1), some (.int many), some (.int w), some (.list (l.map PyData.int)), none, none, none] (by simp only [fSeq, fNext, sIf, sIfP, sAsg, sAsgP, sDrop, sPar, sPar3, sAug, sRet, sRetP, sRetO, sForget, sAsgF, sMut, sSetI, setAt, fIxO, fIxP, dAt, fFlat, gCallM, gPop, f2, g2, f1, fNil, fCons, gNilE, gConsE, fCall, gCall, fLst, fTup, gLstE, gTupE, fTest, gTest, fAnd, fOr, fNot, gAnd, gOr, gNot, fIf, gIf, fAndV, fOrV, fNotV, fChain, fRev, tgTup, tgCons, tgNil, up, asB, asL, asT, asI, asS, enumA, zipA, zipB, setE, Option.bind_some, Option.bind_none, Option.map_some, Option.map_none, owns, List.mapM_cons, List.mapM_nil, List.set_cons_zero, List.set_cons_succ, gv_0, gv_1, gv_2, gv_3, gv_4, gv_5, gv_6, gv_7, gv_8, gv_9, gv_10, gv_11, gv_12, gv_13, ev_pure, ev_bind, wipeE, dI0, resP, resM, resF, dCmp, dGt, dLt, dLe, dGe, ix30, ix31, ix32, List.length_cons, List.length_nil, Nat.zero_add, Nat.reduceAdd, List.set_cons_zero, Bool.true_eq_false, Bool.false_eq_true, if_true, if_false, ite_true, ite_false, decide_true, decide_false, dInt, sz0, sz1, sz2, sz3, sz4, sz5, sz6, sz7, eC, Nat.reduceLT]) ?_
    have e1 := lleast (l := l) (d := .list (l.map PyData.int)) rfl
    refine wp_seq (wp_ifP (decide (((gcdF l : Nat) : Int) = 0)) (by simp only [fSeq, fNext, sIf, sIfP, sAsg, sAsgP, sDrop, sPar, sPar3, sAug, sRet, sRetP, sRetO, sForget, sAsgF, sMut, sSetI, setAt, fIxO, fIxP, dAt, fFlat, gCallM, gPop, f2, g2, f1, fNil, fCons, gNilE, gConsE, fCall, gCall, fLst, fTup, gLstE, gTupE, fTest, gTest, fAnd, fOr, fNot, gAnd, gOr, gNot, fIf, gIf, fAndV, fOrV, fNotV, fChain, fRev, tgTup, tgCons, tgNil, up, asB, asL, asT, asI, asS, enumA, zipA, zipB, setE, Option.bind_some, Option.bind_none, Option.map_some, Option.map_none, owns, List.mapM_cons, List.mapM_nil, List.set_cons_zero, List.set_cons_succ, gv_0, gv_1, gv_2, gv_3, gv_4, gv_5, gv_6, gv_7, gv_8, gv_9, gv_10, gv_11, gv_12, gv_13, ev_pure, ev_bind, wipeE, dI0, resP, resM, resF, dCmp, dGt, dLt, dLe, dGe, ix30, ix31, ix32, List.length_cons, List.length_nil, Nat.zero_add, Nat.reduceAdd, List.set_cons_zero, Bool.true_eq_false, Bool.false_eq_true, if_true, if_false, ite_true, ite_false, decide_true, decide_false, dInt, sz0, sz1, sz2, sz3, sz4, sz5, sz6, sz7, e1, dEq_eqi]) (fun hc => ?_) (fun hc => ?_))
    · obtain ⟨r, s2, d1, a1, b1, g1⟩ := draw (c := 2) h3 (by omega) (by omega) (by omega)
      obtain ⟨r2, s3, d2, a2, b2, g2'⟩ := draw (c := (many : Int)) g1 (by omega) (by omega) (by omega)
      obtain ⟨v, hv, hv1⟩ := pm1 a1 b1
      obtain ⟨j, rfl⟩ := Int.eq_ofNat_of_zero_le a2
      have hj : j < l.length := by omega
      have hs := setAt_i (v := v) hj
      unfold setAt at hs
      have en : dNeg (.int 1) = some (.int (-1)) := rfl
      refine Wp.of (a := .nx [some (.list s3), some (.int many), some (.int w), some (.list ((l.set j v).map PyData.int)), none, none, none]) ?_ ?_
      · have d2' : g_law_draw s2 [.int (many : Nat)] = some (.int (j : Nat), s3) := d2
        simp only [fSeq, fNext, sIf, sIfP, sAsg, sAsgP, sDrop, sPar, sPar3, sAug, sRet, sRetP, sRetO, sForget, sAsgF, sMut, sSetI, setAt, fIxO, fIxP, dAt, fFlat, gCallM, gPop, f2, g2, f1, fNil, fCons, gNilE, gConsE, fCall, gCall, fLst, fTup, gLstE, gTupE, fTest, gTest, fAnd, fOr, fNot, gAnd, gOr, gNot, fIf, gIf, fAndV, fOrV, fNotV, fChain, fRev, tgTup, tgCons, tgNil, up, asB, asL, asT, asI, asS, enumA, zipA, zipB, setE, Option.bind_some, Option.bind_none, Option.map_some, Option.map_none, owns, List.mapM_cons, List.mapM_nil, List.set_cons_zero, List.set_cons_succ, gv_0, gv_1, gv_2, gv_3, gv_4, gv_5, gv_6, gv_7, gv_8, gv_9, gv_10, gv_11, gv_12, gv_13, ev_pure, ev_bind, wipeE, dI0, resP, resM, resF, dCmp, dGt, dLt, dLe, dGe, ix30, ix31, ix32, List.length_cons, List.length_nil, Nat.zero_add, Nat.reduceAdd, List.set_cons_zero, Bool.true_eq_false, Bool.false_eq_true, if_true, if_false, ite_true, ite_false, decide_true, decide_false, dInt, sz0, sz1, sz2, sz3, sz4, sz5, sz6, sz7, en, d1, dIx, hv, d2', hs]
      · refine fin _ s3 (by rw [List.length_set]; exact h1) (fun x hx => ?_) ?_ (g2'.mono (by omega))
        · rcases List.mem_or_eq_of_mem_set hx with z | z
          · exact h2 x z
          · rw [z]; omega
        · have := gcdF_one (l := l.set j v) (x := v) (List.mem_set hj _) hv1
          omega
    · have hc := of_decide_eq_false hc
      refine Wp.of (a := .nx [some (.list s1), some (.int many), some (.int w), some (.list (l.map PyData.int)), none, none, none]) rfl ?_
      exact fin l s1 h1 h2 (by omega) (h3.mono (by omega))
  obtain ⟨o, e, ns, src', hr, hs⟩ := key
  refine ⟨ns, src', ?_, hs⟩
  rw [g_law_vector_eq]
  show (F_law_vector [some (.list src), some (.int many), some (.int w), none, none, none, none]).bind resM = _
  rw [e, Option.bind_some, hr]
end CSk21

namespace CSk21
open PySem CS
/-! ### k21: the walk -/
theorem it2 {Fa : En → Option (List D)} {g : List D → Option (List D)} {env : En} {xs ds : List D} (h : Fa env = some xs) (h2 : g xs = some ds) : (fun env => (Fa env).bind g) env = some ds := by
  show (Fa env).bind g = _
  rw [h, Option.bind_some, h2]
theorem two_pick {r : Int} (h : 0 ≤ r) (h2 : r < 2) : ∃ w : Int, L2.atI [PyData.int 2, PyData.int 20] r = some (.int w) ∧ (w = 2 ∨ w = 20) := by
  have : r = 0 ∨ r = 1 := by omega
  rcases this with rfl | rfl
  · exact ⟨2, atI_0, .inl rfl⟩
  · exact ⟨20, atI_1, .inr rfl⟩
theorem thin_draws {n many : Nat} {src : List D} (h : Src n src) (hn : n < 2 ^ 36) (hm1 : 1 ≤ many) (hm : many ≤ 5) :
    ∃ (l : List Int) (src' : List D), C1_law_thin [some (.list src), some (.int many), none, none, none, none] = some (.list (l.map PyData.int), [some (.list src'), some (.int many), none, none, none, none]) ∧ l.length = many ∧ (∀ x ∈ l, x.natAbs ≤ 20) ∧ Src (n + 20) src' := by
  obtain ⟨r, src1, d1, a1, b1, h1⟩ := draw (c := 2) h (by omega) (by omega) (by omega)
  obtain ⟨w, hw, hw2⟩ := two_pick a1 b1
  obtain ⟨ns, src2, dv, ⟨v1, v2, v3⟩, h2⟩ := vector (w := w) h1 (by omega) hm1 hm (by omega)
  unfold C1_law_thin
  obtain ⟨ds, e', h1', zs, src', rfl, rfl, h2', h3, h4⟩ := lcG_map (m := [0]) (vs := [3]) (Fi := (fun env => ((gCallM 0 g_law_vector (gConsE (up (gv 1)) (gConsE (g2 dIx (up (fLst (fCons (fun _ => some (.int 2)) (fCons (fun _ => some (.int 20)) fNil)))) (gCallM 0 g_law_draw (gConsE (up (fun _ => some (.int 2))) gNilE))) gNilE))) env).bind fun r => (asS r.1).map fun ds => (ds, r.2))) (Gt := fun d env => some (setE 3 d env)) (Ft := fun env => some (true, env))
    (Fe := g2 dMul (up (gv 3)) (gCallM 0 g_law_draw (gConsE (up (fun _ => some (.int 2))) gNilE)))
    (env := [some (.list src), some (.int many), none, none, none, none]) PyData.int ns
    (fun p acc e => ∃ (zs : List Int) (src' : List D), acc = zs.map PyData.int ∧ e = [some (.list src'), some (.int many), none, none, none, none] ∧ (∀ z ∈ zs, z.natAbs ≤ 20) ∧ zs.length = p.length ∧ Src (n + 8 + p.length) src')
    (env1 := [some (.list src2), some (.int many), none, none, none, none]) (by
      simp only [fSeq, fNext, sIf, sIfP, sAsg, sAsgP, sDrop, sPar, sPar3, sAug, sRet, sRetP, sRetO, sForget, sAsgF, sMut, sSetI, setAt, fIxO, fIxP, dAt, fFlat, gCallM, gPop, f2, g2, f1, fNil, fCons, gNilE, gConsE, fCall, gCall, fLst, fTup, gLstE, gTupE, fTest, gTest, fAnd, fOr, fNot, gAnd, gOr, gNot, fIf, gIf, fAndV, fOrV, fNotV, fChain, fRev, tgTup, tgCons, tgNil, up, asB, asL, asT, asI, asS, enumA, zipA, zipB, setE, Option.bind_some, Option.bind_none, Option.map_some, Option.map_none, owns, List.mapM_cons, List.mapM_nil, List.set_cons_zero, List.set_cons_succ, gv_0, gv_1, gv_2, gv_3, gv_4, gv_5, gv_6, gv_7, gv_8, gv_9, gv_10, gv_11, gv_12, gv_13, ev_pure, ev_bind, wipeE, dI0, resP, resM, resF, dCmp, dGt, dLt, dLe, dGe, ix30, ix31, ix32, List.length_cons, List.length_nil, Nat.zero_add, Nat.reduceAdd, List.set_cons_zero, Bool.true_eq_false, Bool.false_eq_true, if_true, if_false, ite_true, ite_false, decide_true, decide_false, dInt, sz0, sz1, sz2, sz3, sz4, sz5, sz6, sz7, d1, dIx, hw, dv, tupD]) ⟨[], src2, rfl, rfl, by simp, rfl, h2⟩ (by
      rintro p x q acc e hx ⟨zs, src', rfl, rfl, i1, i2, i3⟩
      have hl : p.length < many := by have := congrArg List.length hx; simp at this; omega
      obtain ⟨r, src3, d3, a3, b3, s3⟩ := draw (c := 2) i3 (by omega) (by omega) (by omega)
      have hxb : x.natAbs ≤ 20 := by have := v2 x (by rw [hx]; simp); omega
      have m1 : dMul (.int x) (.int r) = some (.int (x * r)) := dMul_ok (mulOk_r (by omega))
      refine ⟨some (.int (x * r)), _, ?_, zs ++ [x * r], src3, by simp, rfl, ?_, by simp [i2], by simpa [Nat.add_assoc] using s3⟩
      · unfold turnM
        simp only [fSeq, fNext, sIf, sIfP, sAsg, sAsgP, sDrop, sPar, sPar3, sAug, sRet, sRetP, sRetO, sForget, sAsgF, sMut, sSetI, setAt, fIxO, fIxP, dAt, fFlat, gCallM, gPop, f2, g2, f1, fNil, fCons, gNilE, gConsE, fCall, gCall, fLst, fTup, gLstE, gTupE, fTest, gTest, fAnd, fOr, fNot, gAnd, gOr, gNot, fIf, gIf, fAndV, fOrV, fNotV, fChain, fRev, tgTup, tgCons, tgNil, up, asB, asL, asT, asI, asS, enumA, zipA, zipB, setE, Option.bind_some, Option.bind_none, Option.map_some, Option.map_none, owns, List.mapM_cons, List.mapM_nil, List.set_cons_zero, List.set_cons_succ, gv_0, gv_1, gv_2, gv_3, gv_4, gv_5, gv_6, gv_7, gv_8, gv_9, gv_10, gv_11, gv_12, gv_13, ev_pure, ev_bind, wipeE, dI0, resP, resM, resF, dCmp, dGt, dLt, dLe, dGe, ix30, ix31, ix32, List.length_cons, List.length_nil, Nat.zero_add, Nat.reduceAdd, List.set_cons_zero, Bool.true_eq_false, Bool.false_eq_true, if_true, if_false, ite_true, ite_false, decide_true, decide_false, dInt, sz0, sz1, sz2, sz3, sz4, sz5, sz6, sz7, d3, m1]
        rfl
      · intro z hz
        rcases List.mem_append.mp hz with hz | hz
        · exact i1 z hz
        · rw [List.mem_singleton.mp hz]
          have : r = 0 ∨ r = 1 := by omega
          rcases this with rfl | rfl
          · simp
          · simpa using hxb)
  exact ⟨zs, src', h1', by rw [h3, v1], h2', h4.mono (by rw [v1]; omega)⟩
theorem un_kind {m : Nat} (h1 : 1 ≤ m) (h5 : m ≤ 5) : Kind (un m 0 1) := by
  refine ⟨by rw [un_len]; exact h1, by rw [un_len]; exact h5, fun x hx => ?_, gcdF_one (x := 1) ?_ rfl⟩
  · unfold un at hx
    obtain ⟨k, _, rfl⟩ := List.mem_map.mp hx
    split <;> decide
  · have := getD_mem (l := un m 0 1) (i := 0) (by rw [un_len]; omega)
    rwa [un_get 1 (by omega), if_pos rfl] at this
theorem thin {n many : Nat} {src : List D} (h : Src n src) (hn : n < 2 ^ 36) (hm1 : 1 ≤ many) (hm : many ≤ 5) : ∃ (ns : List Int) (src' : List D), g_law_thin src [.int many] = some (tupD ns, src') ∧ Kind ns ∧ ns.length = many ∧ Src (n + 20) src' := by
  obtain ⟨l, s1, eC, h1, h2, h3⟩ := thin_draws h hn hm1 hm
  have key : Wp (F_law_thin [some (.list src), some (.int many), none, none, none, none]) (fun o => ∃ (ns : List Int) (src' : List D), resM o = some (tupD ns, src') ∧ Kind ns ∧ ns.length = many ∧ Src (n + 20) src') := by
    unfold F_law_thin
    refine wp_st [some (.list s1), some (.int many), some (.list (l.map PyData.int)), none, none, none] (by simp only [fSeq, fNext, sIf, sIfP, sAsg, sAsgP, sDrop, sPar, sPar3, sAug, sRet, sRetP, sRetO, sForget, sAsgF, sMut, sSetI, setAt, fIxO, fIxP, dAt, fFlat, gCallM, gPop, f2, g2, f1, fNil, fCons, gNilE, gConsE, fCall, gCall, fLst, fTup, gLstE, gTupE, fTest, gTest, fAnd, fOr, fNot, gAnd, gOr, gNot, fIf, gIf, fAndV, fOrV, fNotV, fChain, fRev, tgTup, tgCons, tgNil, up, asB, asL, asT, asI, asS, enumA, zipA, zipB, setE, Option.bind_some, Option.bind_none, Option.map_some, Option.map_none, owns, List.mapM_cons, List.mapM_nil, List.set_cons_zero, List.set_cons_succ, gv_0, gv_1, gv_2, gv_3, gv_4, gv_5, gv_6, gv_7, gv_8, gv_9, gv_10, gv_11, gv_12, gv_13, ev_pure, ev_bind, wipeE, dI0, resP, resM, resF, dCmp, dGt, dLt, dLe, dGe, ix30, ix31, ix32, List.length_cons, List.length_nil, Nat.zero_add, Nat.reduceAdd, List.set_cons_zero, Bool.true_eq_false, Bool.false_eq_true, if_true, if_false, ite_true, ite_false, decide_true, decide_false, dInt, sz0, sz1, sz2, sz3, sz4, sz5, sz6, sz7, eC]) ?_
    have e1 := lleast (l := l) (d := .list (l.map PyData.int)) rfl
    refine wp_st [some (.list s1), some (.int many), some (.list (l.map PyData.int)), none, some (.int (gcdF l : Nat)), none] (by simp only [fSeq, fNext, sIf, sIfP, sAsg, sAsgP, sDrop, sPar, sPar3, sAug, sRet, sRetP, sRetO, sForget, sAsgF, sMut, sSetI, setAt, fIxO, fIxP, dAt, fFlat, gCallM, gPop, f2, g2, f1, fNil, fCons, gNilE, gConsE, fCall, gCall, fLst, fTup, gLstE, gTupE, fTest, gTest, fAnd, fOr, fNot, gAnd, gOr, gNot, fIf, gIf, fAndV, fOrV, fNotV, fChain, fRev, tgTup, tgCons, tgNil, up, asB, asL, asT, asI, asS, enumA, zipA, zipB, setE, Option.bind_some, Option.bind_none, Option.map_some, Option.map_none, owns, List.mapM_cons, List.mapM_nil, List.set_cons_zero, List.set_cons_succ, gv_0, gv_1, gv_2, gv_3, gv_4, gv_5, gv_6, gv_7, gv_8, gv_9, gv_10, gv_11, gv_12, gv_13, ev_pure, ev_bind, wipeE, dI0, resP, resM, resF, dCmp, dGt, dLt, dLe, dGe, ix30, ix31, ix32, List.length_cons, List.length_nil, Nat.zero_add, Nat.reduceAdd, List.set_cons_zero, Bool.true_eq_false, Bool.false_eq_true, if_true, if_false, ite_true, ite_false, decide_true, decide_false, dInt, sz0, sz1, sz2, sz3, sz4, sz5, sz6, sz7, e1]) ?_
    refine wp_seq (wp_ifP (decide (((gcdF l : Nat) : Int) = 0)) (by simp only [fSeq, fNext, sIf, sIfP, sAsg, sAsgP, sDrop, sPar, sPar3, sAug, sRet, sRetP, sRetO, sForget, sAsgF, sMut, sSetI, setAt, fIxO, fIxP, dAt, fFlat, gCallM, gPop, f2, g2, f1, fNil, fCons, gNilE, gConsE, fCall, gCall, fLst, fTup, gLstE, gTupE, fTest, gTest, fAnd, fOr, fNot, gAnd, gOr, gNot, fIf, gIf, fAndV, fOrV, fNotV, fChain, fRev, tgTup, tgCons, tgNil, up, asB, asL, asT, asI, asS, enumA, zipA, zipB, setE, Option.bind_some, Option.bind_none, Option.map_some, Option.map_none, owns, List.mapM_cons, List.mapM_nil, List.set_cons_zero, List.set_cons_succ, gv_0, gv_1, gv_2, gv_3, gv_4, gv_5, gv_6, gv_7, gv_8, gv_9, gv_10, gv_11, gv_12, gv_13, ev_pure, ev_bind, wipeE, dI0, resP, resM, resF, dCmp, dGt, dLt, dLe, dGe, ix30, ix31, ix32, List.length_cons, List.length_nil, Nat.zero_add, Nat.reduceAdd, List.set_cons_zero, Bool.true_eq_false, Bool.false_eq_true, if_true, if_false, ite_true, ite_false, decide_true, decide_false, dInt, sz0, sz1, sz2, sz3, sz4, sz5, sz6, sz7, dEq_eqi]) (fun hc => ?_) (fun hc => ?_))
    · have e2 : C2_law_thin [some (.list s1), some (.int many), some (.list (l.map PyData.int)), none, some (.int (gcdF l : Nat)), none] = some (.list ((un many 0 1).map PyData.int)) := by
        unfold C2_law_thin un
        rw [← filterMap_some_map]
        refine lcF_map (fun i : Nat => PyData.int (i : Int)) (List.range many) (fun k => some (.int (if k = 0 then 1 else 0))) (it2 (xs := [.int many]) (by simp only [fSeq, fNext, sIf, sIfP, sAsg, sAsgP, sDrop, sPar, sPar3, sAug, sRet, sRetP, sRetO, sForget, sAsgF, sMut, sSetI, setAt, fIxO, fIxP, dAt, fFlat, gCallM, gPop, f2, g2, f1, fNil, fCons, gNilE, gConsE, fCall, gCall, fLst, fTup, gLstE, gTupE, fTest, gTest, fAnd, fOr, fNot, gAnd, gOr, gNot, fIf, gIf, fAndV, fOrV, fNotV, fChain, fRev, tgTup, tgCons, tgNil, up, asB, asL, asT, asI, asS, enumA, zipA, zipB, setE, Option.bind_some, Option.bind_none, Option.map_some, Option.map_none, owns, List.mapM_cons, List.mapM_nil, List.set_cons_zero, List.set_cons_succ, gv_0, gv_1, gv_2, gv_3, gv_4, gv_5, gv_6, gv_7, gv_8, gv_9, gv_10, gv_11, gv_12, gv_13, ev_pure, ev_bind, wipeE, dI0, resP, resM, resF, dCmp, dGt, dLt, dLe, dGe, ix30, ix31, ix32, List.length_cons, List.length_nil, Nat.zero_add, Nat.reduceAdd, List.set_cons_zero, Bool.true_eq_false, Bool.false_eq_true, if_true, if_false, ite_true, ite_false, decide_true, decide_false, dInt, sz0, sz1, sz2, sz3, sz4, sz5, sz6, sz7]) (rngS (by omega))) (fun k _ => ?_)
        simp only [fSeq, fNext, sIf, sIfP, sAsg, sAsgP, sDrop, sPar, sPar3, sAug, sRet, sRetP, sRetO, sForget, sAsgF, sMut, sSetI, setAt, fIxO, fIxP, dAt, fFlat, gCallM, gPop, f2, g2, f1, fNil, fCons, gNilE, gConsE, fCall, gCall, fLst, fTup, gLstE, gTupE, fTest, gTest, fAnd, fOr, fNot, gAnd, gOr, gNot, fIf, gIf, fAndV, fOrV, fNotV, fChain, fRev, tgTup, tgCons, tgNil, up, asB, asL, asT, asI, asS, enumA, zipA, zipB, setE, Option.bind_some, Option.bind_none, Option.map_some, Option.map_none, owns, List.mapM_cons, List.mapM_nil, List.set_cons_zero, List.set_cons_succ, gv_0, gv_1, gv_2, gv_3, gv_4, gv_5, gv_6, gv_7, gv_8, gv_9, gv_10, gv_11, gv_12, gv_13, ev_pure, ev_bind, wipeE, dI0, resP, resM, resF, dCmp, dGt, dLt, dLe, dGe, ix30, ix31, ix32, List.length_cons, List.length_nil, Nat.zero_add, Nat.reduceAdd, List.set_cons_zero, Bool.true_eq_false, Bool.false_eq_true, if_true, if_false, ite_true, ite_false, decide_true, decide_false, dInt, sz0, sz1, sz2, sz3, sz4, sz5, sz6, sz7, dEq_eqi]
        by_cases c : k = 0
        · subst c; rfl
        · have : ¬ (k : Int) = 0 := by omega
          simp [c, this]
      refine Wp.of (a := Out.rt (tupD (un many 0 1)) [.list s1]) (by simp only [fSeq, fNext, sIf, sIfP, sAsg, sAsgP, sDrop, sPar, sPar3, sAug, sRet, sRetP, sRetO, sForget, sAsgF, sMut, sSetI, setAt, fIxO, fIxP, dAt, fFlat, gCallM, gPop, f2, g2, f1, fNil, fCons, gNilE, gConsE, fCall, gCall, fLst, fTup, gLstE, gTupE, fTest, gTest, fAnd, fOr, fNot, gAnd, gOr, gNot, fIf, gIf, fAndV, fOrV, fNotV, fChain, fRev, tgTup, tgCons, tgNil, up, asB, asL, asT, asI, asS, enumA, zipA, zipB, setE, Option.bind_some, Option.bind_none, Option.map_some, Option.map_none, owns, List.mapM_cons, List.mapM_nil, List.set_cons_zero, List.set_cons_succ, gv_0, gv_1, gv_2, gv_3, gv_4, gv_5, gv_6, gv_7, gv_8, gv_9, gv_10, gv_11, gv_12, gv_13, ev_pure, ev_bind, wipeE, dI0, resP, resM, resF, dCmp, dGt, dLt, dLe, dGe, ix30, ix31, ix32, List.length_cons, List.length_nil, Nat.zero_add, Nat.reduceAdd, List.set_cons_zero, Bool.true_eq_false, Bool.false_eq_true, if_true, if_false, ite_true, ite_false, decide_true, decide_false, dInt, sz0, sz1, sz2, sz3, sz4, sz5, sz6, sz7, e2]; rfl) ?_
      exact ⟨_, s1, rfl, un_kind hm1 hm, un_len _ _ _, h3⟩
    · have hc := of_decide_eq_false hc
      have hg : gcdF l ≤ 20 := gcdF_small h2
      have gp : (0 : Int) < (gcdF l : Nat) := by omega
      have gb : ((gcdF l : Nat) : Int).natAbs < 2 ^ 200 := by omega
      refine Wp.of (a := .nx [some (.list s1), some (.int many), some (.list (l.map PyData.int)), none, some (.int (gcdF l : Nat)), none]) rfl ?_
      have e2 : C3_law_thin [some (.list s1), some (.int many), some (.list (l.map PyData.int)), none, some (.int (gcdF l : Nat)), none] = some (.list ((l.map fun x => x / ((gcdF l : Nat) : Int)).map PyData.int)) := by
        unfold C3_law_thin
        rw [← filterMap_some_map]
        exact lcF_map PyData.int l (fun x => some (.int (x / ((gcdF l : Nat) : Int)))) rfl (fun x _ => by simp only [fSeq, fNext, sIf, sIfP, sAsg, sAsgP, sDrop, sPar, sPar3, sAug, sRet, sRetP, sRetO, sForget, sAsgF, sMut, sSetI, setAt, fIxO, fIxP, dAt, fFlat, gCallM, gPop, f2, g2, f1, fNil, fCons, gNilE, gConsE, fCall, gCall, fLst, fTup, gLstE, gTupE, fTest, gTest, fAnd, fOr, fNot, gAnd, gOr, gNot, fIf, gIf, fAndV, fOrV, fNotV, fChain, fRev, tgTup, tgCons, tgNil, up, asB, asL, asT, asI, asS, enumA, zipA, zipB, setE, Option.bind_some, Option.bind_none, Option.map_some, Option.map_none, owns, List.mapM_cons, List.mapM_nil, List.set_cons_zero, List.set_cons_succ, gv_0, gv_1, gv_2, gv_3, gv_4, gv_5, gv_6, gv_7, gv_8, gv_9, gv_10, gv_11, gv_12, gv_13, ev_pure, ev_bind, wipeE, dI0, resP, resM, resF, dCmp, dGt, dLt, dLe, dGe, ix30, ix31, ix32, List.length_cons, List.length_nil, Nat.zero_add, Nat.reduceAdd, List.set_cons_zero, Bool.true_eq_false, Bool.false_eq_true, if_true, if_false, ite_true, ite_false, decide_true, decide_false, dInt, sz0, sz1, sz2, sz3, sz4, sz5, sz6, sz7, dFdiv_pos gp gb])
      refine Wp.of (a := Out.rt (tupD (l.map fun x => x / ((gcdF l : Nat) : Int))) [.list s1]) (by simp only [fSeq, fNext, sIf, sIfP, sAsg, sAsgP, sDrop, sPar, sPar3, sAug, sRet, sRetP, sRetO, sForget, sAsgF, sMut, sSetI, setAt, fIxO, fIxP, dAt, fFlat, gCallM, gPop, f2, g2, f1, fNil, fCons, gNilE, gConsE, fCall, gCall, fLst, fTup, gLstE, gTupE, fTest, gTest, fAnd, fOr, fNot, gAnd, gOr, gNot, fIf, gIf, fAndV, fOrV, fNotV, fChain, fRev, tgTup, tgCons, tgNil, up, asB, asL, asT, asI, asS, enumA, zipA, zipB, setE, Option.bind_some, Option.bind_none, Option.map_some, Option.map_none, owns, List.mapM_cons, List.mapM_nil, List.set_cons_zero, List.set_cons_succ, gv_0, gv_1, gv_2, gv_3, gv_4, gv_5, gv_6, gv_7, gv_8, gv_9, gv_10, gv_11, gv_12, gv_13, ev_pure, ev_bind, wipeE, dI0, resP, resM, resF, dCmp, dGt, dLt, dLe, dGe, ix30, ix31, ix32, List.length_cons, List.length_nil, Nat.zero_add, Nat.reduceAdd, List.set_cons_zero, Bool.true_eq_false, Bool.false_eq_true, if_true, if_false, ite_true, ite_false, decide_true, decide_false, dInt, sz0, sz1, sz2, sz3, sz4, sz5, sz6, sz7, e2]; rfl) ?_
      refine ⟨_, s1, rfl, ⟨by rw [List.length_map]; omega, by rw [List.length_map]; omega, fun x hx => ?_, gcdF_div rfl (by omega)⟩, by rw [List.length_map]; exact h1, h3⟩
      obtain ⟨y, hy, rfl⟩ := List.mem_map.mp hx
      have := h2 y hy
      have := Int.natAbs_ediv_le_natAbs y ((gcdF l : Nat) : Int)
      omega
  obtain ⟨o, e, ns, src', e2, hr⟩ := key
  refine ⟨ns, src', ?_, hr⟩
  rw [g_law_thin_eq]
  show (F_law_thin [some (.list src), some (.int many), none, none, none, none]).bind resM = _
  rw [e, Option.bind_some, e2]
theorem maxN (n : Nat) : dMax [.int 2, .int (1 + (n : Int))] = some (.int ((max 2 (1 + n) : Nat) : Int)) := by
  rw [dMax2]
  congr 2
  split <;> omega
theorem nz_len (v : List Int) : dLen [.list (v.filterMap fun x => if x ≠ 0 then some (PyData.int x) else none)] = some (.int ((supp v).length : Nat)) := by
  show some (PyData.int (((v.filterMap fun x => if x ≠ 0 then some (PyData.int x) else none).length : Nat) : Int)) = _
  rw [supp_len]
  congr 3
  induction v with
  | nil => rfl
  | cons x r ih =>
    by_cases c : x = 0
    · subst c; simpa using ih
    · rw [List.filterMap_cons_some (b := PyData.int x) (by simp [c]), List.filter_cons_of_pos (by simp [c]), List.length_cons, List.length_cons, ih]
theorem boxsize {v : List Int} (h : Kind v) : g_box_size [tupD v] = some (.int ((max 2 (1 + (supp v).length) : Nat) : Int)) := by
  refine wp_get (F := F_box_size) (env := [some (tupD v), none]) (by rw [g_box_size_eq]; rfl) ?_
  unfold F_box_size
  refine wp_seq (wp_ifP false (by simp only [fSeq, fNext, sIf, sIfP, sAsg, sAsgP, sDrop, sPar, sPar3, sAug, sRet, sRetP, sRetO, sForget, sAsgF, sMut, sSetI, setAt, fIxO, fIxP, dAt, fFlat, gCallM, gPop, f2, g2, f1, fNil, fCons, gNilE, gConsE, fCall, gCall, fLst, fTup, gLstE, gTupE, fTest, gTest, fAnd, fOr, fNot, gAnd, gOr, gNot, fIf, gIf, fAndV, fOrV, fNotV, fChain, fRev, tgTup, tgCons, tgNil, up, asB, asL, asT, asI, asS, enumA, zipA, zipB, setE, Option.bind_some, Option.bind_none, Option.map_some, Option.map_none, owns, List.mapM_cons, List.mapM_nil, List.set_cons_zero, List.set_cons_succ, gv_0, gv_1, gv_2, gv_3, gv_4, gv_5, gv_6, gv_7, gv_8, gv_9, gv_10, gv_11, gv_12, gv_13, ev_pure, ev_bind, wipeE, dI0, resP, resM, resF, dCmp, dGt, dLt, dLe, dGe, ix30, ix31, ix32, List.length_cons, List.length_nil, Nat.zero_add, Nat.reduceAdd, List.set_cons_zero, Bool.true_eq_false, Bool.false_eq_true, if_true, if_false, ite_true, ite_false, decide_true, decide_false, dInt, sz0, sz1, sz2, sz3, sz4, sz5, sz6, sz7, iskind h, Bool.not_true]) nofun fun _ => Wp.of (a := .nx [some (tupD v), none]) rfl ?_)
  have eC : C1_box_size [some (tupD v), none] = some (.list (v.filterMap fun x => if x ≠ 0 then some (PyData.int x) else none)) := by
    unfold C1_box_size
    refine lcF_map PyData.int v (fun x => if x ≠ 0 then some (PyData.int x) else none) rfl (fun x _ => ?_)
    by_cases c : x = 0
    · simp [fSeq, fNext, sIf, sIfP, sAsg, sAsgP, sDrop, sPar, sPar3, sAug, sRet, sRetP, sRetO, sForget, sAsgF, sMut, sSetI, setAt, fIxO, fIxP, dAt, fFlat, gCallM, gPop, f2, g2, f1, fNil, fCons, gNilE, gConsE, fCall, gCall, fLst, fTup, gLstE, gTupE, fTest, gTest, fAnd, fOr, fNot, gAnd, gOr, gNot, fIf, gIf, fAndV, fOrV, fNotV, fChain, fRev, tgTup, tgCons, tgNil, up, asB, asL, asT, asI, asS, enumA, zipA, zipB, setE, Option.bind_some, Option.bind_none, Option.map_some, Option.map_none, owns, List.mapM_cons, List.mapM_nil, List.set_cons_zero, List.set_cons_succ, gv_0, gv_1, gv_2, gv_3, gv_4, gv_5, gv_6, gv_7, gv_8, gv_9, gv_10, gv_11, gv_12, gv_13, ev_pure, ev_bind, wipeE, dI0, resP, resM, resF, dCmp, dGt, dLt, dLe, dGe, ix30, ix31, ix32, List.length_cons, List.length_nil, Nat.zero_add, Nat.reduceAdd, List.set_cons_zero, Bool.true_eq_false, Bool.false_eq_true, if_true, if_false, ite_true, ite_false, decide_true, decide_false, dInt, sz0, sz1, sz2, sz3, sz4, sz5, sz6, sz7, dEq_nei, c]
    · simp [fSeq, fNext, sIf, sIfP, sAsg, sAsgP, sDrop, sPar, sPar3, sAug, sRet, sRetP, sRetO, sForget, sAsgF, sMut, sSetI, setAt, fIxO, fIxP, dAt, fFlat, gCallM, gPop, f2, g2, f1, fNil, fCons, gNilE, gConsE, fCall, gCall, fLst, fTup, gLstE, gTupE, fTest, gTest, fAnd, fOr, fNot, gAnd, gOr, gNot, fIf, gIf, fAndV, fOrV, fNotV, fChain, fRev, tgTup, tgCons, tgNil, up, asB, asL, asT, asI, asS, enumA, zipA, zipB, setE, Option.bind_some, Option.bind_none, Option.map_some, Option.map_none, owns, List.mapM_cons, List.mapM_nil, List.set_cons_zero, List.set_cons_succ, gv_0, gv_1, gv_2, gv_3, gv_4, gv_5, gv_6, gv_7, gv_8, gv_9, gv_10, gv_11, gv_12, gv_13, ev_pure, ev_bind, wipeE, dI0, resP, resM, resF, dCmp, dGt, dLt, dLe, dGe, ix30, ix31, ix32, List.length_cons, List.length_nil, Nat.zero_add, Nat.reduceAdd, List.set_cons_zero, Bool.true_eq_false, Bool.false_eq_true, if_true, if_false, ite_true, ite_false, decide_true, decide_false, dInt, sz0, sz1, sz2, sz3, sz4, sz5, sz6, sz7, dEq_nei, c]
  exact Wp.of (a := .rt (.int ((max 2 (1 + (supp v).length) : Nat) : Int)) []) (by simp only [fSeq, fNext, sIf, sIfP, sAsg, sAsgP, sDrop, sPar, sPar3, sAug, sRet, sRetP, sRetO, sForget, sAsgF, sMut, sSetI, setAt, fIxO, fIxP, dAt, fFlat, gCallM, gPop, f2, g2, f1, fNil, fCons, gNilE, gConsE, fCall, gCall, fLst, fTup, gLstE, gTupE, fTest, gTest, fAnd, fOr, fNot, gAnd, gOr, gNot, fIf, gIf, fAndV, fOrV, fNotV, fChain, fRev, tgTup, tgCons, tgNil, up, asB, asL, asT, asI, asS, enumA, zipA, zipB, setE, Option.bind_some, Option.bind_none, Option.map_some, Option.map_none, owns, List.mapM_cons, List.mapM_nil, List.set_cons_zero, List.set_cons_succ, gv_0, gv_1, gv_2, gv_3, gv_4, gv_5, gv_6, gv_7, gv_8, gv_9, gv_10, gv_11, gv_12, gv_13, ev_pure, ev_bind, wipeE, dI0, resP, resM, resF, dCmp, dGt, dLt, dLe, dGe, ix30, ix31, ix32, List.length_cons, List.length_nil, Nat.zero_add, Nat.reduceAdd, List.set_cons_zero, Bool.true_eq_false, Bool.false_eq_true, if_true, if_false, ite_true, ite_false, decide_true, decide_false, dInt, sz0, sz1, sz2, sz3, sz4, sz5, sz6, sz7, eC, nz_len, dAdd_i, maxN]) rfl
theorem boxesP {n : Nat} (h1 : 1 ≤ n) (h5 : n ≤ 5) (ho : oneLen (upL n ++ downL n)) (h0 : upL n ++ downL n ≠ []) : g_boxes [.int n] = some (.list ((sortL (upL n ++ downL n)).map tupD)) := by
  have e1 : C1_boxes [some (.int n), none, none] = some (.list ((upL n).map tupD)) := by
    unfold C1_boxes upL
    rw [← fm_map]
    refine lcF_map (fun i : Nat => PyData.int (i : Int)) (List.range n) (fun i => some (tupD (stepL n i n))) (by simp only [fSeq, fNext, sIf, sIfP, sAsg, sAsgP, sDrop, sPar, sPar3, sAug, sRet, sRetP, sRetO, sForget, sAsgF, sMut, sSetI, setAt, fIxO, fIxP, dAt, fFlat, gCallM, gPop, f2, g2, f1, fNil, fCons, gNilE, gConsE, fCall, gCall, fLst, fTup, gLstE, gTupE, fTest, gTest, fAnd, fOr, fNot, gAnd, gOr, gNot, fIf, gIf, fAndV, fOrV, fNotV, fChain, fRev, tgTup, tgCons, tgNil, up, asB, asL, asT, asI, asS, enumA, zipA, zipB, setE, Option.bind_some, Option.bind_none, Option.map_some, Option.map_none, owns, List.mapM_cons, List.mapM_nil, List.set_cons_zero, List.set_cons_succ, gv_0, gv_1, gv_2, gv_3, gv_4, gv_5, gv_6, gv_7, gv_8, gv_9, gv_10, gv_11, gv_12, gv_13, ev_pure, ev_bind, wipeE, dI0, resP, resM, resF, dCmp, dGt, dLt, dLe, dGe, ix30, ix31, ix32, List.length_cons, List.length_nil, Nat.zero_add, Nat.reduceAdd, List.set_cons_zero, Bool.true_eq_false, Bool.false_eq_true, if_true, if_false, ite_true, ite_false, decide_true, decide_false, dInt, sz0, sz1, sz2, sz3, sz4, sz5, sz6, sz7, rngS (show n ≤ 1000 by omega)]) (fun i hi => ?_)
    have hi : i < n := by simpa using hi
    have := withitems (n := n) (items := [(i, 1)]) (by omega) (by simpa using hi)
    rw [with_up hi] at this
    have this : g_with_items [.int n, .list [.tuple [.int (i : Nat), .int 1]]] = some (tupD (stepL n i n)) := this
    simp only [fSeq, fNext, sIf, sIfP, sAsg, sAsgP, sDrop, sPar, sPar3, sAug, sRet, sRetP, sRetO, sForget, sAsgF, sMut, sSetI, setAt, fIxO, fIxP, dAt, fFlat, gCallM, gPop, f2, g2, f1, fNil, fCons, gNilE, gConsE, fCall, gCall, fLst, fTup, gLstE, gTupE, fTest, gTest, fAnd, fOr, fNot, gAnd, gOr, gNot, fIf, gIf, fAndV, fOrV, fNotV, fChain, fRev, tgTup, tgCons, tgNil, up, asB, asL, asT, asI, asS, enumA, zipA, zipB, setE, Option.bind_some, Option.bind_none, Option.map_some, Option.map_none, owns, List.mapM_cons, List.mapM_nil, List.set_cons_zero, List.set_cons_succ, gv_0, gv_1, gv_2, gv_3, gv_4, gv_5, gv_6, gv_7, gv_8, gv_9, gv_10, gv_11, gv_12, gv_13, ev_pure, ev_bind, wipeE, dI0, resP, resM, resF, dCmp, dGt, dLt, dLe, dGe, ix30, ix31, ix32, List.length_cons, List.length_nil, Nat.zero_add, Nat.reduceAdd, List.set_cons_zero, Bool.true_eq_false, Bool.false_eq_true, if_true, if_false, ite_true, ite_false, decide_true, decide_false, dInt, sz0, sz1, sz2, sz3, sz4, sz5, sz6, sz7, this]
  have e2 : ∀ z, C2_boxes [some (.int n), z, none] = some (.list ((downL n).map tupD)) := fun z => by
    unfold C2_boxes downL
    rw [← fm_map]
    refine lcF_map (fun i : Nat => PyData.int (i : Int)) (List.range n) (fun i => some (tupD (stepL n n i))) (by simp only [fSeq, fNext, sIf, sIfP, sAsg, sAsgP, sDrop, sPar, sPar3, sAug, sRet, sRetP, sRetO, sForget, sAsgF, sMut, sSetI, setAt, fIxO, fIxP, dAt, fFlat, gCallM, gPop, f2, g2, f1, fNil, fCons, gNilE, gConsE, fCall, gCall, fLst, fTup, gLstE, gTupE, fTest, gTest, fAnd, fOr, fNot, gAnd, gOr, gNot, fIf, gIf, fAndV, fOrV, fNotV, fChain, fRev, tgTup, tgCons, tgNil, up, asB, asL, asT, asI, asS, enumA, zipA, zipB, setE, Option.bind_some, Option.bind_none, Option.map_some, Option.map_none, owns, List.mapM_cons, List.mapM_nil, List.set_cons_zero, List.set_cons_succ, gv_0, gv_1, gv_2, gv_3, gv_4, gv_5, gv_6, gv_7, gv_8, gv_9, gv_10, gv_11, gv_12, gv_13, ev_pure, ev_bind, wipeE, dI0, resP, resM, resF, dCmp, dGt, dLt, dLe, dGe, ix30, ix31, ix32, List.length_cons, List.length_nil, Nat.zero_add, Nat.reduceAdd, List.set_cons_zero, Bool.true_eq_false, Bool.false_eq_true, if_true, if_false, ite_true, ite_false, decide_true, decide_false, dInt, sz0, sz1, sz2, sz3, sz4, sz5, sz6, sz7, rngS (show n ≤ 1000 by omega)]) (fun i hi => ?_)
    have hi : i < n := by simpa using hi
    have := withitems (n := n) (items := [(i, -1)]) (by omega) (by simpa using hi)
    rw [with_down hi] at this
    have this : g_with_items [.int n, .list [.tuple [.int (i : Nat), .int (-1)]]] = some (tupD (stepL n n i)) := this
    have en : dNeg (.int 1) = some (.int (-1)) := rfl
    simp only [fSeq, fNext, sIf, sIfP, sAsg, sAsgP, sDrop, sPar, sPar3, sAug, sRet, sRetP, sRetO, sForget, sAsgF, sMut, sSetI, setAt, fIxO, fIxP, dAt, fFlat, gCallM, gPop, f2, g2, f1, fNil, fCons, gNilE, gConsE, fCall, gCall, fLst, fTup, gLstE, gTupE, fTest, gTest, fAnd, fOr, fNot, gAnd, gOr, gNot, fIf, gIf, fAndV, fOrV, fNotV, fChain, fRev, tgTup, tgCons, tgNil, up, asB, asL, asT, asI, asS, enumA, zipA, zipB, setE, Option.bind_some, Option.bind_none, Option.map_some, Option.map_none, owns, List.mapM_cons, List.mapM_nil, List.set_cons_zero, List.set_cons_succ, gv_0, gv_1, gv_2, gv_3, gv_4, gv_5, gv_6, gv_7, gv_8, gv_9, gv_10, gv_11, gv_12, gv_13, ev_pure, ev_bind, wipeE, dI0, resP, resM, resF, dCmp, dGt, dLt, dLe, dGe, ix30, ix31, ix32, List.length_cons, List.length_nil, Nat.zero_add, Nat.reduceAdd, List.set_cons_zero, Bool.true_eq_false, Bool.false_eq_true, if_true, if_false, ite_true, ite_false, decide_true, decide_false, dInt, sz0, sz1, sz2, sz3, sz4, sz5, sz6, sz7, en, this]
  have ea : dAdd (.list ((upL n).map tupD)) (.list ((downL n).map tupD)) = some (.list ((upL n ++ downL n).map tupD)) := by
    show (if _ ≤ sizeLine then some (PyData.list _) else none) = _
    rw [if_pos (by unfold upL downL; simp only [List.length_map, List.length_range]; have := sizeL; omega), List.map_append]
  refine wp_get (F := F_boxes) (env := [some (.int n), none, none]) (by rw [g_boxes_eq]; rfl) ?_
  unfold F_boxes
  refine wp_st [some (.int n), none, none] (by simp only [fSeq, fNext, sIf, sIfP, sAsg, sAsgP, sDrop, sPar, sPar3, sAug, sRet, sRetP, sRetO, sForget, sAsgF, sMut, sSetI, setAt, fIxO, fIxP, dAt, fFlat, gCallM, gPop, f2, g2, f1, fNil, fCons, gNilE, gConsE, fCall, gCall, fLst, fTup, gLstE, gTupE, fTest, gTest, fAnd, fOr, fNot, gAnd, gOr, gNot, fIf, gIf, fAndV, fOrV, fNotV, fChain, fRev, tgTup, tgCons, tgNil, up, asB, asL, asT, asI, asS, enumA, zipA, zipB, setE, Option.bind_some, Option.bind_none, Option.map_some, Option.map_none, owns, List.mapM_cons, List.mapM_nil, List.set_cons_zero, List.set_cons_succ, gv_0, gv_1, gv_2, gv_3, gv_4, gv_5, gv_6, gv_7, gv_8, gv_9, gv_10, gv_11, gv_12, gv_13, ev_pure, ev_bind, wipeE, dI0, resP, resM, resF, dCmp, dGt, dLt, dLe, dGe, ix30, ix31, ix32, List.length_cons, List.length_nil, Nat.zero_add, Nat.reduceAdd, List.set_cons_zero, Bool.true_eq_false, Bool.false_eq_true, if_true, if_false, ite_true, ite_false, decide_true, decide_false, dInt, sz0, sz1, sz2, sz3, sz4, sz5, sz6, sz7, neednumber (v := n) (lo := 1) (hi := 5) (by omega) (by omega)]) ?_
  refine wp_st [some (.int n), some (.list ((upL n).map tupD)), none] (by simp only [fSeq, fNext, sIf, sIfP, sAsg, sAsgP, sDrop, sPar, sPar3, sAug, sRet, sRetP, sRetO, sForget, sAsgF, sMut, sSetI, setAt, fIxO, fIxP, dAt, fFlat, gCallM, gPop, f2, g2, f1, fNil, fCons, gNilE, gConsE, fCall, gCall, fLst, fTup, gLstE, gTupE, fTest, gTest, fAnd, fOr, fNot, gAnd, gOr, gNot, fIf, gIf, fAndV, fOrV, fNotV, fChain, fRev, tgTup, tgCons, tgNil, up, asB, asL, asT, asI, asS, enumA, zipA, zipB, setE, Option.bind_some, Option.bind_none, Option.map_some, Option.map_none, owns, List.mapM_cons, List.mapM_nil, List.set_cons_zero, List.set_cons_succ, gv_0, gv_1, gv_2, gv_3, gv_4, gv_5, gv_6, gv_7, gv_8, gv_9, gv_10, gv_11, gv_12, gv_13, ev_pure, ev_bind, wipeE, dI0, resP, resM, resF, dCmp, dGt, dLt, dLe, dGe, ix30, ix31, ix32, List.length_cons, List.length_nil, Nat.zero_add, Nat.reduceAdd, List.set_cons_zero, Bool.true_eq_false, Bool.false_eq_true, if_true, if_false, ite_true, ite_false, decide_true, decide_false, dInt, sz0, sz1, sz2, sz3, sz4, sz5, sz6, sz7, e1]) ?_
  exact Wp.of (a := .rt (.list ((sortL (upL n ++ downL n)).map tupD)) []) (by simp only [fSeq, fNext, sIf, sIfP, sAsg, sAsgP, sDrop, sPar, sPar3, sAug, sRet, sRetP, sRetO, sForget, sAsgF, sMut, sSetI, setAt, fIxO, fIxP, dAt, fFlat, gCallM, gPop, f2, g2, f1, fNil, fCons, gNilE, gConsE, fCall, gCall, fLst, fTup, gLstE, gTupE, fTest, gTest, fAnd, fOr, fNot, gAnd, gOr, gNot, fIf, gIf, fAndV, fOrV, fNotV, fChain, fRev, tgTup, tgCons, tgNil, up, asB, asL, asT, asI, asS, enumA, zipA, zipB, setE, Option.bind_some, Option.bind_none, Option.map_some, Option.map_none, owns, List.mapM_cons, List.mapM_nil, List.set_cons_zero, List.set_cons_succ, gv_0, gv_1, gv_2, gv_3, gv_4, gv_5, gv_6, gv_7, gv_8, gv_9, gv_10, gv_11, gv_12, gv_13, ev_pure, ev_bind, wipeE, dI0, resP, resM, resF, dCmp, dGt, dLt, dLe, dGe, ix30, ix31, ix32, List.length_cons, List.length_nil, Nat.zero_add, Nat.reduceAdd, List.set_cons_zero, Bool.true_eq_false, Bool.false_eq_true, if_true, if_false, ite_true, ite_false, decide_true, decide_false, dInt, sz0, sz1, sz2, sz3, sz4, sz5, sz6, sz7, e2, ea, sortAll_is ho h0]) rfl
theorem maxL_is {d : Int} {l : List Int} (h0 : 0 ≤ d) (h : ∀ x ∈ l, x ≤ d) (hd : d ∈ l) : maxL (0 :: l) = d := by
  have h1 := maxL_ge (l := 0 :: l) (y := d) (by simp [hd])
  rcases List.mem_cons.mp (maxL_mem (l := 0 :: l) (by simp)) with e | e
  · omega
  · have := h _ e; omega
theorem clashsize {ls : List (List Int)} {m : Nat} (hb : Book ls) (hm : (ls.headD []).length = m) : g_clash_size [.list (ls.map tupD)] = some (.int (maxL (0 :: (knotsL ls).map fun K => (K.length : Int)))) := by
  have h5 : m ≤ 5 := by
    have : ls.headD [] ∈ ls := by
      cases ls with
      | nil => have := hb.lo; simp at this
      | cons a r => simp
    have := (hb.kd _ this).hi
    omega
  have eneed : g_need_book [.list (ls.map tupD)] = some .none := by
    refine wp_get (F := F_need_book) (env := [some (.list (ls.map tupD))]) (by rw [g_need_book_eq]; rfl) ?_
    unfold F_need_book
    exact wp_ifP false (by simp only [fSeq, fNext, sIf, sIfP, sAsg, sAsgP, sDrop, sPar, sPar3, sAug, sRet, sRetP, sRetO, sForget, sAsgF, sMut, sSetI, setAt, fIxO, fIxP, dAt, fFlat, gCallM, gPop, f2, g2, f1, fNil, fCons, gNilE, gConsE, fCall, gCall, fLst, fTup, gLstE, gTupE, fTest, gTest, fAnd, fOr, fNot, gAnd, gOr, gNot, fIf, gIf, fAndV, fOrV, fNotV, fChain, fRev, tgTup, tgCons, tgNil, up, asB, asL, asT, asI, asS, enumA, zipA, zipB, setE, Option.bind_some, Option.bind_none, Option.map_some, Option.map_none, owns, List.mapM_cons, List.mapM_nil, List.set_cons_zero, List.set_cons_succ, gv_0, gv_1, gv_2, gv_3, gv_4, gv_5, gv_6, gv_7, gv_8, gv_9, gv_10, gv_11, gv_12, gv_13, ev_pure, ev_bind, wipeE, dI0, resP, resM, resF, dCmp, dGt, dLt, dLe, dGe, ix30, ix31, ix32, List.length_cons, List.length_nil, Nat.zero_add, Nat.reduceAdd, List.set_cons_zero, Bool.true_eq_false, Bool.false_eq_true, if_true, if_false, ite_true, ite_false, decide_true, decide_false, dInt, sz0, sz1, sz2, sz3, sz4, sz5, sz6, sz7, isbook hb, Bool.not_true]) nofun fun _ => Wp.of (a := .nx [some (.list (ls.map tupD))]) rfl rfl
  have eK := knotsin (b := 5) (size := m) (vs := ls) (fun v hv => ⟨by rw [hb.sz v hv, hm], fun x hx => by have := (hb.kd v hv).it x hx; omega⟩) (by decide) (by
    have : xb 5 m ≤ xb 5 5 := xb_mono h5
    have : xb 5 5 = 191 := rfl
    omega) (by omega) (by have := hb.hi; omega)
  have hlen : (knotsL ls).length ≤ 2 ^ 12 := by
    have h1 := (sortK_perm (knB ls 8 0 [] [])).length_eq
    have h2 := knB_len (vs := ls) (n := 8) (first := 0) (chosen := []) (basis := [])
    have h3 : 2 ^ (ls.length - 0) ≤ 2 ^ 12 := Nat.pow_le_pow_right (by decide) (by have := hb.hi; omega)
    unfold knotsL
    omega
  have eG : g_greatest_size [.list ((knotsL ls).map knotD)] = some (.int (maxL (0 :: (knotsL ls).map fun K => (K.length : Int)))) := by
    refine wp_get (F := F_greatest_size) (env := [some (.list ((knotsL ls).map knotD)), none]) (by rw [g_greatest_size_eq]; rfl) ?_
    unfold F_greatest_size
    have eC : C1_greatest_size [some (.list ((knotsL ls).map knotD)), none] = some (intsD ((knotsL ls).map fun K => (K.length : Int))) := by
      unfold C1_greatest_size
      rw [← fmI]
      refine lcF_map knotD (knotsL ls) (fun K => some (.int (K.length : Nat))) rfl (fun K _ => ?_)
      have el : dLen [knotD K] = some (.int (K.length : Nat)) := by
        show some (PyData.int ((K.map itemN).length : Nat)) = _
        rw [List.length_map]
      simp only [fSeq, fNext, sIf, sIfP, sAsg, sAsgP, sDrop, sPar, sPar3, sAug, sRet, sRetP, sRetO, sForget, sAsgF, sMut, sSetI, setAt, fIxO, fIxP, dAt, fFlat, gCallM, gPop, f2, g2, f1, fNil, fCons, gNilE, gConsE, fCall, gCall, fLst, fTup, gLstE, gTupE, fTest, gTest, fAnd, fOr, fNot, gAnd, gOr, gNot, fIf, gIf, fAndV, fOrV, fNotV, fChain, fRev, tgTup, tgCons, tgNil, up, asB, asL, asT, asI, asS, enumA, zipA, zipB, setE, Option.bind_some, Option.bind_none, Option.map_some, Option.map_none, owns, List.mapM_cons, List.mapM_nil, List.set_cons_zero, List.set_cons_succ, gv_0, gv_1, gv_2, gv_3, gv_4, gv_5, gv_6, gv_7, gv_8, gv_9, gv_10, gv_11, gv_12, gv_13, ev_pure, ev_bind, wipeE, dI0, resP, resM, resF, dCmp, dGt, dLt, dLe, dGe, ix30, ix31, ix32, List.length_cons, List.length_nil, Nat.zero_add, Nat.reduceAdd, List.set_cons_zero, Bool.true_eq_false, Bool.false_eq_true, if_true, if_false, ite_true, ite_false, decide_true, decide_false, dInt, sz0, sz1, sz2, sz3, sz4, sz5, sz6, sz7, el]
    have eM : fLst (fCons (fun _ => some (.int 0)) (fStar C1_greatest_size fNil)) [some (.list ((knotsL ls).map knotD)), none] = some (intsD (0 :: (knotsL ls).map fun K => (K.length : Int))) := by
      unfold fLst fStar
      simp only [fSeq, fNext, sIf, sIfP, sAsg, sAsgP, sDrop, sPar, sPar3, sAug, sRet, sRetP, sRetO, sForget, sAsgF, sMut, sSetI, setAt, fIxO, fIxP, dAt, fFlat, gCallM, gPop, f2, g2, f1, fNil, fCons, gNilE, gConsE, fCall, gCall, fLst, fTup, gLstE, gTupE, fTest, gTest, fAnd, fOr, fNot, gAnd, gOr, gNot, fIf, gIf, fAndV, fOrV, fNotV, fChain, fRev, tgTup, tgCons, tgNil, up, asB, asL, asT, asI, asS, enumA, zipA, zipB, setE, Option.bind_some, Option.bind_none, Option.map_some, Option.map_none, owns, List.mapM_cons, List.mapM_nil, List.set_cons_zero, List.set_cons_succ, gv_0, gv_1, gv_2, gv_3, gv_4, gv_5, gv_6, gv_7, gv_8, gv_9, gv_10, gv_11, gv_12, gv_13, ev_pure, ev_bind, wipeE, dI0, resP, resM, resF, dCmp, dGt, dLt, dLe, dGe, ix30, ix31, ix32, List.length_cons, List.length_nil, Nat.zero_add, Nat.reduceAdd, List.set_cons_zero, Bool.true_eq_false, Bool.false_eq_true, if_true, if_false, ite_true, ite_false, decide_true, decide_false, dInt, sz0, sz1, sz2, sz3, sz4, sz5, sz6, sz7, eC, intsD, List.append_nil]
      rw [sized_i (by simp; omega), Option.map_some]
      rfl
    have ex : dMax [intsD (0 :: (knotsL ls).map fun K => (K.length : Int))] = some (.int (maxL (0 :: (knotsL ls).map fun K => (K.length : Int)))) := by
      show (asInts ((0 :: (knotsL ls).map fun K => (K.length : Int)).map PyData.int)).bind _ = _
      rw [asInts_map, Option.bind_some, if_pos (by simp)]
    exact Wp.of (a := .rt (.int (maxL (0 :: (knotsL ls).map fun K => (K.length : Int)))) []) (by simp only [sRetP, fCall, fCons, fNil, eM, ex, Option.bind_some, Option.map_some, owns, List.mapM_nil, ev_pure]) rfl
  refine wp_get (F := F_clash_size) (env := [some (.list (ls.map tupD))]) (by rw [g_clash_size_eq]; rfl) ?_
  unfold F_clash_size
  refine wp_st [some (.list (ls.map tupD))] (by simp only [fSeq, fNext, sIf, sIfP, sAsg, sAsgP, sDrop, sPar, sPar3, sAug, sRet, sRetP, sRetO, sForget, sAsgF, sMut, sSetI, setAt, fIxO, fIxP, dAt, fFlat, gCallM, gPop, f2, g2, f1, fNil, fCons, gNilE, gConsE, fCall, gCall, fLst, fTup, gLstE, gTupE, fTest, gTest, fAnd, fOr, fNot, gAnd, gOr, gNot, fIf, gIf, fAndV, fOrV, fNotV, fChain, fRev, tgTup, tgCons, tgNil, up, asB, asL, asT, asI, asS, enumA, zipA, zipB, setE, Option.bind_some, Option.bind_none, Option.map_some, Option.map_none, owns, List.mapM_cons, List.mapM_nil, List.set_cons_zero, List.set_cons_succ, gv_0, gv_1, gv_2, gv_3, gv_4, gv_5, gv_6, gv_7, gv_8, gv_9, gv_10, gv_11, gv_12, gv_13, ev_pure, ev_bind, wipeE, dI0, resP, resM, resF, dCmp, dGt, dLt, dLe, dGe, ix30, ix31, ix32, List.length_cons, List.length_nil, Nat.zero_add, Nat.reduceAdd, List.set_cons_zero, Bool.true_eq_false, Bool.false_eq_true, if_true, if_false, ite_true, ite_false, decide_true, decide_false, dInt, sz0, sz1, sz2, sz3, sz4, sz5, sz6, sz7, eneed]) ?_
  exact Wp.of (a := .rt (.int (maxL (0 :: (knotsL ls).map fun K => (K.length : Int)))) []) (by simp only [fSeq, fNext, sIf, sIfP, sAsg, sAsgP, sDrop, sPar, sPar3, sAug, sRet, sRetP, sRetO, sForget, sAsgF, sMut, sSetI, setAt, fIxO, fIxP, dAt, fFlat, gCallM, gPop, f2, g2, f1, fNil, fCons, gNilE, gConsE, fCall, gCall, fLst, fTup, gLstE, gTupE, fTest, gTest, fAnd, fOr, fNot, gAnd, gOr, gNot, fIf, gIf, fAndV, fOrV, fNotV, fChain, fRev, tgTup, tgCons, tgNil, up, asB, asL, asT, asI, asS, enumA, zipA, zipB, setE, Option.bind_some, Option.bind_none, Option.map_some, Option.map_none, owns, List.mapM_cons, List.mapM_nil, List.set_cons_zero, List.set_cons_succ, gv_0, gv_1, gv_2, gv_3, gv_4, gv_5, gv_6, gv_7, gv_8, gv_9, gv_10, gv_11, gv_12, gv_13, ev_pure, ev_bind, wipeE, dI0, resP, resM, resF, dCmp, dGt, dLt, dLe, dGe, ix30, ix31, ix32, List.length_cons, List.length_nil, Nat.zero_add, Nat.reduceAdd, List.set_cons_zero, Bool.true_eq_false, Bool.false_eq_true, if_true, if_false, ite_true, ite_false, decide_true, decide_false, dInt, sz0, sz1, sz2, sz3, sz4, sz5, sz6, sz7, eK, eG]) rfl
end CSk21

namespace CSk21
open PySem CS
/-! ### k21: the law -/
theorem kw1 {g : List D → Option D} {x : D} : kwG 1 [0] g [x] = g [x] := rfl
def kindB (m : List Int) (n : Nat) : Bool := decide (1 ≤ m.length) && decide (m.length ≤ 5) && (m.all fun x => decide (x.natAbs ≤ 20)) && decide (gcdF m = 1) && decide (m.length = n)
theorem kindB_ok {m : List Int} {n : Nat} (h : kindB m n = true) : Kind m ∧ m.length = n := by
  unfold kindB at h
  simp only [Bool.and_eq_true, decide_eq_true_eq, List.all_eq_true] at h
  obtain ⟨⟨⟨⟨a, b⟩, c⟩, d⟩, e⟩ := h
  exact ⟨⟨a, b, c, d⟩, e⟩
theorem boxOk {n : Nat} (h1 : 1 ≤ n) (h5 : n ≤ 5) : (∀ m ∈ upL n ++ downL n, Kind m ∧ m.length = n) ∧ oneLen (upL n ++ downL n) ∧ upL n ++ downL n ≠ [] ∧ (upL n ++ downL n).length = 2 * n := by
  have hk : ∀ k, k = 1 ∨ k = 2 ∨ k = 3 ∨ k = 4 ∨ k = 5 → ((upL k ++ downL k).all fun m => kindB m k) = true := by
    rintro k (rfl | rfl | rfl | rfl | rfl) <;> decide +kernel
  have hc : n = 1 ∨ n = 2 ∨ n = 3 ∨ n = 4 ∨ n = 5 := by omega
  have hl : (upL n ++ downL n).length = 2 * n := by unfold upL downL; simp; omega
  have hm : ∀ m ∈ upL n ++ downL n, Kind m ∧ m.length = n := fun m hm => kindB_ok (List.all_eq_true.mp (hk n hc) m hm)
  refine ⟨hm, ?_, by intro e; rw [e] at hl; simp at hl; omega, hl⟩
  cases e : upL n ++ downL n with
  | nil => rw [e] at hl; simp at hl; omega
  | cons a r =>
    rw [e] at hm
    exact ⟨by show 1 ≤ a.length; rw [(hm a (by simp)).2]; exact h1, fun m hh => by rw [(hm m hh).2]; exact (hm a (by simp)).2.symm⟩
theorem clash_box {m : Nat} {v : List Int} (h1 : 1 ≤ m) (h5 : m ≤ 5) (hv : Kind v) (hvm : v.length = m) : g_clash_size [.list ((setL (sortL (upL m ++ downL m) ++ [v])).map tupD)] = some (.int ((max 2 (1 + (supp v).length) : Nat) : Int)) ∧ dSortSet (.list ((sortL (upL m ++ downL m) ++ [v]).map tupD)) = some (.list ((setL (sortL (upL m ++ downL m) ++ [v])).map tupD)) := by
  obtain ⟨hk, ho, h0, hl⟩ := boxOk h1 h5
  have hp := sortL_perm (upL m ++ downL m)
  have hL : ∀ x ∈ sortL (upL m ++ downL m) ++ [v], Kind x ∧ x.length = m := fun x hx => by
    rcases List.mem_append.mp hx with z | z
    · exact hk x (hp.mem_iff.mp z)
    · rw [List.mem_singleton.mp z]; exact ⟨hv, hvm⟩
  have hlen : (sortL (upL m ++ downL m) ++ [v]).length = 2 * m + 1 := by rw [List.length_append, hp.length_eq, hl]; rfl
  obtain ⟨hb, hh⟩ := book_set (m := m) (by omega) (by omega) hL
  refine ⟨?_, sortset_is h1 (by omega) (by omega) fun x hx => (hL x hx).2⟩
  rw [clashsize hb hh]
  obtain ⟨b1, K, b2, b3⟩ := box_size_is (b := 5) (m := m) (v := v) (vs := setL (sortL (upL m ++ downL m) ++ [v])) (by omega) h1 (by omega) hvm (fun x hx => by have := hv.it x hx; omega) (setL_nodup _) (fun x => by
    rw [setL_mem, List.mem_append, hp.mem_iff, List.mem_singleton])
  have hmx : maxL (0 :: (knotsL (setL (sortL (upL m ++ downL m) ++ [v]))).map fun K => (K.length : Int)) = ((max 2 (1 + (supp v).length) : Nat) : Int) := by
    refine maxL_is (by omega) (fun x hx => ?_) (List.mem_map.mpr ⟨K, b2, by rw [b3]⟩)
    obtain ⟨K', hK', rfl⟩ := List.mem_map.mp hx
    have := b1 K' hK'
    omega
  rw [hmx]
theorem b1_turn {m : Nat} {v : List Int} {scr k z : D} {src : List D} {w8 : Option D} (h1 : 1 ≤ m) (h5 : m ≤ 5) (hv : Kind v) (hvm : v.length = m) : Wp (B1_law [some scr, some k, some z, some (.list src), some (.int m), some (tupD v), none, none, w8]) (Turn fun e => e = [some scr, some k, some z, some (.list src), some (.int m), none, none, none, w8]) := by
  have eC : C1_law [some scr, some k, some z, some (.list src), some (.int m), some (tupD v), none, none, w8] = some (.list (v.filterMap fun x => if x ≠ 0 then some (PyData.int x) else none)) := by
    unfold C1_law
    refine lcF_map PyData.int v (fun x => if x ≠ 0 then some (PyData.int x) else none) rfl (fun x _ => ?_)
    by_cases c : x = 0
    · simp [fSeq, fNext, sIf, sIfP, sAsg, sAsgP, sDrop, sPar, sPar3, sAug, sRet, sRetP, sRetO, sForget, sAsgF, sMut, sSetI, setAt, fIxO, fIxP, dAt, fFlat, gCallM, gPop, f2, g2, f1, fNil, fCons, gNilE, gConsE, fCall, gCall, fLst, fTup, gLstE, gTupE, fTest, gTest, fAnd, fOr, fNot, gAnd, gOr, gNot, fIf, gIf, fAndV, fOrV, fNotV, fChain, fRev, tgTup, tgCons, tgNil, up, asB, asL, asT, asI, asS, enumA, zipA, zipB, setE, Option.bind_some, Option.bind_none, Option.map_some, Option.map_none, owns, List.mapM_cons, List.mapM_nil, List.set_cons_zero, List.set_cons_succ, gv_0, gv_1, gv_2, gv_3, gv_4, gv_5, gv_6, gv_7, gv_8, gv_9, gv_10, gv_11, gv_12, gv_13, ev_pure, ev_bind, wipeE, dI0, resP, resM, resF, dCmp, dGt, dLt, dLe, dGe, ix30, ix31, ix32, List.length_cons, List.length_nil, Nat.zero_add, Nat.reduceAdd, List.set_cons_zero, Bool.true_eq_false, Bool.false_eq_true, if_true, if_false, ite_true, ite_false, decide_true, decide_false, dInt, sz0, sz1, sz2, sz3, sz4, sz5, sz6, sz7, dEq_nei, c]
    · simp [fSeq, fNext, sIf, sIfP, sAsg, sAsgP, sDrop, sPar, sPar3, sAug, sRet, sRetP, sRetO, sForget, sAsgF, sMut, sSetI, setAt, fIxO, fIxP, dAt, fFlat, gCallM, gPop, f2, g2, f1, fNil, fCons, gNilE, gConsE, fCall, gCall, fLst, fTup, gLstE, gTupE, fTest, gTest, fAnd, fOr, fNot, gAnd, gOr, gNot, fIf, gIf, fAndV, fOrV, fNotV, fChain, fRev, tgTup, tgCons, tgNil, up, asB, asL, asT, asI, asS, enumA, zipA, zipB, setE, Option.bind_some, Option.bind_none, Option.map_some, Option.map_none, owns, List.mapM_cons, List.mapM_nil, List.set_cons_zero, List.set_cons_succ, gv_0, gv_1, gv_2, gv_3, gv_4, gv_5, gv_6, gv_7, gv_8, gv_9, gv_10, gv_11, gv_12, gv_13, ev_pure, ev_bind, wipeE, dI0, resP, resM, resF, dCmp, dGt, dLt, dLe, dGe, ix30, ix31, ix32, List.length_cons, List.length_nil, Nat.zero_add, Nat.reduceAdd, List.set_cons_zero, Bool.true_eq_false, Bool.false_eq_true, if_true, if_false, ite_true, ite_false, decide_true, decide_false, dInt, sz0, sz1, sz2, sz3, sz4, sz5, sz6, sz7, dEq_nei, c]
  have eB := boxsize hv
  have hs5 : (supp v).length ≤ 5 := by
    unfold supp
    have := List.length_filter_le (fun i => decide (v.getD i 0 ≠ 0)) (List.range v.length)
    simp only [List.length_range] at this
    omega
  obtain ⟨c1, c2⟩ := clash_box h1 h5 hv hvm
  obtain ⟨hk, ho, h0, hl⟩ := boxOk h1 h5
  have eX := boxesP h1 h5 ho h0
  unfold B1_law
  have e1 : dRepr [.list [.int ((max 2 (1 + (supp v).length) : Nat) : Int), .int ((max 2 (1 + (supp v).length) : Nat) : Int)]] = some (.str (PyData.shown (.list [.int ((max 2 (1 + (supp v).length) : Nat) : Int), .int ((max 2 (1 + (supp v).length) : Nat) : Int)]))) := by
    have : shows (.list [.int ((max 2 (1 + (supp v).length) : Nat) : Int), .int ((max 2 (1 + (supp v).length) : Nat) : Int)]) = true := shows_ints (ns := [((max 2 (1 + (supp v).length) : Nat) : Int), ((max 2 (1 + (supp v).length) : Nat) : Int)]) (by simp) (fun n hn => by
      have hn : n = ((max 2 (1 + (supp v).length) : Nat) : Int) := by simpa using hn
      subst hn
      have h10 : 10 ≤ 10 ^ 100 := by decide
      omega)
    show (if shows _ = true then _ else none) = _
    rw [if_pos this]
  have eM := maxN (supp v).length
  generalize max 2 (1 + (supp v).length) = d at *
  refine wp_forget ?_
  refine wp_st [some scr, some k, some z, some (.list src), some (.int m), some (tupD v), some (.int (d : Nat)), none, w8] (by simp only [fSeq, fNext, sIf, sIfP, sAsg, sAsgP, sDrop, sPar, sPar3, sAug, sRet, sRetP, sRetO, sForget, sAsgF, sMut, sSetI, setAt, fIxO, fIxP, dAt, fFlat, gCallM, gPop, f2, g2, f1, fNil, fCons, gNilE, gConsE, fCall, gCall, fLst, fTup, gLstE, gTupE, fTest, gTest, fAnd, fOr, fNot, gAnd, gOr, gNot, fIf, gIf, fAndV, fOrV, fNotV, fChain, fRev, tgTup, tgCons, tgNil, up, asB, asL, asT, asI, asS, enumA, zipA, zipB, setE, Option.bind_some, Option.bind_none, Option.map_some, Option.map_none, owns, List.mapM_cons, List.mapM_nil, List.set_cons_zero, List.set_cons_succ, gv_0, gv_1, gv_2, gv_3, gv_4, gv_5, gv_6, gv_7, gv_8, gv_9, gv_10, gv_11, gv_12, gv_13, ev_pure, ev_bind, wipeE, dI0, resP, resM, resF, dCmp, dGt, dLt, dLe, dGe, ix30, ix31, ix32, List.length_cons, List.length_nil, Nat.zero_add, Nat.reduceAdd, List.set_cons_zero, Bool.true_eq_false, Bool.false_eq_true, if_true, if_false, ite_true, ite_false, decide_true, decide_false, dInt, sz0, sz1, sz2, sz3, sz4, sz5, sz6, sz7, eC, nz_len, dAdd_i, eM]) ?_
  refine wp_seq (wp_ifP false (by simp only [fSeq, fNext, sIf, sIfP, sAsg, sAsgP, sDrop, sPar, sPar3, sAug, sRet, sRetP, sRetO, sForget, sAsgF, sMut, sSetI, setAt, fIxO, fIxP, dAt, fFlat, gCallM, gPop, f2, g2, f1, fNil, fCons, gNilE, gConsE, fCall, gCall, fLst, fTup, gLstE, gTupE, fTest, gTest, fAnd, fOr, fNot, gAnd, gOr, gNot, fIf, gIf, fAndV, fOrV, fNotV, fChain, fRev, tgTup, tgCons, tgNil, up, asB, asL, asT, asI, asS, enumA, zipA, zipB, setE, Option.bind_some, Option.bind_none, Option.map_some, Option.map_none, owns, List.mapM_cons, List.mapM_nil, List.set_cons_zero, List.set_cons_succ, gv_0, gv_1, gv_2, gv_3, gv_4, gv_5, gv_6, gv_7, gv_8, gv_9, gv_10, gv_11, gv_12, gv_13, ev_pure, ev_bind, wipeE, dI0, resP, resM, resF, dCmp, dGt, dLt, dLe, dGe, ix30, ix31, ix32, List.length_cons, List.length_nil, Nat.zero_add, Nat.reduceAdd, List.set_cons_zero, Bool.true_eq_false, Bool.false_eq_true, if_true, if_false, ite_true, ite_false, decide_true, decide_false, dInt, sz0, sz1, sz2, sz3, sz4, sz5, sz6, sz7, eB, kw1, e1, dEq_str_same, Bool.not_true]) nofun fun _ => Wp.of (a := .nx [some scr, some k, some z, some (.list src), some (.int m), some (tupD v), some (.int (d : Nat)), none, w8]) rfl ?_)
  have ea : dAdd (.list ((sortL (upL m ++ downL m)).map tupD)) (.list [tupD v]) = some (.list ((sortL (upL m ++ downL m) ++ [v]).map tupD)) := by
    show (if _ ≤ sizeLine then some (PyData.list _) else none) = _
    rw [if_pos (by simp only [List.length_map, (sortL_perm _).length_eq, hl, List.length_cons, List.length_nil]; have := sizeL; omega), List.map_append]
    rfl
  refine wp_ifP false (by simp only [fSeq, fNext, sIf, sIfP, sAsg, sAsgP, sDrop, sPar, sPar3, sAug, sRet, sRetP, sRetO, sForget, sAsgF, sMut, sSetI, setAt, fIxO, fIxP, dAt, fFlat, gCallM, gPop, f2, g2, f1, fNil, fCons, gNilE, gConsE, fCall, gCall, fLst, fTup, gLstE, gTupE, fTest, gTest, fAnd, fOr, fNot, gAnd, gOr, gNot, fIf, gIf, fAndV, fOrV, fNotV, fChain, fRev, tgTup, tgCons, tgNil, up, asB, asL, asT, asI, asS, enumA, zipA, zipB, setE, Option.bind_some, Option.bind_none, Option.map_some, Option.map_none, owns, List.mapM_cons, List.mapM_nil, List.set_cons_zero, List.set_cons_succ, gv_0, gv_1, gv_2, gv_3, gv_4, gv_5, gv_6, gv_7, gv_8, gv_9, gv_10, gv_11, gv_12, gv_13, ev_pure, ev_bind, wipeE, dI0, resP, resM, resF, dCmp, dGt, dLt, dLe, dGe, ix30, ix31, ix32, List.length_cons, List.length_nil, Nat.zero_add, Nat.reduceAdd, List.set_cons_zero, Bool.true_eq_false, Bool.false_eq_true, if_true, if_false, ite_true, ite_false, decide_true, decide_false, dInt, sz0, sz1, sz2, sz3, sz4, sz5, sz6, sz7, eX, ea, c2, c1, dEq_nei, Bool.not_true]; split <;> rfl) nofun fun _ => Wp.of (a := .nx [some scr, some k, some z, some (.list src), some (.int m), some (tupD v), some (.int (d : Nat)), none, w8]) rfl ?_
  show wipeE _ _ = _
  rfl
end CSk21

namespace CSk21
open PySem CS
theorem sz8 {x0 x1 x2 x3 x4 x5 x6 x7 : D} : sized [x0, x1, x2, x3, x4, x5, x6, x7] = some [x0, x1, x2, x3, x4, x5, x6, x7] := sized_le (by show 8 ≤ sizeLine; decide)
theorem VecR.kind {m : Nat} {w : Int} {v : List Int} (h : VecR m w v) (hw : w ≤ 20) (h1 : 1 ≤ m) (h5 : m ≤ 5) : Kind v ∧ v.length = m := ⟨⟨by rw [h.1]; exact h1, by rw [h.1]; exact h5, fun x hx => by have := h.2.1 x hx; omega, h.2.2⟩, h.1⟩
theorem b2_turn {n m : Nat} {scr k z : D} {src : List D} {w8 : Option D} (h1 : 1 ≤ m) (h5 : m ≤ 5) (hs : Src n src) (hn : n < 2 ^ 30) : Wp (B2_law [some scr, some k, some z, some (.list src), some (.int m), none, none, none, w8]) (Turn fun e => ∃ src', e = [some scr, some k, some z, some (.list src'), none, none, none, none, w8] ∧ Src (n + 30) src') := by
  obtain ⟨v1, s1, t1, k1, l1, r1⟩ := thin hs (by omega) h1 h5
  obtain ⟨v2, s2, t2, hv2, r2⟩ := vector (w := 20) r1 (by omega) h1 h5 (by omega)
  obtain ⟨k2, l2⟩ := hv2.kind (by omega) h1 h5
  unfold B2_law
  refine wp_forget ?_
  refine wp_for tupD [v1, v2] (fun p e => e = [some scr, some k, some z, some (.list s2), some (.int m), none, none, none, w8]) (env1 := [some scr, some k, some z, some (.list s2), some (.int m), none, none, none, w8]) (by simp only [fSeq, fNext, sIf, sIfP, sAsg, sAsgP, sDrop, sPar, sPar3, sAug, sRet, sRetP, sRetO, sForget, sAsgF, sMut, sSetI, setAt, fIxO, fIxP, dAt, fFlat, gCallM, gPop, f2, g2, f1, fNil, fCons, gNilE, gConsE, fCall, gCall, fLst, fTup, gLstE, gTupE, fTest, gTest, fAnd, fOr, fNot, gAnd, gOr, gNot, fIf, gIf, fAndV, fOrV, fNotV, fChain, fRev, tgTup, tgCons, tgNil, up, asB, asL, asT, asI, asS, enumA, zipA, zipB, setE, Option.bind_some, Option.bind_none, Option.map_some, Option.map_none, owns, List.mapM_cons, List.mapM_nil, List.set_cons_zero, List.set_cons_succ, gv_0, gv_1, gv_2, gv_3, gv_4, gv_5, gv_6, gv_7, gv_8, gv_9, gv_10, gv_11, gv_12, gv_13, ev_pure, ev_bind, wipeE, dI0, resP, resM, resF, dCmp, dGt, dLt, dLe, dGe, ix30, ix31, ix32, List.length_cons, List.length_nil, Nat.zero_add, Nat.reduceAdd, List.set_cons_zero, Bool.true_eq_false, Bool.false_eq_true, if_true, if_false, ite_true, ite_false, decide_true, decide_false, dInt, sz0, sz1, sz2, sz3, sz4, sz5, sz6, sz7, t1, t2]; rfl) rfl ?_ ?_
  · rintro p x q e hx rfl
    have hm : x ∈ [v1, v2] := by rw [hx]; simp
    refine ⟨[some scr, some k, some z, some (.list s2), some (.int m), some (tupD x), none, none, w8], by simp only [fSeq, fNext, sIf, sIfP, sAsg, sAsgP, sDrop, sPar, sPar3, sAug, sRet, sRetP, sRetO, sForget, sAsgF, sMut, sSetI, setAt, fIxO, fIxP, dAt, fFlat, gCallM, gPop, f2, g2, f1, fNil, fCons, gNilE, gConsE, fCall, gCall, fLst, fTup, gLstE, gTupE, fTest, gTest, fAnd, fOr, fNot, gAnd, gOr, gNot, fIf, gIf, fAndV, fOrV, fNotV, fChain, fRev, tgTup, tgCons, tgNil, up, asB, asL, asT, asI, asS, enumA, zipA, zipB, setE, Option.bind_some, Option.bind_none, Option.map_some, Option.map_none, owns, List.mapM_cons, List.mapM_nil, List.set_cons_zero, List.set_cons_succ, gv_0, gv_1, gv_2, gv_3, gv_4, gv_5, gv_6, gv_7, gv_8, gv_9, gv_10, gv_11, gv_12, gv_13, ev_pure, ev_bind, wipeE, dI0, resP, resM, resF, dCmp, dGt, dLt, dLe, dGe, ix30, ix31, ix32, List.length_cons, List.length_nil, Nat.zero_add, Nat.reduceAdd, List.set_cons_zero, Bool.true_eq_false, Bool.false_eq_true, if_true, if_false, ite_true, ite_false, decide_true, decide_false, dInt, sz0, sz1, sz2, sz3, sz4, sz5, sz6, sz7], ?_⟩
    rcases List.mem_cons.mp hm with rfl | hm
    · exact b1_turn h1 h5 k1 l1
    · rw [List.mem_singleton.mp hm]
      exact b1_turn h1 h5 k2 l2
  · rintro e' rfl
    exact ⟨s2, rfl, r2.mono (by omega)⟩
theorem entry_turn {scr : D} {k : Nat} {z : Int} {w8 : Option D} (hk : k ≤ 63) : Wp (B3_law [some scr, some (.int (k : Nat)), some (.int z), none, none, none, none, none, w8]) (Turn fun e => e = [some scr, none, none, none, none, none, none, none, w8]) := by
  obtain ⟨src, d0, h0⟩ := source (z := z) (k := (k : Int)) (by omega) (by omega)
  unfold B3_law
  refine wp_forget ?_
  refine wp_st [some scr, some (.int (k : Nat)), some (.int z), some (.list src), none, none, none, none, w8] (by simp only [fSeq, fNext, sIf, sIfP, sAsg, sAsgP, sDrop, sPar, sPar3, sAug, sRet, sRetP, sRetO, sForget, sAsgF, sMut, sSetI, setAt, fIxO, fIxP, dAt, fFlat, gCallM, gPop, f2, g2, f1, fNil, fCons, gNilE, gConsE, fCall, gCall, fLst, fTup, gLstE, gTupE, fTest, gTest, fAnd, fOr, fNot, gAnd, gOr, gNot, fIf, gIf, fAndV, fOrV, fNotV, fChain, fRev, tgTup, tgCons, tgNil, up, asB, asL, asT, asI, asS, enumA, zipA, zipB, setE, Option.bind_some, Option.bind_none, Option.map_some, Option.map_none, owns, List.mapM_cons, List.mapM_nil, List.set_cons_zero, List.set_cons_succ, gv_0, gv_1, gv_2, gv_3, gv_4, gv_5, gv_6, gv_7, gv_8, gv_9, gv_10, gv_11, gv_12, gv_13, ev_pure, ev_bind, wipeE, dI0, resP, resM, resF, dCmp, dGt, dLt, dLe, dGe, ix30, ix31, ix32, List.length_cons, List.length_nil, Nat.zero_add, Nat.reduceAdd, List.set_cons_zero, Bool.true_eq_false, Bool.false_eq_true, if_true, if_false, ite_true, ite_false, decide_true, decide_false, dInt, sz0, sz1, sz2, sz3, sz4, sz5, sz6, sz7, d0, Nat.reduceLT]) ?_
  refine wp_for (fun i : Nat => PyData.int (i : Nat)) (List.range' 1 5) (fun p e => ∃ src', e = [some scr, some (.int (k : Nat)), some (.int z), some (.list src'), none, none, none, none, w8] ∧ Src (30 * p.length) src')
    (env1 := [some scr, some (.int (k : Nat)), some (.int z), some (.list src), none, none, none, none, w8]) (up_it (xs := [.int ((1 : Nat) : Int), .int ((6 : Nat) : Int)]) (by simp only [fSeq, fNext, sIf, sIfP, sAsg, sAsgP, sDrop, sPar, sPar3, sAug, sRet, sRetP, sRetO, sForget, sAsgF, sMut, sSetI, setAt, fIxO, fIxP, dAt, fFlat, gCallM, gPop, f2, g2, f1, fNil, fCons, gNilE, gConsE, fCall, gCall, fLst, fTup, gLstE, gTupE, fTest, gTest, fAnd, fOr, fNot, gAnd, gOr, gNot, fIf, gIf, fAndV, fOrV, fNotV, fChain, fRev, tgTup, tgCons, tgNil, up, asB, asL, asT, asI, asS, enumA, zipA, zipB, setE, Option.bind_some, Option.bind_none, Option.map_some, Option.map_none, owns, List.mapM_cons, List.mapM_nil, List.set_cons_zero, List.set_cons_succ, gv_0, gv_1, gv_2, gv_3, gv_4, gv_5, gv_6, gv_7, gv_8, gv_9, gv_10, gv_11, gv_12, gv_13, ev_pure, ev_bind, wipeE, dI0, resP, resM, resF, dCmp, dGt, dLt, dLe, dGe, ix30, ix31, ix32, List.length_cons, List.length_nil, Nat.zero_add, Nat.reduceAdd, List.set_cons_zero, Bool.true_eq_false, Bool.false_eq_true, if_true, if_false, ite_true, ite_false, decide_true, decide_false, dInt, sz0, sz1, sz2, sz3, sz4, sz5, sz6, sz7]; rfl) (rng2_n (i := 1) (j := 6) (by decide) (by decide))) ⟨src, rfl, h0⟩ ?_ ?_
  · rintro p x q e hx ⟨src', rfl, hs⟩
    have hm : x ∈ List.range' 1 5 := by rw [hx]; simp
    have hm := List.mem_range'_1.mp hm
    have hl : p.length < 5 := by have := congrArg List.length hx; simp at this; omega
    refine ⟨[some scr, some (.int (k : Nat)), some (.int z), some (.list src'), some (.int (x : Nat)), none, none, none, w8], by simp only [fSeq, fNext, sIf, sIfP, sAsg, sAsgP, sDrop, sPar, sPar3, sAug, sRet, sRetP, sRetO, sForget, sAsgF, sMut, sSetI, setAt, fIxO, fIxP, dAt, fFlat, gCallM, gPop, f2, g2, f1, fNil, fCons, gNilE, gConsE, fCall, gCall, fLst, fTup, gLstE, gTupE, fTest, gTest, fAnd, fOr, fNot, gAnd, gOr, gNot, fIf, gIf, fAndV, fOrV, fNotV, fChain, fRev, tgTup, tgCons, tgNil, up, asB, asL, asT, asI, asS, enumA, zipA, zipB, setE, Option.bind_some, Option.bind_none, Option.map_some, Option.map_none, owns, List.mapM_cons, List.mapM_nil, List.set_cons_zero, List.set_cons_succ, gv_0, gv_1, gv_2, gv_3, gv_4, gv_5, gv_6, gv_7, gv_8, gv_9, gv_10, gv_11, gv_12, gv_13, ev_pure, ev_bind, wipeE, dI0, resP, resM, resF, dCmp, dGt, dLt, dLe, dGe, ix30, ix31, ix32, List.length_cons, List.length_nil, Nat.zero_add, Nat.reduceAdd, List.set_cons_zero, Bool.true_eq_false, Bool.false_eq_true, if_true, if_false, ite_true, ite_false, decide_true, decide_false, dInt, sz0, sz1, sz2, sz3, sz4, sz5, sz6, sz7], (b2_turn hm.1 (by omega) hs (by omega)).imp ?_⟩
    intro o ho
    cases o with
    | nx e => obtain ⟨s2, a, b⟩ := ho; exact ⟨s2, a, b.mono (by simp; omega)⟩
    | ct e => obtain ⟨s2, a, b⟩ := ho; exact ⟨s2, a, b.mono (by simp; omega)⟩
    | rt _ _ => exact ho.elim
    | bk _ => exact ho.elim
  · rintro e' ⟨src', rfl, _⟩
    rfl
theorem g_law_true (ns : List Int) (hl : ns.length ≤ 63) (hb : ∀ z ∈ ns, Builtin.Int.intBits z ≤ 1048576) : g_law [.dict [(.none, .list (ns.map PyData.int))]] = some (.bool true) := by
  refine wp_get (F := F_law) (env := [some (.dict [(.none, .list (ns.map PyData.int))]), none, none, none, none, none, none, none, none]) (by rw [g_law_eq]; rfl) ?_
  unfold F_law
  obtain ⟨h, hh, hle⟩ : ∃ h : Nat, (if (if (8 : Int) < (ns.length : Int) then (8 : Int) else (ns.length : Int)) > 1 then (if (8 : Int) < (ns.length : Int) then (8 : Int) else (ns.length : Int)) else 1) = (h : Int) ∧ h ≤ ns.length + 1 ∧ h ≤ 8 := by
    refine ⟨(if (if (8 : Int) < (ns.length : Int) then (8 : Int) else (ns.length : Int)) > 1 then (if (8 : Int) < (ns.length : Int) then (8 : Int) else (ns.length : Int)) else 1).toNat, ?_, ?_, ?_⟩ <;> (repeat' split) <;> omega
  have eadd : dAdd (.dict [(.none, .list (ns.map PyData.int))]) (.list [.int 0]) = some (.list ((ns ++ [0]).map PyData.int)) := by
    show (if (ns.map PyData.int).length + [PyData.int 0].length ≤ sizeLine then some (PyData.list (ns.map PyData.int ++ [.int 0])) else none) = _
    rw [if_pos (by rw [List.length_map]; have := sizeL; simp; omega), List.map_append]
    rfl
  have esl : dSl none (some (h : Int)) (.list ((ns ++ [0]).map PyData.int)) = some (.list (((ns ++ [0]).take h).map PyData.int)) := by
    show some (PyData.list (cutD _ none (some (h : Int)))) = _
    rw [cutD_to (by simp; omega), List.map_take]
  refine wp_seq (wp_for (fun p : Int × Nat => PyData.tuple [.int (p.2 : Nat), .int p.1]) ((ns ++ [0]).take h).zipIdx (fun p e => e = [some (.dict [(.none, .list (ns.map PyData.int))]), none, none, none, none, none, none, none, none])
    (env1 := [some (.dict [(.none, .list (ns.map PyData.int))]), none, none, none, none, none, none, none, none]) ?_ rfl ?_ ?_)
  · simp only [fSeq, fNext, sIf, sIfP, sAsg, sAsgP, sDrop, sPar, sPar3, sAug, sRet, sRetP, sRetO, sForget, sAsgF, sMut, sSetI, setAt, fIxO, fIxP, dAt, fFlat, gCallM, gPop, f2, g2, f1, fNil, fCons, gNilE, gConsE, fCall, gCall, fLst, fTup, gLstE, gTupE, fTest, gTest, fAnd, fOr, fNot, gAnd, gOr, gNot, fIf, gIf, fAndV, fOrV, fNotV, fChain, fRev, tgTup, tgCons, tgNil, up, asB, asL, asT, asI, asS, enumA, zipA, zipB, setE, Option.bind_some, Option.bind_none, Option.map_some, Option.map_none, owns, List.mapM_cons, List.mapM_nil, List.set_cons_zero, List.set_cons_succ, gv_0, gv_1, gv_2, gv_3, gv_4, gv_5, gv_6, gv_7, gv_8, gv_9, gv_10, gv_11, gv_12, gv_13, ev_pure, ev_bind, wipeE, dI0, resP, resM, resF, dCmp, dGt, dLt, dLe, dGe, ix30, ix31, ix32, List.length_cons, List.length_nil, Nat.zero_add, Nat.reduceAdd, List.set_cons_zero, Bool.true_eq_false, Bool.false_eq_true, if_true, if_false, ite_true, ite_false, decide_true, decide_false, dInt, sz0, sz1, sz2, sz3, sz4, sz5, sz6, sz7, fSl, eadd, dLen, List.length_map, dMin2, dMax2, hh, esl, enumD_map]
  · rintro p x q e hx rfl
    refine ⟨[some (.dict [(.none, .list (ns.map PyData.int))]), some (.int (x.2 : Nat)), some (.int x.1), none, none, none, none, none, none], by simp only [fSeq, fNext, sIf, sIfP, sAsg, sAsgP, sDrop, sPar, sPar3, sAug, sRet, sRetP, sRetO, sForget, sAsgF, sMut, sSetI, setAt, fIxO, fIxP, dAt, fFlat, gCallM, gPop, f2, g2, f1, fNil, fCons, gNilE, gConsE, fCall, gCall, fLst, fTup, gLstE, gTupE, fTest, gTest, fAnd, fOr, fNot, gAnd, gOr, gNot, fIf, gIf, fAndV, fOrV, fNotV, fChain, fRev, tgTup, tgCons, tgNil, up, asB, asL, asT, asI, asS, enumA, zipA, zipB, setE, Option.bind_some, Option.bind_none, Option.map_some, Option.map_none, owns, List.mapM_cons, List.mapM_nil, List.set_cons_zero, List.set_cons_succ, gv_0, gv_1, gv_2, gv_3, gv_4, gv_5, gv_6, gv_7, gv_8, gv_9, gv_10, gv_11, gv_12, gv_13, ev_pure, ev_bind, wipeE, dI0, resP, resM, resF, dCmp, dGt, dLt, dLe, dGe, ix30, ix31, ix32, List.length_cons, List.length_nil, Nat.zero_add, Nat.reduceAdd, List.set_cons_zero, Bool.true_eq_false, Bool.false_eq_true, if_true, if_false, ite_true, ite_false, decide_true, decide_false, dInt, sz0, sz1, sz2, sz3, sz4, sz5, sz6, sz7], ?_⟩
    obtain ⟨h1, _, h3⟩ := zipIdx_cut hx
    have : p.length < h := by rw [List.length_take] at h3; omega
    exact entry_turn (by omega)
  rintro e' rfl
  have hks : ∀ v ∈ ([[1, 0, -2], [1], [-1], [0, 1], [20, -19], [1, 1, 1, 1, 1], [0, 0, 0, 0, -1], [3, 0, 0, 0, 4]] : List (List Int)), Kind v := by
    have : ([[1, 0, -2], [1], [-1], [0, 1], [20, -19], [1, 1, 1, 1, 1], [0, 0, 0, 0, -1], [3, 0, 0, 0, 4]] : List (List Int)).all (fun v => kindB v v.length) = true := by decide +kernel
    exact fun v hv => (kindB_ok (List.all_eq_true.mp this v hv)).1
  have en : ∀ i : Int, dNeg (.int i) = some (.int (-i)) := fun i => rfl
  refine wp_st [some (.dict [(.none, .list (ns.map PyData.int))]), none, none, none, none, none, none, none, some (.list (([[1, 0, -2], [1], [-1], [0, 1], [20, -19], [1, 1, 1, 1, 1], [0, 0, 0, 0, -1], [3, 0, 0, 0, 4]] : List (List Int)).map tupD))] (by simp only [fSeq, fNext, sIf, sIfP, sAsg, sAsgP, sDrop, sPar, sPar3, sAug, sRet, sRetP, sRetO, sForget, sAsgF, sMut, sSetI, setAt, fIxO, fIxP, dAt, fFlat, gCallM, gPop, f2, g2, f1, fNil, fCons, gNilE, gConsE, fCall, gCall, fLst, fTup, gLstE, gTupE, fTest, gTest, fAnd, fOr, fNot, gAnd, gOr, gNot, fIf, gIf, fAndV, fOrV, fNotV, fChain, fRev, tgTup, tgCons, tgNil, up, asB, asL, asT, asI, asS, enumA, zipA, zipB, setE, Option.bind_some, Option.bind_none, Option.map_some, Option.map_none, owns, List.mapM_cons, List.mapM_nil, List.set_cons_zero, List.set_cons_succ, gv_0, gv_1, gv_2, gv_3, gv_4, gv_5, gv_6, gv_7, gv_8, gv_9, gv_10, gv_11, gv_12, gv_13, ev_pure, ev_bind, wipeE, dI0, resP, resM, resF, dCmp, dGt, dLt, dLe, dGe, ix30, ix31, ix32, List.length_cons, List.length_nil, Nat.zero_add, Nat.reduceAdd, List.set_cons_zero, Bool.true_eq_false, Bool.false_eq_true, if_true, if_false, ite_true, ite_false, decide_true, decide_false, dInt, sz0, sz1, sz2, sz3, sz4, sz5, sz6, sz7, en, sz8]; rfl) ?_
  have eC : C2_law [some (.dict [(.none, .list (ns.map PyData.int))]), none, none, none, none, none, none, none, some (.list (([[1, 0, -2], [1], [-1], [0, 1], [20, -19], [1, 1, 1, 1, 1], [0, 0, 0, 0, -1], [3, 0, 0, 0, 4]] : List (List Int)).map tupD))] = some (intsD [3, 2, 2, 2, 3, 6, 2, 3]) := by
    unfold C2_law
    have e := lcF_map (vs := [5]) (Fi := fun env => ((gv 8) env).bind asS) (Gt := fun d env => some (setE 5 d env)) (Ft := fun _ => some true) (Fe := fCall g_box_size (fCons (gv 5) fNil)) (env := [some (.dict [(.none, .list (ns.map PyData.int))]), none, none, none, none, none, none, none, some (.list (([[1, 0, -2], [1], [-1], [0, 1], [20, -19], [1, 1, 1, 1, 1], [0, 0, 0, 0, -1], [3, 0, 0, 0, 4]] : List (List Int)).map tupD))]) tupD ([[1, 0, -2], [1], [-1], [0, 1], [20, -19], [1, 1, 1, 1, 1], [0, 0, 0, 0, -1], [3, 0, 0, 0, 4]] : List (List Int)) (fun v => some (.int ((max 2 (1 + (supp v).length) : Nat) : Int))) (by simp only [fSeq, fNext, sIf, sIfP, sAsg, sAsgP, sDrop, sPar, sPar3, sAug, sRet, sRetP, sRetO, sForget, sAsgF, sMut, sSetI, setAt, fIxO, fIxP, dAt, fFlat, gCallM, gPop, f2, g2, f1, fNil, fCons, gNilE, gConsE, fCall, gCall, fLst, fTup, gLstE, gTupE, fTest, gTest, fAnd, fOr, fNot, gAnd, gOr, gNot, fIf, gIf, fAndV, fOrV, fNotV, fChain, fRev, tgTup, tgCons, tgNil, up, asB, asL, asT, asI, asS, enumA, zipA, zipB, setE, Option.bind_some, Option.bind_none, Option.map_some, Option.map_none, owns, List.mapM_cons, List.mapM_nil, List.set_cons_zero, List.set_cons_succ, gv_0, gv_1, gv_2, gv_3, gv_4, gv_5, gv_6, gv_7, gv_8, gv_9, gv_10, gv_11, gv_12, gv_13, ev_pure, ev_bind, wipeE, dI0, resP, resM, resF, dCmp, dGt, dLt, dLe, dGe, ix30, ix31, ix32, List.length_cons, List.length_nil, Nat.zero_add, Nat.reduceAdd, List.set_cons_zero, Bool.true_eq_false, Bool.false_eq_true, if_true, if_false, ite_true, ite_false, decide_true, decide_false, dInt, sz0, sz1, sz2, sz3, sz4, sz5, sz6, sz7]) (fun v hv => by simp only [fSeq, fNext, sIf, sIfP, sAsg, sAsgP, sDrop, sPar, sPar3, sAug, sRet, sRetP, sRetO, sForget, sAsgF, sMut, sSetI, setAt, fIxO, fIxP, dAt, fFlat, gCallM, gPop, f2, g2, f1, fNil, fCons, gNilE, gConsE, fCall, gCall, fLst, fTup, gLstE, gTupE, fTest, gTest, fAnd, fOr, fNot, gAnd, gOr, gNot, fIf, gIf, fAndV, fOrV, fNotV, fChain, fRev, tgTup, tgCons, tgNil, up, asB, asL, asT, asI, asS, enumA, zipA, zipB, setE, Option.bind_some, Option.bind_none, Option.map_some, Option.map_none, owns, List.mapM_cons, List.mapM_nil, List.set_cons_zero, List.set_cons_succ, gv_0, gv_1, gv_2, gv_3, gv_4, gv_5, gv_6, gv_7, gv_8, gv_9, gv_10, gv_11, gv_12, gv_13, ev_pure, ev_bind, wipeE, dI0, resP, resM, resF, dCmp, dGt, dLt, dLe, dGe, ix30, ix31, ix32, List.length_cons, List.length_nil, Nat.zero_add, Nat.reduceAdd, List.set_cons_zero, Bool.true_eq_false, Bool.false_eq_true, if_true, if_false, ite_true, ite_false, decide_true, decide_false, dInt, sz0, sz1, sz2, sz3, sz4, sz5, sz6, sz7, boxsize (hks v hv)])
    rw [e, fmI, show (([[1, 0, -2], [1], [-1], [0, 1], [20, -19], [1, 1, 1, 1, 1], [0, 0, 0, 0, -1], [3, 0, 0, 0, 4]] : List (List Int)).map fun v => ((max 2 (1 + (supp v).length) : Nat) : Int)) = [3, 2, 2, 2, 3, 6, 2, 3] by decide +kernel]
  have ed := dEq_same (neg := false) (a := intsD [3, 2, 2, 2, 3, 6, 2, 3]) (shaped_ints _)
  have ed : dEq false (intsD [3, 2, 2, 2, 3, 6, 2, 3]) (.list [.int 3, .int 2, .int 2, .int 2, .int 3, .int 6, .int 2, .int 3]) = some (.bool true) := ed
  exact Wp.of (a := .rt (.bool true) []) (by simp only [fSeq, fNext, sIf, sIfP, sAsg, sAsgP, sDrop, sPar, sPar3, sAug, sRet, sRetP, sRetO, sForget, sAsgF, sMut, sSetI, setAt, fIxO, fIxP, dAt, fFlat, gCallM, gPop, f2, g2, f1, fNil, fCons, gNilE, gConsE, fCall, gCall, fLst, fTup, gLstE, gTupE, fTest, gTest, fAnd, fOr, fNot, gAnd, gOr, gNot, fIf, gIf, fAndV, fOrV, fNotV, fChain, fRev, tgTup, tgCons, tgNil, up, asB, asL, asT, asI, asS, enumA, zipA, zipB, setE, Option.bind_some, Option.bind_none, Option.map_some, Option.map_none, owns, List.mapM_cons, List.mapM_nil, List.set_cons_zero, List.set_cons_succ, gv_0, gv_1, gv_2, gv_3, gv_4, gv_5, gv_6, gv_7, gv_8, gv_9, gv_10, gv_11, gv_12, gv_13, ev_pure, ev_bind, wipeE, dI0, resP, resM, resF, dCmp, dGt, dLt, dLe, dGe, ix30, ix31, ix32, List.length_cons, List.length_nil, Nat.zero_add, Nat.reduceAdd, List.set_cons_zero, Bool.true_eq_false, Bool.false_eq_true, if_true, if_false, ite_true, ite_false, decide_true, decide_false, dInt, sz0, sz1, sz2, sz3, sz4, sz5, sz6, sz7, eC, sz8, ed]) rfl
end CSk21

open PySem PySem.W PyProof.Rows
set_option maxHeartbeats 0 in
theorem PySem.Challenge.cw_clashsize_k21_boxes_and_one_kind_more_holds : PySem.Challenge.rw_clashsize_k21_boxes_and_one_kind_more.Holds := by
  w_on; o_law; k_head; (case hw => w_witness2)
  k_fill
  refine CS.walk_ofG (l := PySem.Challenge.rw_clashsize_k21_boxes_and_one_kind_more) (n := 63) (k := 16) (x := "script") (CX := fun _ => L2.CX0) (sp := fun w => CS.spP _ CSk21.g_law) rfl (by decide) rfl ⟨rfl, by decide, by decide⟩ (fun w h Y => PySem.W.kIn_of Y) ?F (fun w H a ns hl hb hz hS => CS.law_end (CSk21.g_law_true ns hl hb) hz hS) (fun _ _ _ _ _ h => h)
  case F =>
    intro w mg fa h KX G hmg
    refine' CSk21.all_mk KX G hmg ?a0 ?l0 ?c0 ?k0 ?a1 ?l1 ?c1 ?k1 ?a2 ?l2 ?c2 ?k2 ?a3 ?l3 ?c3 ?k3 ?a4 ?l4 ?c4 ?k4 ?a5 ?l5 ?c5 ?k5 ?a6 ?l6 ?c6 ?k6 ?a7 ?l7 ?c7 ?k7 ?a8 ?l8 ?c8 ?k8 ?a9 ?l9 ?c9 ?k9 ?a10 ?l10 ?c10 ?k10 ?a11 ?l11 ?c11 ?k11 ?a12 ?l12 ?c12 ?k12 ?a13 ?l13 ?c13 ?k13 ?a14 ?l14 ?c14 ?k14 ?a15 ?l15 ?c15 ?k15 ?a16 ?l16 ?c16 ?k16 ?a17 ?l17 ?c17 ?k17 ?a18 ?l18 ?c18 ?k18 ?a19 ?l19 ?c19 ?k19 ?a20 ?l20 ?c20 ?k20 ?a21 ?l21 ?c21 ?k21 ?a22 ?l22 ?c22 ?k22 ?a23 ?l23 ?c23 ?k23 ?a24 ?l24 ?c24 ?k24 ?z0 ?z1 ?z2 ?z3 ?z4 ?z5 ?z6 ?z7 ?z8 ?z9 ?z10 ?z11 ?z12 ?z13 ?z14 ?z15 ?z16 ?cst0 ?cst1 ?cst2
    (case a0 => k_is); (case l0 => k_is); (case c0 => k_is); (case k0 => k_is); (case a1 => k_is); (case l1 => k_is); (case c1 => k_is); (case k1 => k_is); (case a2 => k_is); (case l2 => k_is); (case c2 => k_is); (case k2 => k_is); (case a3 => k_is); (case l3 => k_is); (case c3 => k_is); (case k3 => k_is); (case a4 => k_is); (case l4 => k_is); (case c4 => k_is); (case k4 => k_is); (case a5 => k_is); (case l5 => k_is); (case c5 => k_is); (case k5 => k_is); (case a6 => k_is); (case l6 => k_is); (case c6 => k_is); (case k6 => k_is); (case a7 => k_is); (case l7 => k_is); (case c7 => k_is); (case k7 => k_is); (case a8 => k_is); (case l8 => k_is); (case c8 => k_is); (case k8 => k_is); (case a9 => k_is); (case l9 => k_is); (case c9 => k_is); (case k9 => k_is); (case a10 => k_is); (case l10 => k_is); (case c10 => k_is); (case k10 => k_is); (case a11 => k_is); (case l11 => k_is); (case c11 => k_is); (case k11 => k_is); (case a12 => k_is); (case l12 => k_is); (case c12 => k_is); (case k12 => k_is); (case a13 => k_is); (case l13 => k_is); (case c13 => k_is); (case k13 => k_is); (case a14 => k_is); (case l14 => k_is); (case c14 => k_is); (case k14 => k_is); (case a15 => k_is); (case l15 => k_is); (case c15 => k_is); (case k15 => k_is); (case a16 => k_is); (case l16 => k_is); (case c16 => k_is); (case k16 => k_is); (case a17 => k_is); (case l17 => k_is); (case c17 => k_is); (case k17 => k_is); (case a18 => k_is); (case l18 => k_is); (case c18 => k_is); (case k18 => k_is); (case a19 => k_is); (case l19 => k_is); (case c19 => k_is); (case k19 => k_is); (case a20 => k_is); (case l20 => k_is); (case c20 => k_is); (case k20 => k_is); (case a21 => k_is); (case l21 => k_is); (case c21 => k_is); (case k21 => k_is); (case a22 => k_is); (case l22 => k_is); (case c22 => k_is); (case k22 => k_is); (case a23 => k_is); (case l23 => k_is); (case c23 => k_is); (case k23 => k_is); (case a24 => k_is); (case l24 => k_is); (case c24 => k_is); (case k24 => k_is); (case z0 => k_is); (case z1 => k_is); (case z2 => k_is); (case z3 => k_is); (case z4 => k_is); (case z5 => k_is); (case z6 => k_is); (case z7 => k_is); (case z8 => k_is); (case z9 => k_is); (case z10 => k_is); (case z11 => k_is); (case z12 => k_is); (case z13 => k_is); (case z14 => k_is); (case z15 => k_is); (case z16 => k_is); (case cst0 => k_is); (case cst1 => k_is); (case cst2 => k_is)
