import PyProof.Rows.All
import Wide.All
import OpenK.AllK
import Wide.FinOn
import HandS.ForMost
import HandS.Exc
import HandS.ExcOwn
import HandS.TryOnly
import HandS.WordsExc
import HandS.Wide
import HandS.IsInst
import HandS.Walk
import HandS.Zip
import HandS.Evl
import HandS.TupAny
import HandS.TupMul
import HandS.Head0
import HandS.Head1
import HandS.Head2
import HandS.HeadEnd
import HandS.HeadHook1
import PyProof.ReprBulk
import KE.KTupSum
import HandS.Deep
import HandS.Conv
import HandS.Style
import PySem.Challenge.RW_prizelog_k47_whole_purses
set_option Elab.async false
set_option linter.all false
set_option maxRecDepth 100000
set_option maxHeartbeats 4000000
/-! The data layer: programs read as functions of plain data. A name holds nothing, a datum, or a list cell of its own. -/
namespace DL
open PySem PySem.Spec PyProof.Rows L2
open Evl (Ex)

/-- a list that stays as it is: tracked, known, or written at the top -/
def RdL (K : PySem.W.Frag) (F : Hp) (a : Addr) (xs : List V) : Prop :=
  Rd F a (.lst xs) ∨ ∃ (its : List Value) (n : Nat), K.lookup a = some { cls := .type "list", data := .seq its.toArray n } ∧ Vals xs its ∧ its.length ≤ sizeLine
theorem RdL.mono {K : PySem.W.Frag} {F F' : Hp} {a : Addr} {xs : List V} (e : Ex F F') (h : RdL K F a xs) : RdL K F' a xs := h.imp (Evl.ex_rd e) id
theorem RdL.of {K : PySem.W.Frag} {F : Hp} {a : Addr} {xs : List V} (h : F a = some (.lst xs)) : RdL K F a xs := .inl (.inl h)
theorem RdL.sq {K : PySem.W.Frag} {F : Hp} {a : Addr} {xs : List V} (h : RdL K F a xs) : SqL K F a xs := by
  rcases h with h | ⟨its, n, h1, h2, h3⟩
  · exact .inl h
  · exact .inr ⟨_, its.toArray, n, h1, rfl, rfl, rfl, by simpa using h3, by simpa using h2⟩
theorem RdL.obj {X : Cx} {pins : List (Addr × Obj)} {σ : L2.St} {H : Hp} {s : Shared} {a : Addr} {xs : List V} (h : RdL X.K H a xs) (I : Inv X pins σ H s) : xs.length ≤ sizeLine ∧ ∃ (its : List Value) (n : Nat), Vals xs its ∧ s.heap.get? a = some { cls := .type "list", data := .seq its.toArray n } := by
  rcases h with h | ⟨its, n, h1, h2, h3⟩
  · exact h.ok I.hok
  · exact ⟨by rw [h2.length]; exact h3, its, n, h2, I.kIn a _ h1⟩
mutual
inductive DR (K : PySem.W.Frag) (F : Hp) : V → PyData → Prop
  | non : DR K F .non .none
  | bl (b : Bool) : DR K F (.bl b) (.bool b)
  | int (i : Int) : DR K F (.int i) (.int i)
  | str (x : Str) : DR K F (.str x) (.str x)
  | lst {a : Addr} {xs : List V} {ds : List PyData} : RdL K F a xs → DRs K F xs ds → DR K F (.ref a) (.list ds)
  | tup {a : Addr} {xs : List V} {ds : List PyData} : SqT K F a xs → DRs K F xs ds → DR K F (.ref a) (.tuple ds)
  | dct {a : Addr} {kvs : List (Key × V)} {ds : List (PyData × PyData)} : F a = some (.dK kvs) → DRs K F (kvs.map fun p => kV p.1) (ds.map (·.1)) →
      DRs K F (kvs.map (·.2)) (ds.map (·.2)) → DR K F (.ref a) (.dict ds)
inductive DRs (K : PySem.W.Frag) (F : Hp) : List V → List PyData → Prop
  | nil : DRs K F [] []
  | cons {v : V} {vs : List V} {d : PyData} {ds : List PyData} : DR K F v d → DRs K F vs ds → DRs K F (v :: vs) (d :: ds)
end

section
variable {K : PySem.W.Frag} {F F' H H' : Hp}
mutual
theorem DR.mono (e : Ex F F') : ∀ {v : V} {d : PyData}, DR K F v d → DR K F' v d
  | _, _, .non => .non
  | _, _, .bl b => .bl b
  | _, _, .int i => .int i
  | _, _, .str x => .str x
  | _, _, .lst h r => .lst (h.mono e) (DRs.mono e r)
  | _, _, .tup h r => .tup (Evl.ex_t e h) (DRs.mono e r)
  | _, _, .dct h r q => .dct (e _ _ h) (DRs.mono e r) (DRs.mono e q)
theorem DRs.mono (e : Ex F F') : ∀ {v : List V} {d : List PyData}, DRs K F v d → DRs K F' v d
  | _, _, .nil => .nil
  | _, _, .cons a b => .cons (DR.mono e a) (DRs.mono e b)
end
theorem DRs.length : ∀ {vs : List V} {ds : List PyData}, DRs K F vs ds → vs.length = ds.length
  | _, _, .nil => rfl
  | _, _, .cons _ b => congrArg (· + 1) b.length
theorem DRs.get : ∀ {vs : List V} {ds : List PyData} {i : Nat} {d : PyData}, DRs K F vs ds → ds[i]? = some d → ∃ v, vs[i]? = some v ∧ DR K F v d
  | _, _, _, _, .nil, h => by simp at h
  | _, _, 0, _, .cons a b, h => by simp at h; subst h; exact ⟨_, rfl, a⟩
  | _, _, i + 1, d, .cons a b, h => by
    obtain ⟨v, h1, h2⟩ := b.get (i := i) (d := d) (by simpa using h)
    exact ⟨v, by simpa using h1, h2⟩
theorem DRs.append : ∀ {vs ws : List V} {ds es : List PyData}, DRs K F vs ds → DRs K F ws es → DRs K F (vs ++ ws) (ds ++ es)
  | _, _, _, _, .nil, h => h
  | _, _, _, _, .cons a b, h => .cons a (b.append h)
theorem DRs.take : ∀ {vs : List V} {ds : List PyData} (n : Nat), DRs K F vs ds → DRs K F (vs.take n) (ds.take n)
  | _, _, 0, _ => .nil
  | _, _, _ + 1, .nil => .nil
  | _, _, n + 1, .cons a b => .cons a (b.take n)
theorem DRs.drop : ∀ {vs : List V} {ds : List PyData} (n : Nat), DRs K F vs ds → DRs K F (vs.drop n) (ds.drop n)
  | _, _, 0, h => h
  | _, _, _ + 1, .nil => .nil
  | _, _, n + 1, .cons a b => b.drop n
theorem DRs.set : ∀ {vs : List V} {ds : List PyData} (n : Nat) {v : V} {d : PyData}, DR K F v d → DRs K F vs ds → DRs K F (vs.set n v) (ds.set n d)
  | _, _, _, _, _, _, .nil => .nil
  | _, _, 0, _, _, h, .cons a b => .cons h b
  | _, _, n + 1, _, _, h, .cons a b => .cons a (b.set n h)
theorem DRs.one {v : V} {d : PyData} (h : DR K F v d) : DRs K F [v] [d] := .cons h .nil
theorem DRs.inv_nil {vs : List V} (h : DRs K F vs []) : vs = [] := by cases h; rfl
theorem DRs.inv1 {vs : List V} {d : PyData} (h : DRs K F vs [d]) : ∃ v, vs = [v] ∧ DR K F v d := by
  cases h with
  | cons a b => cases b; exact ⟨_, rfl, a⟩
theorem DRs.inv2 {vs : List V} {d e : PyData} (h : DRs K F vs [d, e]) : ∃ v w, vs = [v, w] ∧ DR K F v d ∧ DR K F w e := by
  cases h with
  | cons a b =>
    obtain ⟨w, rfl, r⟩ := b.inv1
    exact ⟨_, w, rfl, a, r⟩
theorem DR.inv_int {v : V} {i : Int} (h : DR K F v (.int i)) : v = .int i := by cases h; rfl
theorem DR.inv_bool {v : V} {i : Bool} (h : DR K F v (.bool i)) : v = .bl i := by cases h; rfl
theorem DR.inv_str {v : V} {i : Str} (h : DR K F v (.str i)) : v = .str i := by cases h; rfl
theorem DR.inv_none {v : V} (h : DR K F v .none) : v = .non := by cases h; rfl
theorem DR.inv_tup {v : V} {ds : List PyData} (h : DR K F v (.tuple ds)) : ∃ a xs, v = .ref a ∧ SqT K F a xs ∧ DRs K F xs ds := by cases h with | tup a b => exact ⟨_, _, rfl, a, b⟩
theorem DR.inv_lst {v : V} {ds : List PyData} (h : DR K F v (.list ds)) : ∃ a xs, v = .ref a ∧ RdL K F a xs ∧ DRs K F xs ds := by cases h with | lst a b => exact ⟨_, _, rfl, a, b⟩
end

/-! ### what a name holds -/
inductive SD where
  | un
  | dat (d : PyData)
  | cel (p : Bool) (xs : List PyData)

structure Gx where
  F0 : Hp
  H0 : Hp
  A0 : Nat → Option Addr
  Pr : Hp

structure Ok (K : PySem.W.Frag) (g : Gx) (F : Hp) (env : List SD) (σ : L2.St) (H : Hp) : Prop where
  len : env.length = σ.length
  fh : Ex F H
  dat : ∀ (i : Nat) (d : PyData), env[i]? = some (.dat d) → ∃ v, σ[i]? = some (some v) ∧ DR K F v d
  cel : ∀ (i : Nat) (p : Bool) (xs : List PyData), env[i]? = some (.cel p xs) → ∃ a vs, σ[i]? = some (some (.ref a)) ∧ F a = none ∧ H a = some (.lst vs) ∧ DRs K F vs xs ∧ (p = true → g.A0 i = some a) ∧ (p = false → g.H0 a = none)
  sep : ∀ (i j : Nat) (p q : Bool) (xs ys : List PyData) (a : Addr), env[i]? = some (.cel p xs) → env[j]? = some (.cel q ys) → σ[i]? = some (some (.ref a)) → σ[j]? = some (some (.ref a)) → i = j
  pin : ∀ (i : Nat) (a : Addr), g.A0 i = some a → ∃ xs, env[i]? = some (.cel true xs)
  frame : ∀ (a : Addr) (o : HO), g.H0 a = some o → (∀ i, g.A0 i ≠ some a) → H a = some o
  newF : ∀ (a : Addr) (o : HO), F a = some o → g.F0 a = some o ∨ g.H0 a = none
  oldF : Ex g.F0 F
  prot : ∀ (a : Addr) (o : HO), g.Pr a = some o → H a = some o ∧ F a = none ∧ ∀ (j : Nat) (p : Bool) (ys : List PyData), env[j]? = some (.cel p ys) → σ[j]? ≠ some (some (.ref a))

section
variable {K : PySem.W.Frag} {g : Gx} {F F' : Hp} {env : List SD} {σ : L2.St} {H : Hp}

theorem Ok.fresh0 (k : Ok K g F env σ H) {p : Addr} (h : H p = none) : g.H0 p = none := by
  cases e : g.H0 p with
  | none => rfl
  | some o =>
    by_cases q : ∃ i, g.A0 i = some p
    · obtain ⟨i, hi⟩ := q
      obtain ⟨xs, hx⟩ := k.pin i p hi
      obtain ⟨a, vs, _, _, h2, _, h3, _⟩ := k.cel i true xs hx
      have h3 := h3 rfl
      rw [hi] at h3
      cases h3
      rw [h] at h2
      cases h2
    · have z := k.frame p o e fun i hi => q ⟨i, hi⟩
      rw [h] at z
      cases z
theorem fnone (e : Ex F H) {p : Addr} (h : H p = none) : F p = none := by
  cases q : F p with
  | none => rfl
  | some o =>
    rw [e p o q] at h
    cases h
theorem ex_both (e : Ex F H) {p : Addr} {o : HO} (h : H p = none) : Ex (upd F p o) (upd H p o) := fun b u q => by
  by_cases hb : b = p
  · subst hb
    rw [upd_same] at q ⊢
    exact q
  · rw [upd_ne hb] at q ⊢
    exact e b u q
/-- a new thing that never changes -/
theorem Ok.alloc (k : Ok K g F env σ H) {p : Addr} {o : HO} (h : H p = none) : Ok K g (upd F p o) env σ (upd H p o) where
  len := k.len
  fh := ex_both k.fh h
  dat := fun i d e => by
    obtain ⟨v, h1, h2⟩ := k.dat i d e
    exact ⟨v, h1, h2.mono (Ex.new (fnone k.fh h))⟩
  cel := fun i q xs e => by
    obtain ⟨a, vs, h1, h2, h3, h4, h5⟩ := k.cel i q xs e
    have ne : a ≠ p := ne_of_none h3 h
    exact ⟨a, vs, h1, by rw [upd_ne ne]; exact h2, by rw [upd_ne ne]; exact h3, h4.mono (Ex.new (fnone k.fh h)), h5⟩
  sep := k.sep
  pin := k.pin
  frame := fun a u e n => by
    have q := k.frame a u e n
    rw [upd_ne (ne_of_none q h)]
    exact q
  newF := fun a u e => by
    by_cases hb : a = p
    · subst hb
      exact .inr (k.fresh0 h)
    · rw [upd_ne hb] at e
      exact k.newF a u e
  oldF := fun a u e => (Ex.new (fnone k.fh h)) a u (k.oldF a u e)
  prot := fun a u e => by
    obtain ⟨z1, z2, z3⟩ := k.prot a u e
    have ne : a ≠ p := ne_of_none z1 h
    exact ⟨by rw [upd_ne ne]; exact z1, by rw [upd_ne ne]; exact z2, z3⟩
/-- a new thing of no name yet -/
theorem Ok.extra (k : Ok K g F env σ H) {p : Addr} {o : HO} (h : H p = none) : Ok K g F env σ (upd H p o) where
  len := k.len
  fh := fun a u e => by
    have q := k.fh a u e
    rw [upd_ne (ne_of_none q h)]
    exact q
  dat := k.dat
  cel := fun i q xs e => by
    obtain ⟨a, vs, h1, h2, h3, h4, h5⟩ := k.cel i q xs e
    have ne : a ≠ p := ne_of_none h3 h
    exact ⟨a, vs, h1, h2, by rw [upd_ne ne]; exact h3, h4, h5⟩
  sep := k.sep
  pin := k.pin
  frame := fun a u e n => by
    have q := k.frame a u e n
    rw [upd_ne (ne_of_none q h)]
    exact q
  newF := k.newF
  oldF := k.oldF
  prot := fun a u e => by
    obtain ⟨z1, z2, z3⟩ := k.prot a u e
    have ne : a ≠ p := ne_of_none z1 h
    exact ⟨by rw [upd_ne ne]; exact z1, z2, z3⟩
theorem get_set {α : Type} {l : List α} {i j : Nat} {x y : α} (h : (l.set i x)[j]? = some y) : (i = j ∧ y = x) ∨ (i ≠ j ∧ l[j]? = some y) := by
  rw [List.getElem?_set] at h
  by_cases e : i = j
  · rw [if_pos e] at h
    split at h
    · exact .inl ⟨e, (Option.some.inj h).symm⟩
    · cases h
  · rw [if_neg e] at h
    exact .inr ⟨e, h⟩
theorem set_ne {α : Type} {l : List α} {i j : Nat} {x : α} (h : i ≠ j) : (l.set i x)[j]? = l[j]? := List.getElem?_set_ne h
theorem set_eq {α : Type} {l : List α} {i : Nat} {x y : α} (h : l[i]? = some y) : (l.set i x)[i]? = some x := by
  obtain ⟨h1, _⟩ := List.getElem?_eq_some_iff.mp h
  exact List.getElem?_set_self h1
/-- a slot that is no parameter's cell -/
def NoPar (env : List SD) (i : Nat) : Prop := ∀ xs, env[i]? ≠ some (.cel true xs)
/-- a name gets a datum -/
theorem Ok.setD (k : Ok K g F env σ H) {i : Nat} {d : PyData} {v : V} (hp : NoPar env i) (h : DR K F v d) : Ok K g F (env.set i (.dat d)) (σ.set i (some v)) H where
  len := by simp [k.len]
  fh := k.fh
  dat := fun j e hj => by
    rcases get_set hj with ⟨rfl, q⟩ | ⟨n, q⟩
    · cases q
      have hl : i < σ.length := by
        obtain ⟨h1, _⟩ := List.getElem?_eq_some_iff.mp hj
        rw [List.length_set, k.len] at h1
        exact h1
      exact ⟨v, List.getElem?_set_self hl, h⟩
    · rw [set_ne n]
      exact k.dat j e q
  cel := fun j q xs hj => by
    rcases get_set hj with ⟨_, q⟩ | ⟨n, q⟩
    · cases q
    · rw [set_ne n]
      exact k.cel j _ xs q
  sep := fun a b p q xs ys c h1 h2 h3 h4 => by
    rcases get_set h1 with ⟨_, e⟩ | ⟨n1, e1⟩
    · cases e
    rcases get_set h2 with ⟨_, e⟩ | ⟨n2, e2⟩
    · cases e
    rw [set_ne n1] at h3
    rw [set_ne n2] at h4
    exact k.sep a b p q xs ys c e1 e2 h3 h4
  pin := fun j a e => by
    obtain ⟨xs, q⟩ := k.pin j a e
    have n : i ≠ j := fun z => by subst z; exact hp xs q
    exact ⟨xs, by rw [set_ne n]; exact q⟩
  frame := k.frame
  newF := k.newF
  oldF := k.oldF
  prot := fun a u e => by
    obtain ⟨z1, z2, z3⟩ := k.prot a u e
    refine ⟨z1, z2, fun j p ys hj => ?_⟩
    rcases get_set hj with ⟨_, q⟩ | ⟨n, q⟩
    · cases q
    · rw [set_ne n]
      exact z3 j p ys q
/-- a name gets a new cell of its own -/
theorem Ok.setC (k : Ok K g F env σ H) {i : Nat} {xs : List PyData} {a : Addr} {vs : List V} (hp : NoPar env i) (hF : F a = none) (hH : H a = some (.lst vs)) (h : DRs K F vs xs) (h0 : g.H0 a = none) (hpr : g.Pr a = none)
    (nw : ∀ (j : Nat) (p : Bool) (ys : List PyData), env[j]? = some (.cel p ys) → σ[j]? ≠ some (some (.ref a))) : Ok K g F (env.set i (.cel false xs)) (σ.set i (some (.ref a))) H where
  len := by simp [k.len]
  fh := k.fh
  dat := fun j e hj => by
    rcases get_set hj with ⟨_, q⟩ | ⟨n, q⟩
    · cases q
    · rw [set_ne n]
      exact k.dat j e q
  cel := fun j q ys hj => by
    rcases get_set hj with ⟨rfl, q⟩ | ⟨n, q⟩
    · cases q
      have hl : i < σ.length := by
        obtain ⟨h1, _⟩ := List.getElem?_eq_some_iff.mp hj
        rw [List.length_set, k.len] at h1
        exact h1
      exact ⟨a, vs, List.getElem?_set_self hl, hF, hH, h, (fun z => by cases z), fun _ => h0⟩
    · rw [set_ne n]
      exact k.cel j _ ys q
  sep := fun j l p q us ys c h1 h2 h3 h4 => by
    rcases get_set h1 with ⟨e1, _⟩ | ⟨n1, e1⟩
    · rcases get_set h2 with ⟨e2, _⟩ | ⟨n2, e2⟩
      · exact e1.symm.trans e2
      · rcases get_set h3 with ⟨_, e3⟩ | ⟨n3, _⟩
        · cases e3
          rw [set_ne n2] at h4
          exact absurd h4 (nw l q ys e2)
        · exact absurd e1 n3
    · rcases get_set h2 with ⟨e2, _⟩ | ⟨n2, e2⟩
      · rcases get_set h4 with ⟨_, e3⟩ | ⟨n3, _⟩
        · cases e3
          rw [set_ne n1] at h3
          exact absurd h3 (nw j p us e1)
        · exact absurd e2 n3
      · rw [set_ne n1] at h3
        rw [set_ne n2] at h4
        exact k.sep j l p q us ys c e1 e2 h3 h4
  pin := fun j b e => by
    obtain ⟨ys, q⟩ := k.pin j b e
    have n : i ≠ j := fun z => by subst z; exact hp ys q
    exact ⟨ys, by rw [set_ne n]; exact q⟩
  frame := k.frame
  newF := k.newF
  oldF := k.oldF
  prot := fun b u e => by
    obtain ⟨z1, z2, z3⟩ := k.prot b u e
    refine ⟨z1, z2, fun j p ys hj => ?_⟩
    rcases get_set hj with ⟨rfl, q⟩ | ⟨n, q⟩
    · intro z
      rcases get_set z with ⟨_, y⟩ | ⟨n, _⟩
      · cases y
        rw [hpr] at e
        cases e
      · exact n rfl
    · rw [set_ne n]
      exact z3 j p ys q
/-- a name is forgotten (its slot may hold anything) -/
theorem Ok.setU (k : Ok K g F env σ H) {i : Nat} {o : Option V} (hp : NoPar env i) : Ok K g F (env.set i .un) (σ.set i o) H where
  len := by simp [k.len]
  fh := k.fh
  dat := fun j e hj => by
    rcases get_set hj with ⟨_, q⟩ | ⟨n, q⟩
    · cases q
    · rw [set_ne n]
      exact k.dat j e q
  cel := fun j q ys hj => by
    rcases get_set hj with ⟨_, q⟩ | ⟨n, q⟩
    · cases q
    · rw [set_ne n]
      exact k.cel j _ ys q
  sep := fun a b p q xs ys c h1 h2 h3 h4 => by
    rcases get_set h1 with ⟨_, e⟩ | ⟨n1, e1⟩
    · cases e
    rcases get_set h2 with ⟨_, e⟩ | ⟨n2, e2⟩
    · cases e
    rw [set_ne n1] at h3
    rw [set_ne n2] at h4
    exact k.sep a b p q xs ys c e1 e2 h3 h4
  pin := fun j b e => by
    obtain ⟨ys, q⟩ := k.pin j b e
    have n : i ≠ j := fun z => by subst z; exact hp ys q
    exact ⟨ys, by rw [set_ne n]; exact q⟩
  frame := k.frame
  newF := k.newF
  oldF := k.oldF
  prot := fun a u e => by
    obtain ⟨z1, z2, z3⟩ := k.prot a u e
    refine ⟨z1, z2, fun j p ys hj => ?_⟩
    rcases get_set hj with ⟨_, q⟩ | ⟨n, q⟩
    · cases q
    · rw [set_ne n]
      exact z3 j p ys q
/-- a cell's content is changed -/
theorem Ok.write (k : Ok K g F env σ H) {i : Nat} {p : Bool} {xs ys : List PyData} {a : Addr} {vs : List V} (he : env[i]? = some (.cel p xs)) (hs : σ[i]? = some (some (.ref a))) (h : DRs K F vs ys) :
    Ok K g F (env.set i (.cel p ys)) σ (upd H a (.lst vs)) := by
  obtain ⟨a', vs0, h1, h2, h3, h4, h5, h6⟩ := k.cel i p xs he
  rw [hs] at h1
  cases h1
  refine ⟨by simp [k.len], fun b u q => ?_, fun j e hj => ?_, fun j q us hj => ?_, fun j l q r us ws c h1 h2 h3 h4 => ?_, fun j b e => ?_, fun b o e n => ?_, k.newF, k.oldF, fun b u e => ?_⟩
  · have ne : b ≠ a := fun z => by rw [z, h2] at q; cases q
    rw [upd_ne ne]
    exact k.fh b u q
  · rcases get_set hj with ⟨_, q⟩ | ⟨n, q⟩
    · cases q
    · exact k.dat j e q
  · rcases get_set hj with ⟨rfl, q⟩ | ⟨n, q⟩
    · cases q
      exact ⟨a, vs, hs, h2, upd_same, h, h5, h6⟩
    · obtain ⟨b, ws, z1, z2, z3, z4, z5⟩ := k.cel j _ us q
      have ne : b ≠ a := fun z => by
        subst z
        exact n (k.sep i j _ _ _ _ b he q hs z1)
      exact ⟨b, ws, z1, z2, by rw [upd_ne ne]; exact z3, z4, z5⟩
  · have f : ∀ {j : Nat} {q : Bool} {us : List PyData}, (env.set i (SD.cel p ys))[j]? = some (.cel q us) → ∃ q' us', env[j]? = some (.cel q' us') := fun {j q us} z => by
      rcases get_set z with ⟨rfl, _⟩ | ⟨_, z⟩
      · exact ⟨_, _, he⟩
      · exact ⟨_, _, z⟩
    obtain ⟨_, _, f1⟩ := f h1
    obtain ⟨_, _, f2⟩ := f h2
    exact k.sep j l _ _ _ _ c f1 f2 h3 h4
  · obtain ⟨us, q⟩ := k.pin j b e
    by_cases n : i = j
    · subst n
      rw [he] at q
      cases q
      exact ⟨ys, set_eq he⟩
    · exact ⟨us, by rw [set_ne n]; exact q⟩
  · have ne : b ≠ a := fun z => by
      subst z
      cases p with
      | true => exact n i (h5 rfl)
      | false =>
        rw [h6 rfl] at e
        cases e
    rw [upd_ne ne]
    exact k.frame b o e n
  · obtain ⟨z1, z2, z3⟩ := k.prot b u e
    have ne : b ≠ a := fun z => by
      subst z
      exact z3 i p xs he hs
    refine ⟨by rw [upd_ne ne]; exact z1, z2, fun j q us hj => ?_⟩
    rcases get_set hj with ⟨rfl, _⟩ | ⟨_, z⟩
    · exact z3 _ p xs he
    · exact z3 j q us z
/-- an own cell becomes a datum -/
theorem Ok.freeze (k : Ok K g F env σ H) {i : Nat} {xs : List PyData} (he : env[i]? = some (.cel false xs)) : ∃ F', Ex F F' ∧ Ok K g F' (env.set i (.dat (.list xs))) σ H := by
  obtain ⟨a, vs, h1, h2, h3, h4, h5, h6⟩ := k.cel i false xs he
  have h6 := h6 rfl
  have ex : Ex F (upd F a (.lst vs)) := Ex.new h2
  refine ⟨upd F a (.lst vs), ex, by simp [k.len], fun b u q => ?_, fun j e hj => ?_, fun j q us hj => ?_, fun j l q r us ws c z1 z2 z3 z4 => ?_, fun j b e => ?_, k.frame, fun b u q => ?_, fun b u q => ex b u (k.oldF b u q), fun b u e => ?_⟩
  · by_cases z : b = a
    · subst z
      rw [upd_same] at q
      exact h3.trans q
    · rw [upd_ne z] at q
      exact k.fh b u q
  · rcases get_set hj with ⟨rfl, q⟩ | ⟨n, q⟩
    · cases q
      exact ⟨_, h1, .lst (RdL.of upd_same) (h4.mono ex)⟩
    · obtain ⟨v, z1, z2⟩ := k.dat j e q
      exact ⟨v, z1, z2.mono ex⟩
  · rcases get_set hj with ⟨_, q⟩ | ⟨n, q⟩
    · cases q
    · obtain ⟨b, ws, z1, z2, z3, z4, z5⟩ := k.cel j _ us q
      have ne : b ≠ a := fun z => by
        subst z
        exact n (k.sep i j _ _ _ _ b he q h1 z1)
      exact ⟨b, ws, z1, by rw [upd_ne ne]; exact z2, z3, z4.mono ex, z5⟩
  · rcases get_set z1 with ⟨_, e⟩ | ⟨n1, e1⟩
    · cases e
    rcases get_set z2 with ⟨_, e⟩ | ⟨n2, e2⟩
    · cases e
    exact k.sep j l q r us ws c e1 e2 z3 z4
  · obtain ⟨ys, q⟩ := k.pin j b e
    have n : i ≠ j := fun z => by subst z; rw [he] at q; cases q
    exact ⟨ys, by rw [set_ne n]; exact q⟩
  · by_cases z : b = a
    · subst z
      exact .inr h6
    · rw [upd_ne z] at q
      exact k.newF b u q
  · obtain ⟨z1, z2, z3⟩ := k.prot b u e
    have ne : b ≠ a := fun z => by
      subst z
      exact z3 i false xs he h1
    refine ⟨z1, by rw [upd_ne ne]; exact z2, fun j q us hj => ?_⟩
    rcases get_set hj with ⟨_, z⟩ | ⟨_, z⟩
    · cases z
    · exact z3 j q us z
end
end DL

/-! The data layer, part 2: expressions. -/
namespace DL
open PySem PySem.Spec PyProof.Rows L2
open Evl (Ex)

/-- by a truth -/
def bIf (b : Bool) (p q : Prop) : Prop := match b with
  | true => p
  | false => q
theorem bIf_t {p q : Prop} : bIf true p q = p := rfl
theorem bIf_f {p q : Prop} : bIf false p q = q := rfl
/-- a datum that is a truth -/
def bT (d : PyData) (K : Bool → Prop) : Prop := match d with
  | .bool b => K b
  | _ => False
theorem bT_inv {d : PyData} {K : Bool → Prop} (h : bT d K) : ∃ b, d = .bool b ∧ K b := by
  cases d <;> first | exact ⟨_, rfl, h⟩ | exact h.elim
theorem bIf_and {b : Bool} {q : Prop} (h : bIf b q False) : b = true ∧ q := by
  cases b
  · exact h.elim
  · exact ⟨rfl, h⟩
abbrev DE := List SD → (PyData → List SD → Prop) → Prop
abbrev DX := List SD → (SD → List SD → Prop) → Prop
abbrev DT := List SD → (Bool → List SD → Prop) → Prop
abbrev DA := List SD → (List PyData → List SD → Prop) → Prop
/-- a result: a datum, or a new cell that no name holds yet -/
def ResOk (K : PySem.W.Frag) (g : Gx) (F : Hp) (env : List SD) (σ : L2.St) (H : Hp) (v : V) : SD → Prop
  | .un => False
  | .dat d => DR K F v d
  | .cel _ xs => ∃ a vs, v = .ref a ∧ F a = none ∧ H a = some (.lst vs) ∧ DRs K F vs xs ∧ g.H0 a = none ∧ g.Pr a = none ∧ ∀ (j : Nat) (p : Bool) (ys : List PyData), env[j]? = some (.cel p ys) → σ[j]? ≠ some (some (.ref a))
def liftE (K : PySem.W.Frag) (w : DE) : TE := fun σ H Q => ∃ (g : Gx) (F : Hp) (env : List SD) (P : PyData → List SD → Prop), Ok K g F env σ H ∧ w env P ∧
  ∀ d env' v F' H', P d env' → Ex F F' → Ok K g F' env' σ H' → DR K F' v d → Q v H'
def liftX (K : PySem.W.Frag) (w : DX) : TE := fun σ H Q => ∃ (g : Gx) (F : Hp) (env : List SD) (P : SD → List SD → Prop), Ok K g F env σ H ∧ w env P ∧
  ∀ r env' v F' H', P r env' → Ex F F' → Ok K g F' env' σ H' → ResOk K g F' env' σ H' v r → Q v H'
def liftT (K : PySem.W.Frag) (w : DT) : TT := fun σ H Q => ∃ (g : Gx) (F : Hp) (env : List SD) (P : Bool → List SD → Prop), Ok K g F env σ H ∧ w env P ∧
  ∀ b env' F' H', P b env' → Ex F F' → Ok K g F' env' σ H' → Q b H'
def liftA (K : PySem.W.Frag) (w : DA) : TA := fun σ H Q => ∃ (g : Gx) (F : Hp) (env : List SD) (P : List PyData → List SD → Prop), Ok K g F env σ H ∧ w env P ∧
  ∀ ds env' vs F' H', P ds env' → Ex F F' → Ok K g F' env' σ H' → DRs K F' vs ds → Q vs H'
theorem PE.of {X : Cx} {e : Expr} {t t' : TE} (h : PE X e t) (w : ∀ σ H Q, t' σ H Q → t σ H Q) : PE X e t' := ⟨fun pins s σ H Q I q => h.run pins s σ H Q I (w σ H Q q)⟩
theorem PT.of {X : Cx} {e : Expr} {t t' : TT} (h : PT X e t) (w : ∀ σ H Q, t' σ H Q → t σ H Q) : PT X e t' := ⟨fun pins s σ H Q I q => h.run pins s σ H Q I (w σ H Q q)⟩
theorem PW.of {X : Cx} {e : Expr} {t t' : TT} (h : PW X e t) (w : ∀ σ H Q, t' σ H Q → t σ H Q) : PW X e t' := ⟨fun wh pins s σ H Q I q => h.run wh pins s σ H Q I (w σ H Q q)⟩
theorem PA.of {X : Cx} {e : List Expr} {t t' : TA} (h : PA X e t) (w : ∀ σ H Q, t' σ H Q → t σ H Q) : PA X e t' := ⟨fun p pins s σ H Q I q => h.run p pins s σ H Q I (w σ H Q q)⟩
theorem PS.of {X : Cx} {e : Stmt} {t t' : TS} (h : PS X e t) (w : ∀ D σ H, t' D σ H → t D σ H) : PS X e t' := ⟨fun pins s σ H D I q => h.run pins s σ H D I (w D σ H q)⟩
theorem PSs.of {X : Cx} {e : List Stmt} {t t' : TS} (h : PSs X e t) (w : ∀ D σ H, t' D σ H → t D σ H) : PSs X e t' := ⟨fun pins s σ H D I q => h.run pins s σ H D I (w D σ H q)⟩

section
variable {K : PySem.W.Frag} {g : Gx} {F F' : Hp} {env : List SD} {σ : L2.St} {H : Hp}
/-- a new cell that no name holds -/
theorem Ok.newCell (k : Ok K g F env σ H) {p : Addr} (h : H p = none) {vs : List V} {xs : List PyData} (r : DRs K F vs xs) :
    Ok K g F env σ (upd H p (.lst vs)) ∧ ResOk K g F env σ (upd H p (.lst vs)) (.ref p) (.cel false xs) := by
  refine ⟨k.extra h, p, vs, rfl, fnone k.fh h, upd_same, r, k.fresh0 h, ?_, fun j q ys e z => ?_⟩
  · cases e : g.Pr p with
    | none => rfl
    | some u =>
      have z := (k.prot p u e).1
      rw [h] at z
      cases z
  obtain ⟨a, ws, h1, _, h3, _⟩ := k.cel j q ys e
  rw [z] at h1
  cases h1
  rw [h] at h3
  cases h3
/-- such a cell becomes a datum -/
theorem Ok.freezeP (k : Ok K g F env σ H) {v : V} {p : Bool} {xs : List PyData} (h : ResOk K g F env σ H v (.cel p xs)) : ∃ F', Ex F F' ∧ Ok K g F' env σ H ∧ DR K F' v (.list xs) := by
  obtain ⟨a, vs, rfl, hF, hH, r, h0, hpr, nw⟩ := h
  have ex : Ex F (upd F a (.lst vs)) := Ex.new hF
  refine ⟨upd F a (.lst vs), ex, ⟨k.len, fun b u q => ?_, fun i d e => ?_, fun i q ys e => ?_, k.sep, k.pin, k.frame, fun b u q => ?_, fun b u q => ex b u (k.oldF b u q), fun b u e => ?_⟩, .lst (RdL.of upd_same) (r.mono ex)⟩
  · by_cases z : b = a
    · subst z
      rw [upd_same] at q
      exact hH.trans q
    · rw [upd_ne z] at q
      exact k.fh b u q
  · obtain ⟨v, z1, z2⟩ := k.dat i d e
    exact ⟨v, z1, z2.mono ex⟩
  · obtain ⟨b, ws, z1, z2, z3, z4, z5⟩ := k.cel i q ys e
    have ne : b ≠ a := fun z => by
      subst z
      exact nw i q ys e z1
    exact ⟨b, ws, z1, by rw [upd_ne ne]; exact z2, z3, z4.mono ex, z5⟩
  · by_cases z : b = a
    · subst z
      exact .inr h0
    · rw [upd_ne z] at q
      exact k.newF b u q
  · obtain ⟨z1, z2, z3⟩ := k.prot b u e
    have ne : b ≠ a := fun z => by
      subst z
      rw [hpr] at e
      cases e
    exact ⟨z1, by rw [upd_ne ne]; exact z2, z3⟩
/-- a new tuple, a new list that never changes -/
theorem Ok.newTup (k : Ok K g F env σ H) {p : Addr} (h : H p = none) {vs : List V} {xs : List PyData} (r : DRs K F vs xs) :
    Ex F (upd F p (.tup vs)) ∧ Ok K g (upd F p (.tup vs)) env σ (upd H p (.tup vs)) ∧ DR K (upd F p (.tup vs)) (.ref p) (.tuple xs) := by
  have ex : Ex F (upd F p (.tup vs)) := Ex.new (fnone k.fh h)
  exact ⟨ex, k.alloc h, .tup (SqT.of upd_same) (r.mono ex)⟩
theorem Ok.newLst (k : Ok K g F env σ H) {p : Addr} (h : H p = none) {vs : List V} {xs : List PyData} (r : DRs K F vs xs) :
    Ex F (upd F p (.lst vs)) ∧ Ok K g (upd F p (.lst vs)) env σ (upd H p (.lst vs)) ∧ DR K (upd F p (.lst vs)) (.ref p) (.list xs) := by
  have ex : Ex F (upd F p (.lst vs)) := Ex.new (fnone k.fh h)
  exact ⟨ex, k.alloc h, .lst (RdL.of upd_same) (r.mono ex)⟩
theorem drH (k : Ok K g F env σ H) {v : V} {d : PyData} (h : DR K F v d) : DR K H v d := h.mono k.fh
theorem drsH (k : Ok K g F env σ H) {v : List V} {d : List PyData} (h : DRs K F v d) : DRs K H v d := h.mono k.fh
end

section
variable {X : Cx} {a b c e : Expr} {es : List Expr} {pos : Pos} {wa wb wc w : DE} {K : PySem.W.Frag}
/-! ### names, constants -/
def dVar (i : Nat) (env : List SD) (P : PyData → List SD → Prop) : Prop := match env[i]? with
  | some (.dat d) => P d env
  | _ => False
theorem lift_var {i : Nat} {σ : L2.St} {H : Hp} {Q : VK} (h : liftE K (dVar i) σ H Q) : tVar i σ H Q := by
  obtain ⟨g, F, env, P, k, w, q⟩ := h
  unfold dVar at w
  split at w
  · rename_i d e
    obtain ⟨v, h1, h2⟩ := k.dat i d e
    exact ⟨v, h1, q d env v F H w (Ex.refl F) k h2⟩
  · exact w.elim
theorem dv (i : Nat) {x : Str} {pos : Pos} (hN : X.N[i]? = some x := by rfl) (hv : Vis X.env.scope x := by first | exact Or.inl rfl | exact Or.inr (Or.inl rfl) | exact Or.inr (Or.inr rfl)) (hd : (x == ("__debug__" : Str)) = false := by decide)
    (hcd : (x == ("__classdict__" : Str)) = false := by decide) : PE X (.Name x pos) (liftE X.K (dVar i)) := PE.of (pe_var hN hv hd hcd) fun _ _ _ h => lift_var h
def dC (d : PyData) (env : List SD) (P : PyData → List SD → Prop) : Prop := P d env
theorem lift_c {v : V} {d : PyData} (hv : ∀ F : Hp, DR K F v d) {σ : L2.St} {H : Hp} {Q : VK} (h : liftE K (dC d) σ H Q) : tC v σ H Q := by
  obtain ⟨g, F, env, P, k, w, q⟩ := h
  exact q d env v F H w (Ex.refl F) k (hv F)
theorem di {i : Int} {j pos} : PE X (.Constant (.int i) j pos) (liftE X.K (dC (.int i))) := PE.of pe_int fun _ _ _ h => lift_c (fun _ => .int i) h
theorem db {i : Bool} {j pos} : PE X (.Constant (.bool i) j pos) (liftE X.K (dC (.bool i))) := PE.of pe_bl fun _ _ _ h => lift_c (fun _ => .bl i) h
theorem dn {j pos} : PE X (.Constant .none j pos) (liftE X.K (dC .none)) := PE.of pe_non fun _ _ _ h => lift_c (fun _ => .non) h
theorem ds {i : Str} {j pos} : PE X (.Constant (.str i) j pos) (liftE X.K (dC (.str i))) := PE.of pe_str fun _ _ _ h => lift_c (fun _ => .str i) h
/-- a module's constant -/
theorem dglob {x : Str} {u : Value} {d : PyData} {pos : Pos} {v : V} (hm : X.mg x = some u) (r : RelV v u) (hd : ∀ F : Hp, DR X.K F v d) (hg : Gl X x := by rfl) (hdb : (x == ("__debug__" : Str)) = false := by decide) : PE X (.Name x pos) (liftE X.K (dC d)) :=
  PE.of (pe_glob hg hm r hdb) fun _ _ _ h => lift_c hd h

/-! ### operators -/
abbrev D2 := PyData → PyData → (PyData → Prop) → Prop
def dOp (f : D2) (wa wb : DE) (env : List SD) (P : PyData → List SD → Prop) : Prop := wa env fun x env1 => wb env1 fun y env2 => f x y fun z => P z env2
def OpD (K : PySem.W.Frag) (r : R2) (f : D2) : Prop :=
  ∀ (g : Gx) (F : Hp) (env : List SD) (σ : L2.St) (H : Hp) (vx vy : V) (dx dy : PyData) (P : PyData → Prop) (Q : VK), Ok K g F env σ H → DR K F vx dx → DR K F vy dy → f dx dy P →
    (∀ d v F' H', P d → Ex F F' → Ok K g F' env σ H' → DR K F' v d → Q v H') → r vx vy H Q
theorem lift_op {r : R2} {f : D2} (hd : OpD K r f) {σ : L2.St} {H : Hp} {Q : VK} (h : liftE K (dOp f wa wb) σ H Q) : tOp r (liftE K wa) (liftE K wb) σ H Q := by
  obtain ⟨g, F, env, P, k, w, q⟩ := h
  refine ⟨g, F, env, _, k, w, fun d env1 v F1 H1 p e1 k1 r1 => ⟨g, F1, env1, _, k1, p, fun d2 env2 v2 F2 H2 p2 e2 k2 r2 => ?_⟩⟩
  exact hd g F2 env2 σ H2 v v2 d d2 _ Q k2 (r1.mono e2) r2 p2 fun d3 v3 F3 H3 p3 e3 k3 r3 => q d3 env2 v3 F3 H3 p3 (e1.trans (e2.trans e3)) k3 r3
theorem dop {op : Operator} {r : R2} {f : D2} (ho : OpR X (binaryOp op) r) (hd : OpD X.K r f) (ha : PE X a (liftE X.K wa)) (hb : PE X b (liftE X.K wb)) : PE X (.BinOp a op b pos) (liftE X.K (dOp f wa wb)) :=
  PE.of (pe_op ho ha hb) fun _ _ _ h => lift_op hd h
theorem dcmp {op : CmpOp} {r : R2} {f : D2} (ho : OpR X (compareOp op) r) (hd : OpD X.K r f) (ha : PE X a (liftE X.K wa)) (hb : PE X b (liftE X.K wb)) (hm : behindInMarks op b = false) : PE X (.Compare a [op] [b] pos) (liftE X.K (dOp f wa wb)) :=
  PE.of (pe_cmpR ho ha hb hm) fun _ _ _ h => lift_op hd h
def dTest (w : DE) (env : List SD) (P : Bool → List SD → Prop) : Prop := w env fun d env' => bT d fun b => P b env'
theorem lift_test {t : TE} (ht : ∀ σ H Q, liftE K w σ H Q → t σ H Q) {σ : L2.St} {H : Hp} {Q : Bool → Hp → Prop} (h : liftT K (dTest w) σ H Q) : tTest t σ H Q := by
  obtain ⟨g, F, env, P, k, w, q⟩ := h
  refine ht _ _ _ ⟨g, F, env, _, k, w, fun d env1 v F1 H1 p e1 k1 r1 => ?_⟩
  obtain ⟨b, rfl, p⟩ := bT_inv p
  cases r1.inv_bool
  exact ⟨_, rfl, q _ env1 F1 H1 p e1 k1⟩
theorem dcmpT {op : CmpOp} {r : R2} {f : D2} (ho : OpR X (compareOp op) r) (hd : OpD X.K r f) (ha : PE X a (liftE X.K wa)) (hb : PE X b (liftE X.K wb)) (hm : behindInMarks op b = false) : PT X (.Compare a [op] [b] pos) (liftT X.K (dTest (dOp f wa wb))) :=
  PT.of (pt_cmpR ho ha hb hm) fun _ _ _ h => lift_test (fun _ _ _ h => lift_op hd h) h
/-- any other expression as a test -/
theorem dtest (h : PE X e (liftE X.K w)) (he : ∀ whole, isTrue e X.env whole = (do let v ← whole; standAt e.pos; holding [v] (truthy v)) := by intro _; rfl) : PT X e (liftT X.K (dTest w)) :=
  PT.of (pt_val h he) fun _ _ _ q => lift_test (fun _ _ _ h => h) q
/-- a < b < c -/
def dChain (f f' : D2) (wa wb wc : DE) (env : List SD) (P : PyData → List SD → Prop) : Prop := wa env fun x env1 => wb env1 fun y env2 => f x y fun z => bT z fun b => bIf b (wc env2 fun u env3 => f' y u fun z2 => P z2 env3) (P (.bool false) env2)
theorem lift_chain {r r' : R2} {f f' : D2} (hd : OpD K r f) (hd' : OpD K r' f') {σ : L2.St} {H : Hp} {Q : VK} (h : liftE K (dChain f f' wa wb wc) σ H Q) : tChain r r' (liftE K wa) (liftE K wb) (liftE K wc) σ H Q := by
  obtain ⟨g, F, env, P, k, w, q⟩ := h
  refine ⟨g, F, env, _, k, w, fun d env1 v F1 H1 p e1 k1 r1 => ⟨g, F1, env1, _, k1, p, fun d2 env2 v2 F2 H2 p2 e2 k2 r2 => ?_⟩⟩
  refine hd g F2 env2 σ H2 v v2 d d2 _ _ k2 (r1.mono e2) r2 p2 fun d3 v3 F3 H3 p3 e3 k3 r3 => ?_
  obtain ⟨b, rfl, p3⟩ := bT_inv p3
  cases r3.inv_bool
  cases b with
  | true =>
    refine ⟨true, rfl, iteT ⟨g, F3, env2, _, k3, p3, fun d4 env4 v4 F4 H4 p4 e4 k4 r4 => ?_⟩⟩
    exact hd' g F4 env4 σ H4 v2 v4 d2 d4 _ Q k4 ((r2.mono e3).mono e4) r4 p4 fun d5 v5 F5 H5 p5 e5 k5 r5 => q d5 env4 v5 F5 H5 p5 (e1.trans (e2.trans (e3.trans (e4.trans e5)))) k5 r5
  | false =>
    exact ⟨false, rfl, iteF (q _ env2 _ F3 H3 p3 (e1.trans (e2.trans e3)) k3 (.bl false))⟩
theorem dchain {op op' : CmpOp} {r r' : R2} {f f' : D2} (ho : OpR X (compareOp op) r) (ho' : OpR X (compareOp op') r') (hd : OpD X.K r f) (hd' : OpD X.K r' f') (ha : PE X a (liftE X.K wa)) (hb : PE X b (liftE X.K wb)) (hc : PE X c (liftE X.K wc))
    (hm : lastMarks [op, op'] [b, c] = false := by with_unfolding_all rfl) : PE X (.Compare a [op, op'] [b, c] pos) (liftE X.K (dChain f f' wa wb wc)) :=
  PE.of (pe_chain ho ho' ha hb hc hm) fun _ _ _ h => lift_chain hd hd' h
theorem dchainT {op op' : CmpOp} {r r' : R2} {f f' : D2} (ho : OpR X (compareOp op) r) (ho' : OpR X (compareOp op') r') (hd : OpD X.K r f) (hd' : OpD X.K r' f') (ha : PE X a (liftE X.K wa)) (hb : PE X b (liftE X.K wb)) (hc : PE X c (liftE X.K wc))
    (hm : lastMarks [op, op'] [b, c] = false := by with_unfolding_all rfl) : PT X (.Compare a [op, op'] [b, c] pos) (liftT X.K (dTest (dChain f f' wa wb wc))) :=
  PT.of (pt_chain ho ho' ha hb hc hm) fun _ _ _ h => lift_test (fun _ _ _ h => lift_chain hd hd' h) h
/-- one place -/
abbrev D1 := PyData → (PyData → Prop) → Prop
def dUn (f : D1) (wa : DE) (env : List SD) (P : PyData → List SD → Prop) : Prop := wa env fun x env1 => f x fun z => P z env1
def UnD (K : PySem.W.Frag) (r : V → Hp → VK → Prop) (f : D1) : Prop :=
  ∀ (g : Gx) (F : Hp) (env : List SD) (σ : L2.St) (H : Hp) (vx : V) (dx : PyData) (P : PyData → Prop) (Q : VK), Ok K g F env σ H → DR K F vx dx → f dx P →
    (∀ d v F' H', P d → Ex F F' → Ok K g F' env σ H' → DR K F' v d → Q v H') → r vx H Q
theorem dun {op : UnaryOp} {r : V → Hp → VK → Prop} {f : D1} (ho : UnR X (unaryOp op) r) (hd : UnD X.K r f) (ha : PE X a (liftE X.K wa)) : PE X (.UnaryOp op a pos) (liftE X.K (dUn f wa)) :=
  PE.of (pe_un ho ha) fun σ H Q h => by
    obtain ⟨g, F, env, P, k, w, q⟩ := h
    refine ⟨g, F, env, _, k, w, fun d env1 v F1 H1 p e1 k1 r1 => ?_⟩
    exact hd g F1 env1 σ H1 v d _ Q k1 r1 p fun d3 v3 F3 H3 p3 e3 k3 r3 => q d3 env1 v3 F3 H3 p3 (e1.trans e3) k3 r3

/-! ### and, or, not, if -/
def dAndV (wa wb : DE) (env : List SD) (P : PyData → List SD → Prop) : Prop := wa env fun x env1 => bT x fun b => bIf b (wb env1 P) (P (.bool false) env1)
def dOrV (wa wb : DE) (env : List SD) (P : PyData → List SD → Prop) : Prop := wa env fun x env1 => bT x fun b => bIf b (P (.bool true) env1) (wb env1 P)
def dNotV (wa : DE) (env : List SD) (P : PyData → List SD → Prop) : Prop := wa env fun x env1 => bT x fun b => P (.bool (!b)) env1
variable {rest : List Expr}
theorem done {op : BoolOp} (h : PE X a (liftE X.K wa)) : PE X (.BoolOp op [a] pos) (liftE X.K wa) := pe_one h
theorem dandV (ha : PE X a (liftE X.K wa)) (hb : PE X (.BoolOp .And (b :: rest) pos) (liftE X.K wb)) : PE X (.BoolOp .And (a :: b :: rest) pos) (liftE X.K (dAndV wa wb)) :=
  PE.of (pe_and ha hb) fun σ H Q h => by
    obtain ⟨g, F, env, P, k, w, q⟩ := h
    refine ⟨g, F, env, _, k, w, fun d env1 v F1 H1 p e1 k1 r1 => ?_⟩
    obtain ⟨b, rfl, p⟩ := bT_inv p
    cases r1.inv_bool
    cases b with
    | true => exact ⟨true, rfl, iteT ⟨g, F1, env1, _, k1, p, fun d2 env2 v2 F2 H2 p2 e2 k2 r2 => q d2 env2 v2 F2 H2 p2 (e1.trans e2) k2 r2⟩⟩
    | false => exact ⟨false, rfl, iteF (q _ env1 _ F1 H1 p e1 k1 (.bl false))⟩
theorem dorV (ha : PE X a (liftE X.K wa)) (hb : PE X (.BoolOp .Or (b :: rest) pos) (liftE X.K wb)) : PE X (.BoolOp .Or (a :: b :: rest) pos) (liftE X.K (dOrV wa wb)) :=
  PE.of (pe_or ha hb) fun σ H Q h => by
    obtain ⟨g, F, env, P, k, w, q⟩ := h
    refine ⟨g, F, env, _, k, w, fun d env1 v F1 H1 p e1 k1 r1 => ?_⟩
    obtain ⟨b, rfl, p⟩ := bT_inv p
    cases r1.inv_bool
    cases b with
    | true => exact ⟨true, rfl, iteT (q _ env1 _ F1 H1 p e1 k1 (.bl true))⟩
    | false => exact ⟨false, rfl, iteF ⟨g, F1, env1, _, k1, p, fun d2 env2 v2 F2 H2 p2 e2 k2 r2 => q d2 env2 v2 F2 H2 p2 (e1.trans e2) k2 r2⟩⟩
theorem dnotV (ha : PE X a (liftE X.K wa)) : PE X (.UnaryOp .Not a pos) (liftE X.K (dNotV wa)) :=
  PE.of (pe_not ha) fun σ H Q h => by
    obtain ⟨g, F, env, P, k, w, q⟩ := h
    refine ⟨g, F, env, _, k, w, fun d env1 v F1 H1 p e1 k1 r1 => ?_⟩
    obtain ⟨b, rfl, p⟩ := bT_inv p
    cases r1.inv_bool
    exact ⟨_, rfl, q _ env1 _ F1 H1 p e1 k1 (.bl _)⟩
def dAnd (t u : DT) (env : List SD) (P : Bool → List SD → Prop) : Prop := t env fun b env1 => bIf b (u env1 P) (P false env1)
def dOr (t u : DT) (env : List SD) (P : Bool → List SD → Prop) : Prop := t env fun b env1 => bIf b (P true env1) (u env1 P)
def dNot (t : DT) (env : List SD) (P : Bool → List SD → Prop) : Prop := t env fun b env1 => P (!b) env1
variable {t u : DT}
theorem tand1 (ha : PT X a (liftT X.K t)) : PW X (.BoolOp .And [a] pos) (liftT X.K t) := pw_and1 ha
theorem tor1 (ha : PT X a (liftT X.K t)) : PW X (.BoolOp .Or [a] pos) (liftT X.K t) := pw_or1 ha
theorem tand (ha : PT X a (liftT X.K t)) (hb : PW X (.BoolOp .And (b :: rest) pos) (liftT X.K u)) : PW X (.BoolOp .And (a :: b :: rest) pos) (liftT X.K (dAnd t u)) :=
  PW.of (pw_and ha hb) fun σ H Q h => by
    obtain ⟨g, F, env, P, k, w, q⟩ := h
    refine ⟨g, F, env, _, k, w, fun d env1 F1 H1 p e1 k1 => ?_⟩
    cases d with
    | true => exact iteT ⟨g, F1, env1, _, k1, p, fun d2 env2 F2 H2 p2 e2 k2 => q d2 env2 F2 H2 p2 (e1.trans e2) k2⟩
    | false => exact iteF (q _ env1 F1 H1 p e1 k1)
theorem tor (ha : PT X a (liftT X.K t)) (hb : PW X (.BoolOp .Or (b :: rest) pos) (liftT X.K u)) : PW X (.BoolOp .Or (a :: b :: rest) pos) (liftT X.K (dOr t u)) :=
  PW.of (pw_or ha hb) fun σ H Q h => by
    obtain ⟨g, F, env, P, k, w, q⟩ := h
    refine ⟨g, F, env, _, k, w, fun d env1 F1 H1 p e1 k1 => ?_⟩
    cases d with
    | false => exact iteF ⟨g, F1, env1, _, k1, p, fun d2 env2 F2 H2 p2 e2 k2 => q d2 env2 F2 H2 p2 (e1.trans e2) k2⟩
    | true => exact iteT (q _ env1 F1 H1 p e1 k1)
theorem tnot (ha : PT X a (liftT X.K t)) : PT X (.UnaryOp .Not a pos) (liftT X.K (dNot t)) :=
  PT.of (pt_not ha) fun σ H Q h => by
    obtain ⟨g, F, env, P, k, w, q⟩ := h
    exact ⟨g, F, env, _, k, w, fun d env1 F1 H1 p e1 k1 => q _ env1 F1 H1 p e1 k1⟩
def dIf (t : DT) (wa wb : DE) (env : List SD) (P : PyData → List SD → Prop) : Prop := t env fun b env1 => bIf b (wa env1 P) (wb env1 P)
theorem dif {c : Expr} (hc : PT X c (liftT X.K t)) (ha : PE X a (liftE X.K wa)) (hb : PE X b (liftE X.K wb)) : PE X (.IfExp c a b pos) (liftE X.K (dIf t wa wb)) :=
  PE.of (pe_ifExp hc ha hb) fun σ H Q h => by
    obtain ⟨g, F, env, P, k, w, q⟩ := h
    refine ⟨g, F, env, _, k, w, fun d env1 F1 H1 p e1 k1 => ?_⟩
    cases d with
    | true => exact iteT ⟨g, F1, env1, _, k1, p, fun d2 env2 v2 F2 H2 p2 e2 k2 r2 => q d2 env2 v2 F2 H2 p2 (e1.trans e2) k2 r2⟩
    | false => exact iteF ⟨g, F1, env1, _, k1, p, fun d2 env2 v2 F2 H2 p2 e2 k2 r2 => q d2 env2 v2 F2 H2 p2 (e1.trans e2) k2 r2⟩

/-! ### arguments, displays -/
variable {was : DA}
def dNil (env : List SD) (P : List PyData → List SD → Prop) : Prop := P [] env
def dCons (wa : DE) (wr : DA) (env : List SD) (P : List PyData → List SD → Prop) : Prop := wa env fun x env1 => wr env1 fun xs env2 => P (x :: xs) env2
theorem anil : PA X [] (liftA X.K dNil) := PA.of pa_nil fun σ H Q h => by
  obtain ⟨g, F, env, P, k, w, q⟩ := h
  exact q [] env [] F H w (Ex.refl F) k .nil
theorem acons (ha : PE X e (liftE X.K wa)) (hr : PA X es (liftA X.K was)) (hs : starEach (e :: es) X.env = (false, eval e X.env) :: starEach es X.env := by rfl) : PA X (e :: es) (liftA X.K (dCons wa was)) :=
  PA.of (pa_cons ha hr hs) fun σ H Q h => by
    obtain ⟨g, F, env, P, k, w, q⟩ := h
    exact ⟨g, F, env, _, k, w, fun d env1 v F1 H1 p e1 k1 r1 => ⟨g, F1, env1, _, k1, p, fun ds env2 vs F2 H2 p2 e2 k2 r2 => q (d :: ds) env2 (v :: vs) F2 H2 p2 (e1.trans e2) k2 (.cons (r1.mono e2) r2)⟩⟩
def dTup (wa : DA) (env : List SD) (P : PyData → List SD → Prop) : Prop := wa env fun xs env' => bIf (Nat.ble xs.length 100000) (P (.tuple xs) env') False
def dLst (wa : DA) (env : List SD) (P : SD → List SD → Prop) : Prop := wa env fun xs env' => bIf (Nat.ble xs.length 100000) (P (.cel false xs) env') False
theorem dtup {k : _} (h : PA X es (liftA X.K was)) : PE X (.Tuple es k pos) (liftE X.K (dTup was)) :=
  PE.of (pe_tup h) fun σ H Q h => by
    obtain ⟨g, F, env, P, k, w, q⟩ := h
    refine ⟨g, F, env, _, k, w, fun ds env1 vs F1 H1 p e1 k1 r1 => ⟨by rw [r1.length]; exact Evl.sz_of (Nat.le_of_ble_eq_true (bIf_and p).1), fun x hx => ?_⟩⟩
    obtain ⟨e2, k2, r2⟩ := k1.newTup hx r1
    exact q _ env1 _ _ _ (bIf_and p).2 (e1.trans e2) k2 r2
theorem dlst (h : PA X es (liftA X.K was)) : PE X (.List es pos) (liftX X.K (dLst was)) :=
  PE.of (pe_lst h) fun σ H Q h => by
    obtain ⟨g, F, env, P, k, w, q⟩ := h
    refine ⟨g, F, env, _, k, w, fun ds env1 vs F1 H1 p e1 k1 r1 => ⟨by rw [r1.length]; exact Evl.sz_of (Nat.le_of_ble_eq_true (bIf_and p).1), fun x hx => ?_⟩⟩
    obtain ⟨k2, r2⟩ := k1.newCell hx r1
    exact q _ env1 _ _ _ (bIf_and p).2 e1 k2 r2
/-- a new list that is to stay as it is -/
def dFrz (w : DX) (env : List SD) (P : PyData → List SD → Prop) : Prop := w env fun r env' => match r with
  | .dat d => P d env'
  | .cel _ xs => P (.list xs) env'
  | .un => False
theorem dfrz {w : DX} (h : PE X e (liftX X.K w)) : PE X e (liftE X.K (dFrz w)) := PE.of h fun σ H Q h => by
  obtain ⟨g, F, env, P, k, w, q⟩ := h
  refine ⟨g, F, env, _, k, w, fun r env1 v F1 H1 p e1 k1 r1 => ?_⟩
  cases r with
  | un => exact p.elim
  | dat d => exact q d env1 v F1 H1 p e1 k1 r1
  | cel b xs =>
    obtain ⟨F2, e2, k2, r2⟩ := k1.freezeP r1
    exact q _ env1 v F2 H1 p (e1.trans e2) k2 r2
def dX (w : DE) (env : List SD) (P : SD → List SD → Prop) : Prop := w env fun d env' => P (.dat d) env'
theorem dx {w : DE} (h : PE X e (liftE X.K w)) : PE X e (liftX X.K (dX w)) := PE.of h fun σ H Q h => by
  obtain ⟨g, F, env, P, k, w, q⟩ := h
  exact ⟨g, F, env, _, k, w, fun d env1 v F1 H1 p e1 k1 r1 => q (.dat d) env1 v F1 H1 p e1 k1 r1⟩

/-! ### subscripts -/
theorem dix {r : R2} {f : D2} (ho : IxR X r) (hd : OpD X.K r f) (ha : PE X a (liftE X.K wa)) (hb : PE X b (liftE X.K wb)) (hs : PlainIx b := by intro _ _; rfl) : PE X (.Subscript a b pos) (liftE X.K (dOp f wa wb)) :=
  PE.of (pe_ix ho ha hb hs) fun _ _ _ h => lift_op hd h
theorem ixr_or {r r' : R2} (h : IxR X r) (h' : IxR X r') : IxR X (fun x y H Q => r x y H Q ∨ r' x y H Q) := by
  intro value slice pins s σ H x y v u Q I rx ry q hs
  rcases q with q | q
  · exact h value slice pins s σ H x y v u Q I rx ry q hs
  · exact h' value slice pins s σ H x y v u Q I rx ry q hs
/-- the item at a place -/
@[irreducible] def pick (xs : List PyData) (k : Int) (P : PyData → Prop) : Prop := match atI xs k with
  | some d => P d
  | none => False
theorem pick_inv {xs : List PyData} {k : Int} {P : PyData → Prop} (h : pick xs k P) : ∃ d, atI xs k = some d ∧ P d := by
  unfold pick at h
  cases e : atI xs k with
  | none => rw [e] at h; exact h.elim
  | some d => rw [e] at h; exact ⟨d, rfl, h⟩
def ixQ (xs : List PyData) (y : PyData) (K : PyData → Prop) : Prop := match y with
  | .int k => pick xs k K
  | _ => False
def oIx (x y : PyData) (P : PyData → Prop) : Prop := match x, y with
  | .tuple xs, .int k => pick xs k P
  | .list xs, .int k => pick xs k P
  | _, _ => False
theorem atI_rel {F : Hp} {vs : List V} {ds : List PyData} {k : Int} {d : PyData} (r : DRs K F vs ds) (h : atI ds k = some d) : ∃ v, atI vs k = some v ∧ DR K F v d := by
  unfold atI at h ⊢
  rw [r.length]
  cases e : ixN ds.length k with
  | none => rw [e] at h; cases h
  | some j =>
    rw [e] at h
    exact r.get h
def rIx (K : PySem.W.Frag) : R2 := fun x y H Q => rIxT K x y H Q ∨ rIxL K x y H Q
theorem ixr : IxR X (rIx X.K) := ixr_or ix_tup ix_list
theorem opd_ix : OpD K (rIx K) oIx := by
  intro g F env σ H vx vy dx dy P Q k rx ry p q
  unfold oIx at p
  split at p
  · rename_i xs i
    cases ry.inv_int
    obtain ⟨d, e, p⟩ := pick_inv p
    obtain ⟨a, us, rfl, h1, h2⟩ := rx.inv_tup
    obtain ⟨v, e1, e2⟩ := atI_rel h2 e
    exact .inl ⟨a, us, i, v, rfl, rfl, Evl.ex_t k.fh h1, e1, q d v F H p (Ex.refl F) k e2⟩
  · rename_i xs i
    cases ry.inv_int
    obtain ⟨d, e, p⟩ := pick_inv p
    obtain ⟨a, us, rfl, h1, h2⟩ := rx.inv_lst
    obtain ⟨v, e1, e2⟩ := atI_rel h2 e
    exact .inr ⟨a, us, i, v, rfl, rfl, (h1.mono k.fh).sq, e1, q d v F H p (Ex.refl F) k e2⟩
  · exact p.elim
theorem dixP (ha : PE X a (liftE X.K wa)) (hb : PE X b (liftE X.K wb)) (hs : PlainIx b := by intro _ _; rfl) : PE X (.Subscript a b pos) (liftE X.K (dOp oIx wa wb)) := dix ixr opd_ix ha hb hs
/-- an item of a name's own cell -/
def dIxC (i : Nat) (wb : DE) (env : List SD) (P : PyData → List SD → Prop) : Prop := match env[i]? with
  | some (.cel _ _) => wb env fun y env1 => match env1[i]? with
    | some (.cel _ xs) => ixQ xs y fun d => P d env1
    | _ => False
  | _ => False
theorem dixC (i : Nat) {x : Str} {p0 : Pos} (hb : PE X b (liftE X.K wb)) (hN : X.N[i]? = some x := by rfl) (hv : Vis X.env.scope x := by first | exact Or.inl rfl | exact Or.inr (Or.inl rfl) | exact Or.inr (Or.inr rfl)) (hd : (x == ("__debug__" : Str)) = false := by decide)
    (hcd : (x == ("__classdict__" : Str)) = false := by decide) (hs : PlainIx b := by intro _ _; rfl) : PE X (.Subscript (.Name x p0) b pos) (liftE X.K (dIxC i wb)) :=
  PE.of (pe_ix ix_list (pe_var hN hv hd hcd) hb hs) fun σ H Q h => by
    obtain ⟨g, F, env, P, k, w, q⟩ := h
    unfold dIxC at w
    split at w
    · rename_i p xs e
      obtain ⟨a0, vs, h1, _⟩ := k.cel i p xs e
      refine ⟨_, h1, g, F, env, _, k, w, fun d env1 v F1 H1 p1 e1 k1 r1 => ?_⟩
      split at p1
      · rename_i p' ys e'
        obtain ⟨n, rfl, p1⟩ : ∃ n, d = .int n ∧ pick ys n _ := by
          cases d <;> first | exact ⟨_, rfl, p1⟩ | exact p1.elim
        cases r1.inv_int
        obtain ⟨d', ed, p1⟩ := pick_inv p1
        obtain ⟨a1, ws, z1, z2, z3, z4, z5⟩ := k1.cel i _ _ e'
        rw [h1] at z1
        cases z1
        obtain ⟨u, u1, u2⟩ := atI_rel z4 ed
        exact ⟨a0, ws, n, u, rfl, rfl, SqL.of z3, u1, q d' env1 u F1 H1 p1 e1 k1 u2⟩
      · exact p1.elim
    · exact w.elim
end
end DL

/-! The data layer, part 3: operators and built-ins. -/
namespace DL
open PySem PySem.Spec PyProof.Rows L2
open Evl (Ex)

/-- a whole number of less than three hundred figures -/
def Sz (i : Int) : Prop := i.natAbs < 10 ^ 250
theorem Sz.log {i : Int} (h : Sz i) : i.natAbs.log2 < 840 := by
  have h1 : i.natAbs < 2 ^ 840 := Nat.lt_trans h (by decide +kernel)
  exact PySem.Flt.log2_lt_of (by decide) h1
theorem Sz.bits {i : Int} (h : Sz i) : Builtin.Int.intBits i ≤ 840 := by
  have h1 := h.log
  unfold Builtin.Int.intBits
  split <;> omega
theorem sz_of {i : Int} (h1 : -(10 ^ 100) ≤ i) (h2 : i ≤ 10 ^ 100) : Sz i := by
  unfold Sz
  have : i.natAbs ≤ 10 ^ 100 := by omega
  exact Nat.lt_of_le_of_lt this (by decide +kernel)
theorem sz_mul {i j : Int} (h1 : i.natAbs ≤ 10 ^ 120) (h2 : j.natAbs ≤ 10 ^ 120) : Sz (i * j) := by
  unfold Sz
  rw [Int.natAbs_mul]
  exact Nat.lt_of_le_of_lt (Nat.mul_le_mul h1 h2) (by decide +kernel)

section
variable {X : Cx} {K : PySem.W.Frag}
/-! ### numbers -/
def oI (g : Int → Int → PyData) (x y : PyData) (P : PyData → Prop) : Prop := match x, y with
  | .int i, .int j => P (g i j)
  | _, _ => False
theorem opd_I0 {gv : Int → Int → V} {gd : Int → Int → PyData} (hg : ∀ (F : Hp) i j, DR K F (gv i j) (gd i j)) : OpD K (rI0 gv) (oI gd) := by
  intro g F env σ H vx vy dx dy P Q k rx ry p q
  unfold oI at p
  split at p
  · cases rx.inv_int
    cases ry.inv_int
    exact ⟨_, _, rfl, rfl, q _ _ F H p (Ex.refl F) k (hg F _ _)⟩
  · exact p.elim
def oIc (C : Int → Int → Prop) (g : Int → Int → PyData) (x y : PyData) (P : PyData → Prop) : Prop := match x, y with
  | .int i, .int j => C i j ∧ P (g i j)
  | _, _ => False
theorem opd_I {C C' : Int → Int → Prop} {gv : Int → Int → V} {gd : Int → Int → PyData} (hc : ∀ i j, C i j → C' i j) (hg : ∀ (F : Hp) i j, DR K F (gv i j) (gd i j)) : OpD K (rI C' gv) (oIc C gd) := by
  intro g F env σ H vx vy dx dy P Q k rx ry p q
  unfold oIc at p
  split at p
  · cases rx.inv_int
    cases ry.inv_int
    exact ⟨_, _, rfl, rfl, hc _ _ p.1, q _ _ F H p.2 (Ex.refl F) k (hg F _ _)⟩
  · exact p.elim
abbrev oSub : D2 := oI fun i j => .int (i - j)
abbrev oLt : D2 := oI fun i j => .bool (decide (i < j))
abbrev oLe : D2 := oI fun i j => .bool (decide (i ≤ j))
abbrev oGt : D2 := oI fun i j => .bool (decide (j < i))
abbrev oGe : D2 := oI fun i j => .bool (decide (j ≤ i))
abbrev oMod : D2 := oIc (fun _ j => 0 < j) fun i j => .int (i % j)
abbrev oDiv : D2 := oIc (fun _ j => 0 < j ∧ Sz j) fun i j => .int (i / j)
abbrev oMulI : D2 := oIc (fun i j => Sz i ∧ Sz j) fun i j => .int (i * j)
abbrev oPow : D2 := oIc (fun i j => Sz i ∧ 0 ≤ j ∧ j ≤ 10000) fun i j => .int (i ^ j.toNat)
variable {a b c e : Expr} {es : List Expr} {pos : Pos} {wa wb wc w : DE}
theorem op_powW : OpR X (binaryOp .Pow) (rI (fun i j => Sz i ∧ 0 ≤ j ∧ j ≤ 10000) fun i j => .int (i ^ j.toNat)) := by
  intro pins s σ H x y v u Q I rx ry h
  obtain ⟨i, j, rfl, rfl, ⟨h1, h2, h3⟩, q⟩ := h
  obtain ⟨t, rfl⟩ := rx
  obtain ⟨t', rfl⟩ := ry
  refine PyProof.Rows.pow_int h2 ?_ ⟨.int _, H, I.tok _, ⟨_, rfl⟩, q⟩
  have b := h1.bits
  have z : (Builtin.Int.intBits i : Int) * j ≤ 840 * 10000 := Int.mul_le_mul (by omega) h3 h2 (by decide)
  exact Int.le_trans z (by decide)
theorem dsub (ha : PE X a (liftE X.K wa)) (hb : PE X b (liftE X.K wb)) : PE X (.BinOp a .Sub b pos) (liftE X.K (dOp oSub wa wb)) := dop op_sub (opd_I0 fun _ _ _ => .int _) ha hb
theorem dmod (ha : PE X a (liftE X.K wa)) (hb : PE X b (liftE X.K wb)) : PE X (.BinOp a .Mod b pos) (liftE X.K (dOp oMod wa wb)) := dop op_mod (opd_I (fun _ _ h => h) fun _ _ _ => .int _) ha hb
theorem ddiv (ha : PE X a (liftE X.K wa)) (hb : PE X b (liftE X.K wb)) : PE X (.BinOp a .FloorDiv b pos) (liftE X.K (dOp oDiv wa wb)) :=
  dop op_fdivW (opd_I (fun _ _ h => ⟨h.1, Nat.lt_trans h.2.log (by decide)⟩) fun _ _ _ => .int _) ha hb
theorem dmulI (ha : PE X a (liftE X.K wa)) (hb : PE X b (liftE X.K wb)) : PE X (.BinOp a .Mult b pos) (liftE X.K (dOp oMulI wa wb)) :=
  dop op_mulW (opd_I (fun _ _ h => by have h1 := h.1.log; have h2 := h.2.log; unfold CMulW; omega) fun _ _ _ => .int _) ha hb
theorem dpow (ha : PE X a (liftE X.K wa)) (hb : PE X b (liftE X.K wb)) : PE X (.BinOp a .Pow b pos) (liftE X.K (dOp oPow wa wb)) := dop op_powW (opd_I (fun _ _ h => h) fun _ _ _ => .int _) ha hb
theorem opr_lt : OpD K (rI0 fun i j => V.bl (decide (i < j))) oLt := opd_I0 fun _ _ _ => .bl _
theorem opr_le : OpD K (rI0 fun i j => V.bl (decide (i ≤ j))) oLe := opd_I0 fun _ _ _ => .bl _
theorem opr_gt : OpD K (rI0 fun i j => V.bl (decide (j < i))) oGt := opd_I0 fun _ _ _ => .bl _
theorem opr_ge : OpD K (rI0 fun i j => V.bl (decide (j ≤ i))) oGe := opd_I0 fun _ _ _ => .bl _
def oNeg (x : PyData) (P : PyData → Prop) : Prop := match x with
  | .int i => P (.int (-i))
  | _ => False
theorem dneg (ha : PE X a (liftE X.K wa)) : PE X (.UnaryOp .USub a pos) (liftE X.K (dUn oNeg wa)) := dun un_neg (by
  intro g F env σ H vx dx P Q k rx p q
  unfold oNeg at p
  split at p
  · cases rx.inv_int
    exact ⟨_, rfl, q _ _ F H p (Ex.refl F) k (.int _)⟩
  · exact p.elim) ha

/-! ### +, of numbers, texts, tuples, lists -/
def oAdd (x y : PyData) (P : PyData → Prop) : Prop := match x, y with
  | .int i, .int j => P (.int (i + j))
  | .tuple xs, .tuple ys => xs.length + ys.length ≤ 100000 ∧ P (.tuple (xs ++ ys))
  | .list xs, .list ys => xs.length + ys.length ≤ 100000 ∧ P (.list (xs ++ ys))
  | .str i, .str j => i.length + j.length ≤ 100000 ∧ P (.str (i ++ j))
  | _, _ => False
theorem sz2 {n : Nat} (h : n ≤ 100000) : n ≤ sizeLine := Evl.sz_of h
/-- two lists that stand, known to the object or not -/
def rCatL (K : PySem.W.Frag) : R2 := fun x y H Q => ∃ l b xs zs, x = .ref l ∧ y = .ref b ∧ RdL K H l xs ∧ RdL K H b zs ∧ xs.length + zs.length ≤ sizeLine ∧ ∀ p, H p = none → Q (.ref p) (upd H p (.lst (xs ++ zs)))
theorem op_catL : OpR X (binaryOp .Add) (rCatL X.K) := by
  intro pins s σ H x y v u Q I rx ry h
  obtain ⟨l, b, xs, zs, rfl, rfl, hl, hb, hz, q⟩ := h
  cases rx
  cases ry
  obtain ⟨z1, its, n, r1, e1⟩ := hl.obj I
  obtain ⟨z2, its2, n2, r2, e2⟩ := hb.obj I
  have l1 := r1.length
  have l2 := r2.length
  refine PySem.P.add_list e1 e2 ?_ (by rw [List.size_toArray, List.size_toArray]; omega)
  rw [show its.toArray ++ its2.toArray = (its ++ its2).toArray by simp]
  exact ⟨.ref _, _, I.lnew (t' := s.toks) (r1.append r2) (by rw [List.length_append]; omega), rfl, q _ I.fresh⟩
def rAddD (K : PySem.W.Frag) : R2 := fun x y H Q => ((rI0 fun i j => .int (i + j)) x y H Q ∨ rCatA K x y H Q) ∨ (rCatL K x y H Q ∨ (∃ i j, x = .str i ∧ y = .str j ∧ i.length + j.length ≤ sizeLine ∧ Q (.str (i ++ j)) H))
theorem op_addD : OpR X (binaryOp .Add) (rAddD X.K) := OpR.or (OpR.or op_add op_catA) (OpR.or op_catL op_add_str)
theorem opd_add : OpD K (rAddD K) oAdd := by
  intro g F env σ H vx vy dx dy P Q k rx ry p q
  unfold oAdd at p
  split at p
  · cases rx.inv_int
    cases ry.inv_int
    exact .inl (.inl ⟨_, _, rfl, rfl, q _ _ F H p (Ex.refl F) k (.int _)⟩)
  · rename_i xs ys
    obtain ⟨a, us, rfl, h1, h2⟩ := rx.inv_tup
    obtain ⟨b, ws, rfl, h3, h4⟩ := ry.inv_tup
    have l1 := h2.length
    have l2 := h4.length
    refine .inl (.inr ⟨a, b, us, ws, rfl, rfl, Evl.ex_t k.fh h1, Evl.ex_t k.fh h3, by rw [l1, l2]; exact sz2 p.1, fun e => ?_, fun _ e => ?_, fun _ _ x hx => ?_⟩)
    · subst e
      have : xs = [] := by cases h2; rfl
      subst this
      exact q _ _ F H p.2 (Ex.refl F) k ry
    · subst e
      have : ys = [] := by cases h4; rfl
      subst this
      rw [List.append_nil] at p
      exact q _ _ F H p.2 (Ex.refl F) k rx
    · obtain ⟨e2, k2, r2⟩ := k.newTup hx (h2.append h4)
      exact q _ _ _ _ p.2 e2 k2 r2
  · rename_i xs ys
    obtain ⟨a, us, rfl, h1, h2⟩ := rx.inv_lst
    obtain ⟨b, ws, rfl, h3, h4⟩ := ry.inv_lst
    have l1 := h2.length
    have l2 := h4.length
    refine .inr (.inl ⟨a, b, us, ws, rfl, rfl, h1.mono k.fh, h3.mono k.fh, by rw [l1, l2]; exact sz2 p.1, fun x hx => ?_⟩)
    obtain ⟨e2, k2, r2⟩ := k.newLst hx (h2.append h4)
    exact q _ _ _ _ p.2 e2 k2 r2
  · cases rx.inv_str
    cases ry.inv_str
    exact .inr (.inr ⟨_, _, rfl, rfl, sz2 p.1, q _ _ F H p.2 (Ex.refl F) k (.str _)⟩)
  · exact p.elim
theorem dadd (ha : PE X a (liftE X.K wa)) (hb : PE X b (liftE X.K wb)) : PE X (.BinOp a .Add b pos) (liftE X.K (dOp oAdd wa wb)) := dop op_addD opd_add ha hb

/-! ### ==, is None -/
mutual
theorem DR.dp {K : PySem.W.Frag} {H : Hp} : ∀ {d : PyData} {v : V}, DR K H v d → PyData.hasDict d = false → Dp K H v d
  | .none, _, h, _ => by cases h; exact .non
  | .bool b, _, h, _ => by cases h; exact .bl b
  | .int i, _, h, _ => by cases h; exact .int i
  | .str x, _, h, _ => by cases h; exact .str x
  | .list ds, _, h, hd => by
    cases h with
    | lst a b => exact .lst a.sq (DRs.dp b (by simpa [PyData.hasDict] using hd))
  | .tuple ds, _, h, hd => by
    cases h with
    | tup a b => exact .tup a (DRs.dp b (by simpa [PyData.hasDict] using hd))
  | .dict kvs, _, _, hd => by simp [PyData.hasDict] at hd
theorem DRs.dp {K : PySem.W.Frag} {H : Hp} : ∀ {ds : List PyData} {vs : List V}, DRs K H vs ds → PyData.hasDictAll ds = false → DpAll K H vs ds
  | [], _, h, _ => by cases h; exact .nil
  | d :: ds, _, h, hd => by
    simp only [PyData.hasDictAll, Bool.or_eq_false_iff] at hd
    cases h with
    | cons a b => exact .cons (DR.dp a hd.1) (DRs.dp b hd.2)
end
/-- == of two data, not to be looked into -/
@[irreducible] def eqD (x y : PyData) : Bool := PyData.eqv x y
theorem eqD_eq {x y : PyData} : eqD x y = PyData.eqv x y := by
  unfold eqD
  rfl
theorem eqD_int {i j : Int} : eqD (.int i) (.int j) = decide (i = j) := by
  rw [eqD_eq]
  show (i == j) = _
  rw [Bool.beq_eq_decide_eq]
def oEq (x y : PyData) (P : PyData → Prop) : Prop := match x, y with
  | .str a, .str b => P (.bool (decide (a = b)))
  | x, y => (SeqAt.shaped x = true ∧ SeqAt.shaped y = true) ∧ P (.bool (eqD x y))
def oNe (x y : PyData) (P : PyData → Prop) : Prop := match x, y with
  | .str a, .str b => P (.bool (!decide (a = b)))
  | x, y => (SeqAt.shaped x = true ∧ SeqAt.shaped y = true) ∧ P (.bool (!eqD x y))
theorem dict_of_shaped {d : PyData} (h : SeqAt.shaped d = true) : PyData.hasDict d = false := PyData.hasDict_of_canLay d (SeqAt.canLay_of_shaped h)
def rEqE (K : PySem.W.Frag) : R2 := fun x y H Q => rEq x y H Q ∨ rEqD K x y H Q
def rNeE (K : PySem.W.Frag) : R2 := fun x y H Q => rNe x y H Q ∨ rNeD K x y H Q
theorem op_eqE (hu : X.A.units + 64 < cLine) : OpR X (compareOp .Eq) (rEqE X.K) := OpR.or op_eq (op_eqD hu)
theorem op_neE (hu : X.A.units + 64 < cLine) : OpR X (compareOp .NotEq) (rNeE X.K) := OpR.or op_ne (op_neD hu)
theorem str_dec {a b : Str} : decide (V.str a = V.str b) = decide (a = b) := by
  by_cases h : a = b
  · subst h
    rw [decide_eq_true rfl, decide_eq_true rfl]
  · rw [decide_eq_false h, decide_eq_false (fun z => h (V.str.inj z))]
theorem opd_eq : OpD K (rEqE K) oEq := by
  intro g F env σ H vx vy dx dy P Q k rx ry p q
  unfold oEq at p
  split at p
  · cases rx.inv_str
    cases ry.inv_str
    refine .inl ⟨rfl, ?_⟩
    rw [str_dec]
    exact q _ _ F H p (Ex.refl F) k (.bl _)
  · obtain ⟨⟨h1, h2⟩, p⟩ := p
    rw [eqD_eq] at p
    exact .inr ⟨_, _, DR.dp (drH k rx) (dict_of_shaped h1), DR.dp (drH k ry) (dict_of_shaped h2), h1, h2, q _ _ F H p (Ex.refl F) k (.bl _)⟩
theorem opd_ne : OpD K (rNeE K) oNe := by
  intro g F env σ H vx vy dx dy P Q k rx ry p q
  unfold oNe at p
  split at p
  · cases rx.inv_str
    cases ry.inv_str
    refine .inl ⟨rfl, ?_⟩
    rw [str_dec]
    exact q _ _ F H p (Ex.refl F) k (.bl _)
  · obtain ⟨⟨h1, h2⟩, p⟩ := p
    rw [eqD_eq] at p
    exact .inr ⟨_, _, DR.dp (drH k rx) (dict_of_shaped h1), DR.dp (drH k ry) (dict_of_shaped h2), h1, h2, q _ _ F H p (Ex.refl F) k (.bl _)⟩
def oIsN (x : PyData) (P : PyData → Prop) : Prop := match x with
  | .none => P (.bool true)
  | _ => P (.bool false)
def oNotN (x : PyData) (P : PyData → Prop) : Prop := match x with
  | .none => P (.bool false)
  | _ => P (.bool true)
theorem non_iff {F : Hp} {v : V} {d : PyData} (r : DR K F v d) : decide (v = .non) = match d with | .none => true | _ => false := by
  cases r <;> first | rfl | (apply decide_eq_false; intro h; cases h)
theorem disN {j pos'} (ha : PE X a (liftE X.K wa)) : PE X (.Compare a [.Is] [.Constant .none j pos'] pos) (liftE X.K (dUn oIsN wa)) :=
  PE.of (pe_cmp (pc_isN ha) rfl) fun σ H Q h => by
    obtain ⟨g, F, env, P, k, w, q⟩ := h
    refine ⟨g, F, env, _, k, w, fun d env1 v F1 H1 p e1 k1 r1 => ?_⟩
    show Q (.bl (decide (v = V.non))) H1
    rw [non_iff r1]
    cases d <;> exact q _ env1 _ F1 H1 p e1 k1 (.bl _)
theorem dnotN {j pos'} (ha : PE X a (liftE X.K wa)) : PE X (.Compare a [.IsNot] [.Constant .none j pos'] pos) (liftE X.K (dUn oNotN wa)) :=
  PE.of (pe_cmp (pc_notN ha) rfl) fun σ H Q h => by
    obtain ⟨g, F, env, P, k, w, q⟩ := h
    refine ⟨g, F, env, _, k, w, fun d env1 v F1 H1 p e1 k1 r1 => ?_⟩
    show Q (.bl (!decide (v = V.non))) H1
    rw [non_iff r1]
    cases d <;> exact q _ env1 _ F1 H1 p e1 k1 (.bl _)
theorem tisN {j pos'} (ha : PE X a (liftE X.K wa)) : PT X (.Compare a [.Is] [.Constant .none j pos'] pos) (liftT X.K (dTest (dUn oIsN wa))) :=
  PT.of (pt_cmp (pc_isN ha) rfl) fun σ H Q h => by
    obtain ⟨g, F, env, P, k, w, q⟩ := h
    refine ⟨g, F, env, _, k, w, fun d env1 v F1 H1 p e1 k1 r1 => ?_⟩
    refine ⟨_, rfl, ?_⟩
    rw [non_iff r1]
    cases d <;> exact q _ env1 F1 H1 p e1 k1
theorem tnotN {j pos'} (ha : PE X a (liftE X.K wa)) : PT X (.Compare a [.IsNot] [.Constant .none j pos'] pos) (liftT X.K (dTest (dUn oNotN wa))) :=
  PT.of (pt_cmp (pc_notN ha) rfl) fun σ H Q h => by
    obtain ⟨g, F, env, P, k, w, q⟩ := h
    refine ⟨g, F, env, _, k, w, fun d env1 v F1 H1 p e1 k1 r1 => ?_⟩
    refine ⟨_, rfl, ?_⟩
    rw [non_iff r1]
    cases d <;> exact q _ env1 F1 H1 p e1 k1

/-! ### built-ins by name -/
abbrev DN := List PyData → (PyData → Prop) → Prop
def dB (f : DN) (wa : DA) (env : List SD) (P : PyData → List SD → Prop) : Prop := wa env fun xs env' => f xs fun z => P z env'
def CallD (K : PySem.W.Frag) (r : List V → Hp → VK → Prop) (f : DN) : Prop :=
  ∀ (g : Gx) (F : Hp) (env : List SD) (σ : L2.St) (H : Hp) (vs : List V) (ds : List PyData) (P : PyData → Prop) (Q : VK), Ok K g F env σ H → DRs K F vs ds → f ds P →
    (∀ d v F' H', P d → Ex F F' → Ok K g F' env σ H' → DR K F' v d → Q v H') → r vs H Q
theorem lift_call {r : List V → Hp → VK → Prop} {f : DN} {was : DA} (hd : CallD K r f) {σ : L2.St} {H : Hp} {Q : VK} (h : liftE K (dB f was) σ H Q) : tCB r (liftA K was) σ H Q := by
  obtain ⟨g, F, env, P, k, w, q⟩ := h
  refine ⟨g, F, env, _, k, w, fun ds env1 vs F1 H1 p e1 k1 r1 => ?_⟩
  exact hd g F1 env1 σ H1 vs ds _ Q k1 r1 p fun d2 v2 F2 H2 p2 e2 k2 r2 => q d2 env1 v2 F2 H2 p2 (e1.trans e2) k2 r2
theorem dcb {x : Str} {id : String} {p : Pos} {r : List V → Hp → VK → Prop} {f : DN} {was : DA} (hc : CallR X (.builtin id) r) (hd : CallD X.K r f) (hm : X.mg x = none) (hv : bootBuiltins x = some (.builtin id)) (ha : PA X (e :: es) (liftA X.K was))
    (hg : Gl X x := by rfl) (hn : x ≠ "__name__" := by decide) (hdb : (x == ("__debug__" : Str)) = false := by decide)
    (he : starEach (e :: es) X.env = (false, eval e X.env) :: starEach es X.env := by rfl) (hpl : (backTo pos (starEach es X.env)).any (·.1) = false := by rfl) : PE X (.Call (.Name x p) (e :: es) [] pos) (liftE X.K (dB f was)) :=
  PE.of (pe_callB hc hg hm hv ha hn hdb he hpl) fun _ _ _ h => lift_call hd h
theorem dct {x : Str} {T : String} {p : Pos} {r : List V → Hp → VK → Prop} {f : DN} {was : DA} (hc : CallR X (.type T) r) (hd : CallD X.K r f) (hm : X.mg x = none) (hv : bootBuiltins x = some (.type T)) (ha : PA X (e :: es) (liftA X.K was))
    (hg : Gl X x := by rfl) (hn : x ≠ "__name__" := by decide) (hdb : (x == ("__debug__" : Str)) = false := by decide)
    (he : starEach (e :: es) X.env = (false, eval e X.env) :: starEach es X.env := by rfl) (hpl : (backTo pos (starEach es X.env)).any (·.1) = false := by rfl) : PE X (.Call (.Name x p) (e :: es) [] pos) (liftE X.K (dB f was)) :=
  PE.of (pe_callTy hc hg hm hv ha hn hdb he hpl) fun _ _ _ h => lift_call hd h
variable {was : DA} {p : Pos}
/-- all whole numbers -/
def intsD : List PyData → Option (List Int)
  | [] => some []
  | .int i :: r => (intsD r).map (i :: ·)
  | _ :: _ => none
def boolsD : List PyData → Option (List Bool)
  | [] => some []
  | .bool i :: r => (boolsD r).map (i :: ·)
  | _ :: _ => none
theorem ints_rel {F : Hp} : ∀ {ds : List PyData} {vs : List V} {ns : List Int}, DRs K F vs ds → intsD ds = some ns → vs = ns.map V.int
  | [], _, _, h, e => by cases h; cases e; rfl
  | .int i :: r, _, ns, h, e => by
    cases h with
    | cons a b =>
      cases q : intsD r with
      | none => simp [intsD, q] at e
      | some ms =>
        simp only [intsD, q, Option.map_some, Option.some.injEq] at e
        subst e
        cases a.inv_int
        rw [ints_rel b q]
        rfl
  | .none :: _, _, _, _, e => by simp [intsD] at e
  | .bool _ :: _, _, _, _, e => by simp [intsD] at e
  | .str _ :: _, _, _, _, e => by simp [intsD] at e
  | .list _ :: _, _, _, _, e => by simp [intsD] at e
  | .tuple _ :: _, _, _, _, e => by simp [intsD] at e
  | .dict _ :: _, _, _, _, e => by simp [intsD] at e
theorem bools_rel {F : Hp} : ∀ {ds : List PyData} {vs : List V} {ns : List Bool}, DRs K F vs ds → boolsD ds = some ns → vs = ns.map V.bl
  | [], _, _, h, e => by cases h; cases e; rfl
  | .bool i :: r, _, ns, h, e => by
    cases h with
    | cons a b =>
      cases q : boolsD r with
      | none => simp [boolsD, q] at e
      | some ms =>
        simp only [boolsD, q, Option.map_some, Option.some.injEq] at e
        subst e
        cases a.inv_bool
        rw [bools_rel b q]
        rfl
  | .none :: _, _, _, _, e => by simp [boolsD] at e
  | .int _ :: _, _, _, _, e => by simp [boolsD] at e
  | .str _ :: _, _, _, _, e => by simp [boolsD] at e
  | .list _ :: _, _, _, _, e => by simp [boolsD] at e
  | .tuple _ :: _, _, _, _, e => by simp [boolsD] at e
  | .dict _ :: _, _, _, _, e => by simp [boolsD] at e
def nLen (xs : List PyData) (P : PyData → Prop) : Prop := match xs with
  | [.list ds] => P (.int (ds.length : Nat))
  | [.tuple ds] => P (.int (ds.length : Nat))
  | [.str x] => x.length ≤ 100000 ∧ P (.int (x.length : Nat))
  | _ => False
theorem dlen (hm : X.mg "len" = none) (ha : PA X (e :: es) (liftA X.K was)) (hg : Gl X "len" := by rfl)
    (he : starEach (e :: es) X.env = (false, eval e X.env) :: starEach es X.env := by rfl) (hpl : (backTo pos (starEach es X.env)).any (·.1) = false := by rfl) : PE X (.Call (.Name "len" p) (e :: es) [] pos) (liftE X.K (dB nLen was)) :=
  dcb call_len (fun g F env σ H vs ds P Q k r f q => by
    unfold nLen at f
    split at f
    · obtain ⟨v, rfl, r0⟩ := r.inv1
      obtain ⟨a, us, rfl, h1, h2⟩ := r0.inv_lst
      exact ⟨_, us.length, rfl, .inl ⟨us, (h1.mono k.fh).sq, rfl⟩, by rw [h2.length]; exact q _ _ F H f (Ex.refl F) k (.int _)⟩
    · obtain ⟨v, rfl, r0⟩ := r.inv1
      obtain ⟨a, us, rfl, h1, h2⟩ := r0.inv_tup
      exact ⟨_, us.length, rfl, .inr ⟨us, Evl.ex_t k.fh h1, rfl⟩, by rw [h2.length]; exact q _ _ F H f (Ex.refl F) k (.int _)⟩
    · obtain ⟨v, rfl, r0⟩ := r.inv1
      cases r0.inv_str
      exact ⟨_, _, rfl, ⟨sz2 f.1, rfl⟩, q _ _ F H f.2 (Ex.refl F) k (.int _)⟩
    · exact f.elim) hm PySem.boot_len ha hg (by decide) (by decide) he hpl
def nAbs (xs : List PyData) (P : PyData → Prop) : Prop := match xs with
  | [.int i] => P (.int (if i < 0 then -i else i))
  | _ => False
theorem dabs (hm : X.mg "abs" = none) (ha : PA X (e :: es) (liftA X.K was)) (hg : Gl X "abs" := by rfl)
    (he : starEach (e :: es) X.env = (false, eval e X.env) :: starEach es X.env := by rfl) (hpl : (backTo pos (starEach es X.env)).any (·.1) = false := by rfl) : PE X (.Call (.Name "abs" p) (e :: es) [] pos) (liftE X.K (dB nAbs was)) :=
  dcb call_abs (fun g F env σ H vs ds P Q k r f q => by
    unfold nAbs at f
    split at f
    · obtain ⟨v, rfl, r0⟩ := r.inv1
      cases r0.inv_int
      exact ⟨_, rfl, q _ _ F H f (Ex.refl F) k (.int _)⟩
    · exact f.elim) hm (by decide +kernel) ha hg (by decide) (by decide) he hpl
def nMin2 (xs : List PyData) (P : PyData → Prop) : Prop := match xs with
  | [.int i, .int j] => P (.int (if j < i then j else i))
  | _ => False
def nMax2 (xs : List PyData) (P : PyData → Prop) : Prop := match xs with
  | [.int i, .int j] => P (.int (if j > i then j else i))
  | _ => False
theorem dmin2 (hm : X.mg "min" = none) (hc : X.calm = true) (ha : PA X (e :: es) (liftA X.K was)) (hg : Gl X "min" := by rfl)
    (he : starEach (e :: es) X.env = (false, eval e X.env) :: starEach es X.env := by rfl) (hpl : (backTo pos (starEach es X.env)).any (·.1) = false := by rfl) : PE X (.Call (.Name "min" p) (e :: es) [] pos) (liftE X.K (dB nMin2 was)) :=
  dcb (call_min2 hc) (fun g F env σ H vs ds P Q k r f q => by
    unfold nMin2 at f
    split at f
    · obtain ⟨v, w, rfl, r1, r2⟩ := r.inv2
      cases r1.inv_int
      cases r2.inv_int
      exact ⟨_, _, rfl, q _ _ F H f (Ex.refl F) k (.int _)⟩
    · exact f.elim) hm (by decide +kernel) ha hg (by decide) (by decide) he hpl
theorem dmax2 (hm : X.mg "max" = none) (hc : X.calm = true) (ha : PA X (e :: es) (liftA X.K was)) (hg : Gl X "max" := by rfl)
    (he : starEach (e :: es) X.env = (false, eval e X.env) :: starEach es X.env := by rfl) (hpl : (backTo pos (starEach es X.env)).any (·.1) = false := by rfl) : PE X (.Call (.Name "max" p) (e :: es) [] pos) (liftE X.K (dB nMax2 was)) :=
  dcb (call_max2 hc) (fun g F env σ H vs ds P Q k r f q => by
    unfold nMax2 at f
    split at f
    · obtain ⟨v, w, rfl, r1, r2⟩ := r.inv2
      cases r1.inv_int
      cases r2.inv_int
      exact ⟨_, _, rfl, q _ _ F H f (Ex.refl F) k (.int _)⟩
    · exact f.elim) hm (by decide +kernel) ha hg (by decide) (by decide) he hpl
def nAll (xs : List PyData) (P : PyData → Prop) : Prop := match xs with
  | [.list ds] => (match boolsD ds with | some bs => P (.bool (bs.all id)) | none => False)
  | _ => False
def nAny (xs : List PyData) (P : PyData → Prop) : Prop := match xs with
  | [.list ds] => (match boolsD ds with | some bs => P (.bool (bs.any id)) | none => False)
  | _ => False
def nSumL (xs : List PyData) (P : PyData → Prop) : Prop := match xs with
  | [.list ds] => (match intsD ds with | some bs => P (.int bs.sum) | none => False)
  | _ => False
theorem dall (hm : X.mg "all" = none) (hc : X.calm = true) (ha : PA X (e :: es) (liftA X.K was)) (hg : Gl X "all" := by rfl)
    (he : starEach (e :: es) X.env = (false, eval e X.env) :: starEach es X.env := by rfl) (hpl : (backTo pos (starEach es X.env)).any (·.1) = false := by rfl) : PE X (.Call (.Name "all" p) (e :: es) [] pos) (liftE X.K (dB nAll was)) :=
  dcb (cr_all hc) (fun g F env σ H vs ds P Q k r f q => by
    unfold nAll at f
    split at f
    · split at f
      · rename_i bs e
        obtain ⟨v, rfl, r0⟩ := r.inv1
        obtain ⟨a, us, rfl, h1, h2⟩ := r0.inv_lst
        cases bools_rel h2 e
        exact ⟨a, bs, rfl, (h1.mono k.fh).sq, q _ _ F H f (Ex.refl F) k (.bl _)⟩
      · exact f.elim
    · exact f.elim) hm (by decide +kernel) ha hg (by decide) (by decide) he hpl
theorem dany (hm : X.mg "any" = none) (hc : X.calm = true) (ha : PA X (e :: es) (liftA X.K was)) (hg : Gl X "any" := by rfl)
    (he : starEach (e :: es) X.env = (false, eval e X.env) :: starEach es X.env := by rfl) (hpl : (backTo pos (starEach es X.env)).any (·.1) = false := by rfl) : PE X (.Call (.Name "any" p) (e :: es) [] pos) (liftE X.K (dB nAny was)) :=
  dcb (cr_any hc) (fun g F env σ H vs ds P Q k r f q => by
    unfold nAny at f
    split at f
    · split at f
      · rename_i bs e
        obtain ⟨v, rfl, r0⟩ := r.inv1
        obtain ⟨a, us, rfl, h1, h2⟩ := r0.inv_lst
        cases bools_rel h2 e
        exact ⟨a, bs, rfl, (h1.mono k.fh).sq, q _ _ F H f (Ex.refl F) k (.bl _)⟩
      · exact f.elim
    · exact f.elim) hm (by decide +kernel) ha hg (by decide) (by decide) he hpl
/-- isinstance(x, T), T a built-in type -/
def tyName : PyData → String
  | .none => "NoneType"
  | .bool _ => "bool"
  | .int _ => "int"
  | .str _ => "str"
  | .list _ => "list"
  | .tuple _ => "tuple"
  | .dict _ => "dict"
def isiB (d : PyData) (T : String) : Bool := (T == tyName d) || (T == "int" && tyName d == "bool")
theorem tyX_of {F : Hp} {v : V} {d : PyData} (r : DR K F v d) : TyX K F v (.type (tyName d)) := by
  cases r with
  | non => exact .base .non
  | bl b => exact .base (.bl b)
  | int i => exact .base (.int i)
  | str x => exact .base (.str x)
  | lst h _ =>
    rcases h with (h | ⟨o, h⟩) | ⟨its, n, h, _⟩
    · exact .base (.lst h)
    · exact .base (.frz h)
    · exact .kList h rfl
  | tup h _ =>
    rcases h with (h | ⟨o, h⟩) | ⟨o, its, n, h, hc, _⟩
    · exact .base (.tup h)
    · exact .fTuple h
    · exact .kTuple h hc
  | dct h _ _ => exact .base (.dK h)
theorem kit_isi (d : PyData) : ∀ T ∈ ["int", "bool", "str", "list", "tuple", "dict"], PySem.W.kitOne K (.type (tyName d)) (.type T) = some (isiB d T) := by
  have h : ∀ N ∈ ["NoneType", "bool", "int", "str", "list", "tuple", "dict"], ∀ T ∈ ["int", "bool", "str", "list", "tuple", "dict"], kitB N T = some ((T == N) || (T == "int" && N == "bool")) := by decide +kernel
  intro T hT
  exact kit_ty (h (tyName d) (by cases d <;> simp [tyName]) T hT)
def dIsi (T : String) (wa : DE) (env : List SD) (P : PyData → List SD → Prop) : Prop := wa env fun d env' => P (.bool (isiB d T)) env'
theorem disi (T : String) (xT : Str) {p q2 : Pos} (hm : X.mg "isinstance" = none) (hmT : X.mg xT = none) (hvT : bootBuiltins xT = some (.type T)) (hT : T ∈ ["int", "bool", "str", "list", "tuple", "dict"]) (ha : PE X a (liftE X.K wa)) (hg : Gl X "isinstance" := by rfl) (hgT : Gl X xT := by rfl)
    (hnT : xT ≠ "__name__" := by decide) (hdT : (xT == ("__debug__" : Str)) = false := by decide)
    (hs1 : starEach [a, .Name xT q2] X.env = (false, eval a X.env) :: starEach [.Name xT q2] X.env := by rfl) (hs2 : starEach [.Name xT q2] X.env = (false, eval (.Name xT q2) X.env) :: starEach [] X.env := by rfl)
    (hpl : (backTo pos (starEach [Expr.Name xT q2] X.env)).any (·.1) = false := by rfl) : PE X (.Call (.Name "isinstance" p) [a, .Name xT q2] [] pos) (liftE X.K (dIsi T wa)) :=
  PE.of (pe_callB call_isi hg hm (by decide +kernel) (pa_cons ha (pa_cons (pe_bltn (v := .ty T) hgT hmT hvT rfl hnT hdT) pa_nil hs2) hs1) (by decide) (by decide) hs1 hpl) fun σ H Q h => by
    obtain ⟨g, F, env, P, k, w, q⟩ := h
    refine ⟨g, F, env, _, k, w, fun d env1 v F1 H1 p e1 k1 r1 => ?_⟩
    exact ⟨v, .ty T, _, _, _, rfl, .ty T, tyX_of (drH k1 r1), kit_isi d T hT, q _ env1 _ F1 H1 p e1 k1 (.bl _)⟩
end
end DL

/-! The data layer, part 4: what a def does with data; calls. -/
namespace DL
open PySem PySem.Spec PyProof.Rows L2
open Evl (Ex)

abbrev DSp := List SD → (SD → List SD → Prop) → Prop
structure ArgsOk (K : PySem.W.Frag) (F H : Hp) (vs : List V) (as : List SD) : Prop where
  len : as.length = vs.length
  fh : Ex F H
  dat : ∀ (i : Nat) (d : PyData), as[i]? = some (.dat d) → ∃ v, vs[i]? = some v ∧ DR K F v d
  cel : ∀ (i : Nat) (p : Bool) (xs : List PyData), as[i]? = some (.cel p xs) → p = true ∧ ∃ a us, vs[i]? = some (.ref a) ∧ F a = none ∧ H a = some (.lst us) ∧ DRs K F us xs
  sep : ∀ (i j : Nat) (p q : Bool) (xs ys : List PyData) (a : Addr), as[i]? = some (.cel p xs) → as[j]? = some (.cel q ys) → vs[i]? = some (.ref a) → vs[j]? = some (.ref a) → i = j
structure PostOk (K : PySem.W.Frag) (F H : Hp) (vs : List V) (as : List SD) (F' H' : Hp) (as' : List SD) (v : V) (r : SD) : Prop where
  ex : Ex F F'
  fh : Ex F' H'
  newF : ∀ (a : Addr) (o : HO), F' a = some o → F a = some o ∨ H a = none
  frame : ∀ (a : Addr) (o : HO), H a = some o → (∀ (i : Nat) (p : Bool) (xs : List PyData), as[i]? = some (.cel p xs) → vs[i]? ≠ some (.ref a)) → H' a = some o
  cel : ∀ (i : Nat) (p : Bool) (xs : List PyData) (a : Addr), as[i]? = some (.cel p xs) → vs[i]? = some (.ref a) → ∃ ys us, as'[i]? = some (.cel true ys) ∧ F' a = none ∧ H' a = some (.lst us) ∧ DRs K F' us ys
  res : match r with
    | .un => False
    | .dat d => DR K F' v d
    | .cel _ xs => ∃ a us, v = .ref a ∧ F' a = none ∧ H' a = some (.lst us) ∧ DRs K F' us xs ∧ H a = none
def spD (K : PySem.W.Frag) (S : DSp) (vs : List V) (H : Hp) (Q : VK) : Prop := ∃ (F : Hp) (as : List SD) (P : SD → List SD → Prop), ArgsOk K F H vs as ∧ S as P ∧
  ∀ r as' v F' H', P r as' → PostOk K F H vs as F' H' as' v r → Q v H'
/-- the def at f keeps its promise of data; n: its parameters; it raises nothing -/
structure FnG (P : Program) (w : World) (K : PySem.W.Frag) (mg : Str → Option Value) (base : Heap) (k : Nat) (f : Addr) (fd : FuncData) (ps : List Str) (S : DSp) : Prop where
  len : ∀ as Q, S as Q → as.length = ps.length
  go : ∀ (A : Around) (outer : List Env) (s : Shared) (H : Hp) (args : Args) (us : List Value) (vs : List V) (Q : VK), Room k A → A.guards = some [] → Env0 P w K mg base A outer s H →
    BindsTo s fd args (ps.zip us) → Vals vs us → spD K S vs H Q → codeAny (model P w) A (.call (.ref f) args) (CR CX0 outer P w H s Q E0) s
theorem FnG.mono {P : Program} {w : World} {K : PySem.W.Frag} {mg : Str → Option Value} {base : Heap} {j k : Nat} {f : Addr} {fd : FuncData} {ps : List Str} {S : DSp} (F : FnG P w K mg base j f fd ps S) (h : j ≤ k) : FnG P w K mg base k f fd ps S :=
  ⟨F.len, fun A outer s H args us vs Q hr => F.go A outer s H args us vs Q (hr.mono h)⟩
/-- another promise, that follows -/
theorem FnG.imp {P : Program} {w : World} {K : PySem.W.Frag} {mg : Str → Option Value} {base : Heap} {k : Nat} {f : Addr} {fd : FuncData} {ps : List Str} {S S' : DSp} (F : FnG P w K mg base k f fd ps S) (h : ∀ as Q, S' as Q → S as Q) : FnG P w K mg base k f fd ps S' :=
  ⟨fun as Q q => F.len as Q (h _ _ q), fun A outer s H args us vs Q hr hg e hb r ⟨F0, as, P, a1, a2, a3⟩ => F.go A outer s H args us vs Q hr hg e hb r ⟨F0, as, P, a1, h _ _ a2, a3⟩⟩

section
variable {K : PySem.W.Frag} {g : Gx} {F F' : Hp} {env : List SD} {σ : L2.St} {H H' : Hp}
/-- behind a call without cells -/
theorem Ok.after (k : Ok K g F env σ H) {vs : List V} {as as' : List SD} {v : V} {r : SD} (hc : ∀ (i : Nat) (p : Bool) (xs : List PyData), as[i]? ≠ some (.cel p xs)) (p : PostOk K F H vs as F' H' as' v r) : Ok K g F' env σ H' ∧ ResOk K g F' env σ H' v r := by
  have fr : ∀ (a : Addr) (o : HO), H a = some o → H' a = some o := fun a o e => p.frame a o e fun i q xs z => absurd z (hc i q xs)
  have keepN : ∀ (a : Addr) (o : HO), H a = some o → F a = none → F' a = none := fun a o e n => by
    cases q : F' a with
    | none => rfl
    | some u =>
      rcases p.newF a u q with z | z
      · rw [n] at z; cases z
      · rw [e] at z; cases z
  refine ⟨⟨k.len, p.fh, fun i d e => ?_, fun i q xs e => ?_, k.sep, k.pin, fun a o e n => fr a o (k.frame a o e n), fun a o e => ?_, fun a o e => p.ex a o (k.oldF a o e), fun a o e => ?_⟩, ?_⟩
  · obtain ⟨u, h1, h2⟩ := k.dat i d e
    exact ⟨u, h1, h2.mono p.ex⟩
  · obtain ⟨a, us, h1, h2, h3, h4, h5⟩ := k.cel i q xs e
    exact ⟨a, us, h1, keepN a _ h3 h2, fr a _ h3, h4.mono p.ex, h5⟩
  · rcases p.newF a o e with z | z
    · exact k.newF a o z
    · exact .inr (k.fresh0 z)
  · obtain ⟨z1, z2, z3⟩ := k.prot a o e
    exact ⟨fr a o z1, keepN a o z1 z2, z3⟩
  · have pr := p.res
    cases r with
    | un => exact pr
    | dat d => exact pr
    | cel b xs =>
      obtain ⟨a, us, h1, h2, h3, h4, h5⟩ := pr
      refine ⟨a, us, h1, h2, h3, h4, k.fresh0 h5, ?_, fun j q ys e z => ?_⟩
      · cases e : g.Pr a with
        | none => rfl
        | some u =>
          have z := (k.prot a u e).1
          rw [h5] at z
          cases z
      · obtain ⟨a', ws, z1, _, z3, _⟩ := k.cel j q ys e
        rw [z] at z1
        cases z1
        rw [h5] at z3
        cases z3
/-- behind a call whose first argument is the cell of the name i -/
theorem Ok.afterC (k : Ok K g F env σ H) {i : Nat} {p : Bool} {xs : List PyData} {a : Addr} {vs : List V} {ds : List PyData} {as' : List SD} {v : V} {r : SD} (he : env[i]? = some (.cel p xs)) (hs : σ[i]? = some (some (.ref a)))
    (q : PostOk K F H (.ref a :: vs) (.cel true xs :: ds.map .dat) F' H' as' v r) : ∃ ys rest, as' = .cel true ys :: rest ∧ Ok K g F' (env.set i (.cel p ys)) σ H' ∧ ResOk K g F' (env.set i (.cel p ys)) σ H' v r := by
  obtain ⟨a0, us0, b1, b2, b3, b4, b5, b6⟩ := k.cel i p xs he
  rw [hs] at b1
  cases b1
  obtain ⟨ys, us, c1, c2, c3, c4⟩ := q.cel 0 true xs a rfl rfl
  obtain ⟨rest, rfl⟩ : ∃ rest, as' = .cel true ys :: rest := by
    cases as' with
    | nil => simp at c1
    | cons x rest => simp at c1; subst c1; exact ⟨rest, rfl⟩
  have fr : ∀ (b : Addr) (o : HO), H b = some o → b ≠ a → H' b = some o := fun b o e ne => q.frame b o e fun j p' xs' z z2 => by
    cases j with
    | zero => simp at z2; exact ne z2.symm
    | succ j =>
      simp only [List.getElem?_cons_succ, List.getElem?_map] at z
      cases y : ds[j]? with
      | none => rw [y] at z; cases z
      | some d => rw [y] at z; cases z
  have keepN : ∀ (b : Addr) (o : HO), H b = some o → F b = none → F' b = none := fun b o e n => by
    cases y : F' b with
    | none => rfl
    | some u =>
      rcases q.newF b u y with z | z
      · rw [n] at z; cases z
      · rw [e] at z; cases z
  have oth : ∀ {j : Nat} {p' : Bool} {zs : List PyData}, (env.set i (SD.cel p ys))[j]? = some (.cel p' zs) → ∃ p2 z2, env[j]? = some (.cel p2 z2) := fun {j p' zs} z => by
    rcases get_set z with ⟨rfl, _⟩ | ⟨_, z⟩
    · exact ⟨_, _, he⟩
    · exact ⟨_, _, z⟩
  refine ⟨ys, rest, rfl, ⟨by simp [k.len], q.fh, fun j d e => ?_, fun j p' zs e => ?_, fun j l p1 p2 z1 z2 c h1 h2 h3 h4 => ?_, fun j b e => ?_, fun b o e n => ?_, fun b o e => ?_, fun b o e => q.ex b o (k.oldF b o e), fun b o e => ?_⟩, ?_⟩
  · rcases get_set e with ⟨_, z⟩ | ⟨_, z⟩
    · cases z
    · obtain ⟨u, h1, h2⟩ := k.dat j d z
      exact ⟨u, h1, h2.mono q.ex⟩
  · rcases get_set e with ⟨rfl, z⟩ | ⟨n, z⟩
    · cases z
      exact ⟨a, us, hs, c2, c3, c4, b5, b6⟩
    · obtain ⟨b, ws, h1, h2, h3, h4, h5⟩ := k.cel j _ zs z
      have ne : b ≠ a := fun y => by
        subst y
        exact n (k.sep i j _ _ _ _ b he z hs h1)
      exact ⟨b, ws, h1, keepN b _ h3 h2, fr b _ h3 ne, h4.mono q.ex, h5⟩
  · obtain ⟨_, _, f1⟩ := oth h1
    obtain ⟨_, _, f2⟩ := oth h2
    exact k.sep j l _ _ _ _ c f1 f2 h3 h4
  · obtain ⟨zs, z⟩ := k.pin j b e
    by_cases n : i = j
    · subst n
      rw [he] at z
      cases z
      exact ⟨ys, set_eq he⟩
    · exact ⟨zs, by rw [set_ne n]; exact z⟩
  · have ne : b ≠ a := fun z => by
      subst z
      cases p with
      | true => exact n i (b5 rfl)
      | false =>
        rw [b6 rfl] at e
        cases e
    exact fr b o (k.frame b o e n) ne
  · rcases q.newF b o e with z | z
    · exact k.newF b o z
    · exact .inr (k.fresh0 z)
  · obtain ⟨z1, z2, z3⟩ := k.prot b o e
    have ne : b ≠ a := fun z => by
      subst z
      exact z3 i p xs he hs
    refine ⟨fr b o z1 ne, keepN b o z1 z2, fun j p' zs e' => ?_⟩
    obtain ⟨_, _, f1⟩ := oth e'
    exact z3 j _ _ f1
  · have pr := q.res
    cases r with
    | un => exact pr
    | dat d => exact pr
    | cel b xs2 =>
      obtain ⟨c, ws, h1, h2, h3, h4, h5⟩ := pr
      refine ⟨c, ws, h1, h2, h3, h4, k.fresh0 h5, ?_, fun j p' zs e z => ?_⟩
      · cases e : g.Pr c with
        | none => rfl
        | some u =>
          have z := (k.prot c u e).1
          rw [h5] at z
          cases z
      · obtain ⟨_, _, f1⟩ := oth e
        obtain ⟨a', ws', z1, _, z3, _⟩ := k.cel j _ _ f1
        rw [z] at z1
        cases z1
        rw [h5] at z3
        cases z3
theorem args_dat (hf : Ex F H) {vs : List V} {ds : List PyData} (r : DRs K F vs ds) : ArgsOk K F H vs (ds.map .dat) where
  len := by rw [List.length_map]; exact r.length.symm
  fh := hf
  dat := fun i d e => by
    rw [List.getElem?_map] at e
    cases q : ds[i]? with
    | none => rw [q] at e; cases e
    | some x =>
      rw [q] at e
      cases e
      exact r.get q
  cel := fun i p xs e => by
    rw [List.getElem?_map] at e
    cases q : ds[i]? with
    | none => rw [q] at e; cases e
    | some x => rw [q] at e; cases e
  sep := fun i j p q xs ys a e => by
    rw [List.getElem?_map] at e
    cases q : ds[i]? with
    | none => rw [q] at e; cases e
    | some x => rw [q] at e; cases e
theorem no_cel {ds : List PyData} (i : Nat) (p : Bool) (xs : List PyData) : (ds.map SD.dat)[i]? ≠ some (.cel p xs) := fun e => by
  rw [List.getElem?_map] at e
  cases q : ds[i]? with
  | none => rw [q] at e; cases e
  | some x => rw [q] at e; cases e
theorem args_cel (hf : Ex F H) {a : Addr} {us : List V} {xs : List PyData} {vs : List V} {ds : List PyData} (hF : F a = none) (hH : H a = some (.lst us)) (rx : DRs K F us xs) (r : DRs K F vs ds) : ArgsOk K F H (.ref a :: vs) (.cel true xs :: ds.map .dat) := by
  have b := args_dat hf r
  refine ⟨by simp [r.length], hf, fun i d e => ?_, fun i p zs e => ?_, fun i j p q zs ys c e1 e2 _ _ => ?_⟩
  · cases i with
    | zero => simp at e
    | succ i =>
      obtain ⟨v, h1, h2⟩ := b.dat i d (by simpa using e)
      exact ⟨v, by simpa using h1, h2⟩
  · cases i with
    | zero =>
      simp at e
      obtain ⟨rfl, rfl⟩ := e
      exact ⟨rfl, a, us, rfl, hF, hH, rx⟩
    | succ i => exact absurd (by simpa using e) (no_cel (ds := ds) i p zs)
  · cases i with
    | succ i => exact absurd (by simpa using e1) (no_cel (ds := ds) i p zs)
    | zero =>
      cases j with
      | zero => rfl
      | succ j => exact absurd (by simpa using e2) (no_cel (ds := ds) j q ys)
end

section
variable {X : Cx} {k : Nat} {f : Addr} {fd : FuncData} {ps : List Str} {S : DSp} {x : Str} {p pos : Pos} {e : Expr} {es : List Expr} {was : DA}
/-- the callee runs -/
theorem run_g {pins : List (Addr × Obj)} {σ : L2.St} {H : Hp} {s : Shared} {Q : VK} {us : List Value} {vs : List V} (G : FnG X.prog X.w X.K X.mg X.base k f fd ps S) (hr : Room k X.A) (hg : X.A.guards = some []) (hb : Binds X.K fd ps [])
    (I : Inv X pins σ H s) (r : Vals vs us) (h : spD X.K S vs H Q) : wpAny (model X.prog X.w) X.A (call (.ref f) us) (EP X pins σ Q) X.xe s := by
  obtain ⟨F0, as, P, a1, a2, a3⟩ := id h
  have hl : (us ++ ([] : List Value)).length = ps.length := by rw [List.append_nil, ← r.length, ← a1.len]; exact G.len _ _ a2
  have hbb := hb s us I.kIn hl
  rw [List.append_nil] at hbb
  refine wpAny_call (codeAny_mono (G.go X.A X.stack s H ⟨us, []⟩ us vs Q hr hg I.env0 hbb r h) fun res s' hq => ?_)
  match res, hq with
  | .error e, hq => exact hq.elim
  | .ok (.ret u), hq => exact I.after hq
  | .ok .next, hq => exact hq.elim
  | .ok .brk, hq => exact hq.elim
  | .ok .cont, hq => exact hq.elim
/-- f(..), all arguments data -/
def dCall (S : DSp) (was : DA) (env : List SD) (P : SD → List SD → Prop) : Prop := was env fun ds env1 => S (ds.map .dat) fun r _ => P r env1
theorem dcall (G : FnG X.prog X.w X.K X.mg X.base k f fd ps S) (hr : Room k X.A) (hA : X.A.guards = some []) (hm : X.mg x = some (.ref f)) (hk : PySem.W.keepIn X.K (.ref f) = true) (hb : Binds X.K fd ps [])
    (ha : PA X (e :: es) (liftA X.K was)) (hg : Gl X x := by rfl) (hdb : (x == ("__debug__" : Str)) = false := by decide)
    (he : starEach (e :: es) X.env = (false, eval e X.env) :: starEach es X.env := by rfl) (hpl : (backTo pos (starEach es X.env)).any (·.1) = false := by rfl) : PE X (.Call (.Name x p) (e :: es) [] pos) (liftX X.K (dCall S was)) := by
  refine ⟨fun pins s σ H Q I ⟨g, F, env, P, k0, w, q⟩ => wpAny_Call_Name_kw (ld_glob I hg hm (PySem.W.callWith_K (h₀ := X.base) I.ok.mod.kin hk (thn (ha.run pos pins s σ H (spD X.K S · · Q) I ?_) fun us s1 ⟨vs, H1, I1, r, q1⟩ => ⟨I1.kIn, run_g G hr hA hb I1 r q1⟩) he hpl) hdb)⟩
  refine ⟨g, F, env, _, k0, w, fun ds env1 vs F1 H1 p1 e1 k1 r1 => ⟨F1, ds.map .dat, _, args_dat k1.fh r1, p1, fun r as' v F2 H2 p2 po => ?_⟩⟩
  obtain ⟨k2, r2⟩ := k1.after no_cel po
  exact q r env1 v F2 H2 p2 (e1.trans po.ex) k2 r2
/-- f(x, ..), x the name i's own cell, which f may change -/
def dCallC (S : DSp) (i : Nat) (was : DA) (env : List SD) (P : SD → List SD → Prop) : Prop := match env[i]? with
  | some (.cel _ _) => was env fun ds env1 => match env1[i]? with
    | some (.cel p xs) => S (.cel true xs :: ds.map .dat) fun r as' => match as' with
      | .cel _ ys :: _ => P r (env1.set i (.cel p ys))
      | _ => False
    | _ => False
  | _ => False
theorem dcallC (i : Nat) {y : Str} {p0 : Pos} (G : FnG X.prog X.w X.K X.mg X.base k f fd ps S) (hr : Room k X.A) (hA : X.A.guards = some []) (hm : X.mg x = some (.ref f)) (hk : PySem.W.keepIn X.K (.ref f) = true) (hb : Binds X.K fd ps [])
    (ha : PA X es (liftA X.K was)) (hN : X.N[i]? = some y := by rfl) (hv : Vis X.env.scope y := by first | exact Or.inl rfl | exact Or.inr (Or.inl rfl) | exact Or.inr (Or.inr rfl)) (hd : (y == ("__debug__" : Str)) = false := by decide)
    (hcd : (y == ("__classdict__" : Str)) = false := by decide) (hg : Gl X x := by rfl) (hdb : (x == ("__debug__" : Str)) = false := by decide)
    (he : starEach (.Name y p0 :: es) X.env = (false, eval (.Name y p0) X.env) :: starEach es X.env := by rfl) (hpl : (backTo pos (starEach es X.env)).any (·.1) = false := by rfl) :
    PE X (.Call (.Name x p) (.Name y p0 :: es) [] pos) (liftX X.K (dCallC S i was)) := by
  refine ⟨fun pins s σ H Q I ⟨g, F, env, P, k0, w, q⟩ => wpAny_Call_Name_kw (ld_glob I hg hm (PySem.W.callWith_K (h₀ := X.base) I.ok.mod.kin hk (thn ((pa_cons (pe_var hN hv hd hcd) ha he).run pos pins s σ H (spD X.K S · · Q) I ?_) fun us s1 ⟨vs, H1, I1, r, q1⟩ => ⟨I1.kIn, run_g G hr hA hb I1 r q1⟩) he hpl) hdb)⟩
  unfold dCallC at w
  split at w
  · rename_i p' xs' e0
    obtain ⟨a0, us0, b1, _⟩ := k0.cel i p' xs' e0
    refine ⟨_, b1, g, F, env, _, k0, w, fun ds env1 vs F1 H1 p1 e1 k1 r1 => ?_⟩
    split at p1
    · rename_i p2 xs ex
      obtain ⟨a1, us1, c1, c2, c3, c4, _⟩ := k1.cel i p2 xs ex
      rw [b1] at c1
      cases c1
      refine ⟨F1, _, _, args_cel k1.fh c2 c3 c4 r1, p1, fun r as' v F2 H2 p3 po => ?_⟩
      obtain ⟨ys, rest, rfl, k2, r2⟩ := k1.afterC ex b1 po
      exact q r _ v F2 H2 p3 (e1.trans po.ex) k2 r2
    · exact p1.elim
  · exact w.elim
end

/-! ### statements -/
structure DEnds where
  nx : List SD → Prop
  rt : SD → List SD → Prop
  bk : List SD → Prop := fun _ => False
  ct : List SD → Prop := fun _ => False
abbrev DS := DEnds → List SD → Prop
def StOk (K : PySem.W.Frag) (g : Gx) (F : Hp) (P : List SD → Prop) (σ' : L2.St) (H' : Hp) : Prop := ∃ env' F', P env' ∧ Ex F F' ∧ Ok K g F' env' σ' H'
structure EndsOk (K : PySem.W.Frag) (m : Nat) (g : Gx) (F : Hp) (P : DEnds) (D : Ends) : Prop where
  nx : ∀ env' σ' F' H', P.nx env' → Ex F F' → Ok K g F' env' σ' H' → D.nx σ' H'
  bk : ∀ env' σ' F' H', P.bk env' → Ex F F' → Ok K g F' env' σ' H' → D.bk σ' H'
  ct : ∀ env' σ' F' H', P.ct env' → Ex F F' → Ok K g F' env' σ' H' → D.ct σ' H'
  rt : ∀ r env' v σ' F' H', P.rt r (env'.take m) → Ex F F' → Ok K g F' env' σ' H' → ResOk K g F' env' σ' H' v r → D.rt v H'
def liftS (K : PySem.W.Frag) (m : Nat) (w : DS) : TS := fun D σ H => ∃ (g : Gx) (F : Hp) (env : List SD) (P : DEnds), Ok K g F env σ H ∧ w P env ∧ EndsOk K m g F P D
theorem EndsOk.ex {K : PySem.W.Frag} {m : Nat} {g : Gx} {F F' : Hp} {P : DEnds} {D : Ends} (h : EndsOk K m g F P D) (e : Ex F F') : EndsOk K m g F' P D :=
  ⟨fun a b c d p x => h.nx a b c d p (e.trans x), fun a b c d p x => h.bk a b c d p (e.trans x), fun a b c d p x => h.ct a b c d p (e.trans x), fun a b c d f g' p x => h.rt a b c d f g' p (e.trans x)⟩
section
variable {X : Cx} {st : Stmt} {sts : List Stmt} {w w2 : DS} {m : Nat} {e : Expr} {we : DE} {wx : DX} {pos : Pos}
def dNext (E : DEnds) (env : List SD) : Prop := E.nx env
def dSeq (w w2 : DS) (E : DEnds) (env : List SD) : Prop := w { E with nx := w2 E } env
def dNever (_ : DEnds) (_ : List SD) : Prop := False
theorem snil : PSs X [] (liftS X.K m dNext) := PSs.of pss_nil fun D σ H ⟨g, F, env, P, k, w, q⟩ => q.nx env σ F H w (Ex.refl F) k
theorem scons (h1 : PS X st (liftS X.K m w)) (h2 : PSs X sts (liftS X.K m w2)) : PSs X (st :: sts) (liftS X.K m (dSeq w w2)) := PSs.of (pss_cons h1 h2) fun D σ H ⟨g, F, env, P, k, w, q⟩ =>
  ⟨g, F, env, _, k, w, ⟨fun env' σ' F' H' p e k' => ⟨g, F', env', P, k', p, q.ex e⟩, q.bk, q.ct, q.rt⟩⟩
theorem sone (h1 : PS X st (liftS X.K m w)) : PSs X [st] (liftS X.K m w) := pss_one h1
theorem snever : PS X st (liftS X.K m dNever) := PS.of ps_never fun D σ H ⟨g, F, env, P, k, w, q⟩ => w
theorem ssnever : PSs X sts (liftS X.K m dNever) := PSs.of pss_never fun D σ H ⟨g, F, env, P, k, w, q⟩ => w
theorem spass : PS X (.Pass pos) (liftS X.K m dNext) := PS.of ps_pass fun D σ H ⟨g, F, env, P, k, w, q⟩ => q.nx env σ F H w (Ex.refl F) k
theorem sdoc {x j p2 pos'} : PS X (.Expr (.Constant (.str x) j p2) pos') (liftS X.K m dNext) := PS.of ps_doc fun D σ H ⟨g, F, env, P, k, w, q⟩ => q.nx env σ F H w (Ex.refl F) k
def dBreak (E : DEnds) (env : List SD) : Prop := E.bk env
def dCont (E : DEnds) (env : List SD) : Prop := E.ct env
theorem sbreak : PS X (.Break pos) (liftS X.K m dBreak) := PS.of ps_break fun D σ H ⟨g, F, env, P, k, w, q⟩ => q.bk env σ F H w (Ex.refl F) k
theorem scont : PS X (.Continue pos) (liftS X.K m dCont) := PS.of ps_continue fun D σ H ⟨g, F, env, P, k, w, q⟩ => q.ct env σ F H w (Ex.refl F) k
/-- a name that is no parameter's cell -/
def npB : SD → Bool
  | .cel true _ => false
  | _ => true
def noPar (env : List SD) (i : Nat) : Bool := match env[i]? with
  | some r => npB r
  | none => true
theorem noPar_of {env : List SD} {i : Nat} (h : noPar env i = true) : NoPar env i := fun xs e => by
  unfold noPar at h
  rw [e] at h
  cases h
theorem Ok.setR {K : PySem.W.Frag} {g : Gx} {F : Hp} {env : List SD} {σ : L2.St} {H : Hp} {i : Nat} {v : V} {r : SD} (k : Ok K g F env σ H) (hp : noPar env i = true) (h : ResOk K g F env σ H v r) (hr : ∀ xs, r ≠ .cel true xs) : Ok K g F (env.set i r) (σ.set i (some v)) H := by
  cases r with
  | un => exact h.elim
  | dat d => exact k.setD (noPar_of hp) h
  | cel b xs =>
    obtain ⟨a, vs, rfl, h1, h2, h3, h4, h5, h6⟩ := h
    cases b with
    | true => exact absurd rfl (hr xs)
    | false => exact k.setC (noPar_of hp) h1 h2 h3 h4 h5 h6
/-- what a new cell is called -/
def asOwn : SD → SD
  | .cel _ xs => .cel false xs
  | r => r
theorem res_own {K : PySem.W.Frag} {g : Gx} {F : Hp} {env : List SD} {σ : L2.St} {H : Hp} {v : V} {r : SD} (h : ResOk K g F env σ H v r) : ResOk K g F env σ H v (asOwn r) := by
  cases r <;> exact h
theorem own_ne {r : SD} (xs : List PyData) : asOwn r ≠ .cel true xs := by
  cases r <;> (intro h; cases h)
/-- name = e -/
def dSet (i : Nat) (wx : DX) (E : DEnds) (env : List SD) : Prop := wx env fun r env1 => bIf (noPar env1 i) (E.nx (env1.set i (asOwn r))) False
theorem sset (i : Nat) {x : Str} {pos' : Pos} (hN : X.N.Nodup) (he : PE X e (liftX X.K wx)) (hi : X.N[i]? = some x := by rfl) (hx : Loc X.env.scope x := by first | exact Or.inl rfl | exact Or.inr rfl) (hs : swapsWith e (some (.Name x pos')) pos.line X.env = pure false := by rfl)
    (hf : X.fn x = true ∨ X.env.scope.names.lookup x = some .local := by first | exact .inl rfl | exact .inr rfl) : PS X (.Assign [.Name x pos'] e pos) (liftS X.K m (dSet i wx)) := PS.of (ps_set hN hi hx he hs hf) fun D σ H ⟨g, F, env, P, k, w, q⟩ =>
  ⟨g, F, env, _, k, w, fun r env1 v F1 H1 p e1 k1 r1 => q.nx _ _ F1 H1 (bIf_and p).2 e1 (k1.setR (bIf_and p).1 (res_own r1) own_ne)⟩
/-- return e -/
def dRet (m : Nat) (wx : DX) (E : DEnds) (env : List SD) : Prop := wx env fun r env1 => E.rt (asOwn r) (env1.take m)
theorem sret (he : PE X e (liftX X.K wx)) : PS X (.Return (some e) pos) (liftS X.K m (dRet m wx)) := PS.of (ps_ret he) fun D σ H ⟨g, F, env, P, k, w, q⟩ =>
  ⟨g, F, env, _, k, w, fun r env1 v F1 H1 p e1 k1 r1 => q.rt _ env1 v σ F1 H1 p e1 k1 (res_own r1)⟩
def dRetN (m : Nat) (E : DEnds) (env : List SD) : Prop := E.rt (.dat .none) (env.take m)
theorem sretN : PS X (.Return none pos) (liftS X.K m (dRetN m)) := PS.of ps_retN fun D σ H ⟨g, F, env, P, k, w, q⟩ => q.rt _ env .non σ F H w (Ex.refl F) k .non
/-- an expression for what it does -/
def dDrop (wx : DX) (E : DEnds) (env : List SD) : Prop := wx env fun _ env1 => E.nx env1
theorem sexpr (he : PE X e (liftX X.K wx)) (hs : swapsWith e none pos.line X.env = pure false := by rfl) : PS X (.Expr e pos) (liftS X.K m (dDrop wx)) := PS.of (ps_expr he hs) fun D σ H ⟨g, F, env, P, k, w, q⟩ =>
  ⟨g, F, env, _, k, w, fun r env1 v F1 H1 p e1 k1 _ => q.nx env1 σ F1 H1 p e1 k1⟩
def dIfS (t : DT) (w w2 : DS) (E : DEnds) (env : List SD) : Prop := t env fun b env1 => bIf b (w E env1) (w2 E env1)
theorem sif {c : Expr} {a b : List Stmt} {t : DT} (hc : PT X c (liftT X.K t)) (ha : PSs X a (liftS X.K m w)) (hb : PSs X b (liftS X.K m w2)) : PS X (.If c a b pos) (liftS X.K m (dIfS t w w2)) := PS.of (ps_if hc ha hb) fun D σ H ⟨g, F, env, P, k, w, q⟩ =>
  ⟨g, F, env, _, k, w, fun b env1 F1 H1 p e1 k1 => by
    cases b with
    | true => exact iteT ⟨g, F1, env1, P, k1, p, q.ex e1⟩
    | false => exact iteF ⟨g, F1, env1, P, k1, p, q.ex e1⟩⟩
/-- ahead of a block: the cell of the name i stays as it is from here on -/
def dFreeze (i : Nat) (w : DS) (E : DEnds) (env : List SD) : Prop := match env[i]? with
  | some (.cel false xs) => w E (env.set i (.dat (.list xs)))
  | _ => False
theorem ssfreeze (i : Nat) (h : PSs X sts (liftS X.K m w)) : PSs X sts (liftS X.K m (dFreeze i w)) := PSs.of h fun D σ H ⟨g, F, env, P, k, w, q⟩ => by
  unfold dFreeze at w
  split at w
  · rename_i xs e
    obtain ⟨F', e1, k1⟩ := k.freeze e
    exact ⟨g, F', _, P, k1, w, q.ex e1⟩
  · exact w.elim
/-- return of a name's own cell -/
def dRetC (m : Nat) (i : Nat) (E : DEnds) (env : List SD) : Prop := match env[i]? with
  | some (.cel false xs) => E.rt (.cel false xs) ((env.set i .un).take m)
  | _ => False
theorem Ok.drop {K : PySem.W.Frag} {g : Gx} {F : Hp} {env : List SD} {σ : L2.St} {H : Hp} {i : Nat} {xs : List PyData} (k : Ok K g F env σ H) (he : env[i]? = some (.cel false xs)) : ∃ a, σ[i]? = some (some (.ref a)) ∧ Ok K g F (env.set i .un) σ H ∧ ResOk K g F (env.set i .un) σ H (.ref a) (.cel false xs) := by
  obtain ⟨a, vs, h1, h2, h3, h4, _, h6⟩ := k.cel i false xs he
  have np : NoPar env i := fun ys z => by rw [he] at z; cases z
  have k2 := k.setU (o := some (.ref a)) np
  have e : σ.set i (some (.ref a)) = σ := List.ext_getElem? fun j => by
    rw [List.getElem?_set]
    split
    · rename_i z
      subst z
      split
      · exact h1.symm
      · rename_i z
        exact absurd (List.getElem?_eq_some_iff.mp h1).1 z
    · rfl
  rw [e] at k2
  refine ⟨a, h1, k2, a, vs, rfl, h2, h3, h4, h6 rfl, ?_, fun j p ys hj z => ?_⟩
  · cases q : g.Pr a with
    | none => rfl
    | some u => exact absurd h1 ((k.prot a u q).2.2 i false xs he)
  · rcases get_set hj with ⟨_, q⟩ | ⟨n, q⟩
    · cases q
    · exact n (k.sep i j _ _ _ _ a he q h1 z)
theorem sretC (i : Nat) {x : Str} {p0 : Pos} (hN : X.N[i]? = some x := by rfl) (hv : Vis X.env.scope x := by first | exact Or.inl rfl | exact Or.inr (Or.inl rfl) | exact Or.inr (Or.inr rfl)) (hd : (x == ("__debug__" : Str)) = false := by decide)
    (hcd : (x == ("__classdict__" : Str)) = false := by decide) : PS X (.Return (some (.Name x p0)) pos) (liftS X.K m (dRetC m i)) := PS.of (ps_ret (pe_var hN hv hd hcd)) fun D σ H ⟨g, F, env, P, k, w, q⟩ => by
  unfold dRetC at w
  split at w
  · rename_i xs e
    obtain ⟨a, h1, k2, r2⟩ := k.drop e
    exact ⟨_, h1, q.rt _ _ _ σ F H w (Ex.refl F) k2 r2⟩
  · exact w.elim
/-- slots that are not to be known any more -/
def unS : List Nat → List SD → List SD
  | [], env => env
  | i :: is, env => match env[i]? with
    | some (.dat _) => unS is (env.set i .un)
    | some (.cel false _) => unS is (env.set i .un)
    | _ => unS is env
theorem Ok.unS {K : PySem.W.Frag} {g : Gx} {F : Hp} {σ : L2.St} {H : Hp} : ∀ {is : List Nat} {env : List SD}, Ok K g F env σ H → Ok K g F (unS is env) σ H
  | [], _, k => k
  | i :: is, env, k => by
    have go : NoPar env i → Ok K g F (env.set i .un) σ H := fun np => by
      by_cases hi : i < σ.length
      · have k2 := k.setU (o := σ[i]) np
        rw [List.set_getElem_self] at k2
        exact k2
      · have k2 := k.setU (o := none) np
        rw [show σ.set i none = σ from List.set_eq_of_length_le (Nat.le_of_not_lt hi)] at k2
        exact k2
    unfold DL.unS
    split
    · rename_i d e
      exact (go fun xs z => by rw [e] at z; cases z).unS
    · rename_i xs e
      exact (go fun ys z => by rw [e] at z; cases z).unS
    · exact k.unS
def dForget (is : List Nat) (w : DS) (E : DEnds) (env : List SD) : Prop := w E (unS is env)
theorem ssforget (is : List Nat) (h : PSs X sts (liftS X.K m w)) : PSs X sts (liftS X.K m (dForget is w)) := PSs.of h fun D σ H ⟨g, F, env, P, k, w, q⟩ => ⟨g, F, _, P, k.unS, w, q⟩
/-- another reading, that follows -/
theorem ssimp {w' : DS} (h : PSs X sts (liftS X.K m w)) (hw : ∀ E env, w' E env → w E env) : PSs X sts (liftS X.K m w') := PSs.of h fun D σ H ⟨g, F, env, P, k, w, q⟩ => ⟨g, F, env, P, k, hw _ _ w, q⟩
end
end DL

/-! The data layer, part 5: stores, loops, comprehensions, a def by its body. -/
namespace DL
open PySem PySem.Spec PyProof.Rows L2
open Evl (Ex)

section
variable {X : Cx} {st : Stmt} {sts : List Stmt} {w w2 : DS} {m : Nat} {a b e : Expr} {es : List Expr} {wa wb we : DE} {wx : DX} {pos : Pos} {was : DA}
/-! ### targets -/
abbrev DG := PyData → List SD → (List SD → Prop) → Prop
def liftG (K : PySem.W.Frag) (w : DG) : TG := fun v σ H Q => ∃ (g : Gx) (F : Hp) (env : List SD) (d : PyData) (P : List SD → Prop), Ok K g F env σ H ∧ DR K F v d ∧ w d env P ∧
  ∀ env' σ' F' H', P env' → Ex F F' → Ok K g F' env' σ' H' → Q σ' H'
abbrev DGs := List PyData → List SD → (List SD → Prop) → Prop
def liftGs (K : PySem.W.Frag) (w : DGs) : TGs := fun vs σ H Q => ∃ (g : Gx) (F : Hp) (env : List SD) (ds : List PyData) (P : List SD → Prop), Ok K g F env σ H ∧ DRs K F vs ds ∧ w ds env P ∧
  ∀ env' σ' F' H', P env' → Ex F F' → Ok K g F' env' σ' H' → Q σ' H'
theorem PG.of {t t' : TG} (h : PG X e t) (w : ∀ v σ H Q, t' v σ H Q → t v σ H Q) : PG X e t' := ⟨fun pins s σ H v u Q I r q => h.run pins s σ H v u Q I r (w v σ H Q q)⟩
theorem PGs.of {t t' : TGs} (h : PGs X es t) (w : ∀ v σ H Q, t' v σ H Q → t v σ H Q) : PGs X es t' := ⟨fun pins s σ H v u Q I r q => h.run pins s σ H v u Q I r (w v σ H Q q)⟩
def dgN (i : Nat) (d : PyData) (env : List SD) (P : List SD → Prop) : Prop := bIf (noPar env i) (P (env.set i (.dat d))) False
theorem gn (i : Nat) {x : Str} (hN : X.N.Nodup) (hi : X.N[i]? = some x := by rfl) (hx : Loc X.env.scope x := by first | exact Or.inl rfl | exact Or.inr rfl)
    (hf : X.fn x = true ∨ X.env.scope.names.lookup x = some .local := by first | exact .inl rfl | exact .inr rfl) : PG X (.Name x pos) (liftG X.K (dgN i)) := PG.of (pg_name hN hi hx hf) fun v σ H Q ⟨g, F, env, d, P, k, r, w, q⟩ =>
  q _ _ F H (bIf_and w).2 (Ex.refl F) (k.setD (noPar_of (bIf_and w).1) r)
def nilQ (ds : List PyData) (p : Prop) : Prop := match ds with
  | [] => p
  | _ :: _ => False
def consQ (ds : List PyData) (K : PyData → List PyData → Prop) : Prop := match ds with
  | d :: r => K d r
  | [] => False
def tupQ (d : PyData) (K : List PyData → Prop) : Prop := match d with
  | .tuple ds => K ds
  | _ => False
theorem nilQ_inv {ds : List PyData} {p : Prop} (h : nilQ ds p) : ds = [] ∧ p := by
  cases ds
  · exact ⟨rfl, h⟩
  · exact h.elim
theorem consQ_inv {ds : List PyData} {K : PyData → List PyData → Prop} (h : consQ ds K) : ∃ d r, ds = d :: r ∧ K d r := by
  cases ds
  · exact h.elim
  · exact ⟨_, _, rfl, h⟩
theorem tupQ_inv {d : PyData} {K : List PyData → Prop} (h : tupQ d K) : ∃ ds, d = .tuple ds ∧ K ds := by
  cases d <;> first | exact ⟨_, rfl, h⟩ | exact h.elim
def dgNil (ds : List PyData) (env : List SD) (P : List SD → Prop) : Prop := nilQ ds (P env)
def dgCons (t : DG) (u : DGs) (ds : List PyData) (env : List SD) (P : List SD → Prop) : Prop := consQ ds fun d r => t d env fun env1 => u r env1 P
theorem gnil : PGs X [] (liftGs X.K dgNil) := PGs.of pgs_nil fun v σ H Q ⟨g, F, env, ds, P, k, r, w, q⟩ => by
  obtain ⟨rfl, w⟩ := nilQ_inv w
  cases r
  exact ⟨rfl, q env σ F H w (Ex.refl F) k⟩
theorem gcons {t : DG} {u : DGs} (h1 : PG X e (liftG X.K t)) (h2 : PGs X es (liftGs X.K u)) (hs : (assignEach (e :: es) X.env).map (·.2) = assign e X.env :: (assignEach es X.env).map (·.2) := by rfl) : PGs X (e :: es) (liftGs X.K (dgCons t u)) :=
  PGs.of (pgs_cons h1 h2 hs) fun v σ H Q ⟨g, F, env, ds, P, k, r, w, q⟩ => by
    obtain ⟨d, r0, rfl, w⟩ := consQ_inv w
    cases r with
    | cons r1 r2 =>
        exact ⟨_, _, rfl, g, F, env, _, _, k, r1, w, fun env1 σ1 F1 H1 p e1 k1 => ⟨g, F1, env1, _, P, k1, r2.mono e1, p, fun env2 σ2 F2 H2 p2 e2 k2 => q env2 σ2 F2 H2 p2 (e1.trans e2) k2⟩⟩
def dgT (n : Nat) (t : DGs) (d : PyData) (env : List SD) (P : List SD → Prop) : Prop := tupQ d fun ds => t ds env P
/-- a target that takes a datum goes on -/
def GOk (t : DG) : Prop := ∀ d env P, t d env P → ∃ env1, P env1
def GLen (t : DGs) (n : Nat) : Prop := ∀ ds env P, t ds env P → ds.length = n ∧ ∃ env1, P env1
theorem gok_n {i : Nat} : GOk (dgN i) := fun d env P h => ⟨_, (bIf_and h).2⟩
theorem gl_nil : GLen dgNil 0 := fun ds env P h => by
  obtain ⟨rfl, h⟩ := nilQ_inv h
  exact ⟨rfl, env, h⟩
theorem gl_cons {t : DG} {u : DGs} {n : Nat} (h1 : GOk t) (h2 : GLen u n) : GLen (dgCons t u) (n + 1) := fun ds env P h => by
  obtain ⟨d, r, rfl, h⟩ := consQ_inv h
  obtain ⟨env1, h⟩ := h1 _ _ _ h
  obtain ⟨e, h⟩ := h2 _ _ _ h
  exact ⟨by simp [e], h⟩
theorem gok_t {n k : Nat} {t : DGs} (h : GLen t k) : GOk (dgT n t) := fun d env P w => by
  obtain ⟨ds, rfl, w⟩ := tupQ_inv w
  exact (h _ _ _ w).2
theorem gtup {k n : Nat} {t : DGs} (hl : GLen t n) (hc : X.calm = true) (h : PGs X es (liftGs X.K t)) (hn : (assignEach es X.env).length = n := by rfl) (hst : (assignEach es X.env).findIdx? (·.1) = none := by rfl) : PG X (.Tuple es k pos) (liftG X.K (dgT n t)) :=
  PG.of (pg_tup hc h hn hst) fun v σ H Q ⟨g, F, env, d, P, k, r, w, q⟩ => by
    obtain ⟨ds, rfl, w⟩ := tupQ_inv w
    obtain ⟨a, xs, rfl, h1, h2⟩ := r.inv_tup
    exact ⟨a, xs, rfl, Evl.ex_t k.fh h1, h2.length.trans (hl _ _ _ w).1, g, F, env, _, P, k, h2, w, q⟩
/-- target = e, of a datum -/
def dAsg (t : DG) (we : DE) (E : DEnds) (env : List SD) : Prop := we env fun d env1 => t d env1 E.nx
theorem sasg {tg : Expr} {t : DG} (he : PE X e (liftE X.K we)) (hg : PG X tg (liftG X.K t)) (hs : swapsWithSole [tg] e pos.line X.env = pure false := by rfl) (hw : swappedStores [tg] e X.env = pure none := by rfl)
    (h1 : (assignEach [tg] X.env).map (·.2) = [assign tg X.env] := by rfl) : PS X (.Assign [tg] e pos) (liftS X.K m (dAsg t we)) := PS.of (ps_asg he hg hs hw h1) fun D σ H ⟨g, F, env, P, k, w, q⟩ =>
  ⟨g, F, env, _, k, w, fun d env1 v F1 H1 p e1 k1 r1 => ⟨g, F1, env1, d, _, k1, r1, p, fun env2 σ2 F2 H2 p2 e2 k2 => q.nx env2 σ2 F2 H2 p2 (e1.trans e2) k2⟩⟩
/-- x, y = e, f -/
def dPar (i j : Nat) (was : DA) (E : DEnds) (env : List SD) : Prop := was env fun ds env1 => match ds with
  | [d, c] => bIf (noPar env1 i && noPar env1 j) (E.nx ((env1.set i (.dat d)).set j (.dat c))) False
  | _ => False
theorem noPar_set {env : List SD} {i j : Nat} {d : PyData} (h : noPar env j = true) : noPar (env.set i (.dat d)) j = true := by
  unfold noPar at h ⊢
  rw [List.getElem?_set]
  by_cases z : i = j
  · rw [if_pos z]
    by_cases y : i < env.length
    · rw [if_pos y]
      rfl
    · rw [if_neg y]
  · rw [if_neg z]
    exact h
theorem spar (i j : Nat) {x y : Str} {px py pt : Pos} {kt k2 pt2} (hc : X.calm = true) (hN : X.N.Nodup) (ha : PA X [a, b] (liftA X.K was)) (hi : X.N[i]? = some x := by rfl) (hj : X.N[j]? = some y := by rfl) (hij : i ≠ j := by decide)
    (hx : X.env.scope.names.lookup x = some .local := by rfl) (hy : X.env.scope.names.lookup y = some .local := by rfl)
    (hw : swappedStores [.Tuple [.Name x px, .Name y py] kt pt] (.Tuple [a, b] k2 pt2) X.env = pure (some [x, y]) := by rfl)
    (hs : swapsWithSole [.Tuple [.Name x px, .Name y py] kt pt] (.Tuple [a, b] k2 pt2) pos.line X.env = pure false := by rfl) :
    PS X (.Assign [.Tuple [.Name x px, .Name y py] kt pt] (.Tuple [a, b] k2 pt2) pos) (liftS X.K m (dPar i j was)) := PS.of (ps_par hc hN hi hj hij hx hy ha hw hs) fun D σ H ⟨g, F, env, P, k, w, q⟩ =>
  ⟨g, F, env, _, k, w, fun ds env1 vs F1 H1 p e1 k1 r1 => by
    split at p
    · obtain ⟨v, u, rfl, r2, r3⟩ := r1.inv2
      obtain ⟨np, p⟩ := bIf_and p
      rw [Bool.and_eq_true] at np
      exact ⟨v, u, rfl, q.nx _ _ F1 H1 p e1 ((k1.setD (noPar_of np.1) r2).setD (noPar_of (noPar_set np.2)) r3)⟩
    · exact p.elim⟩
/-- x[i] = e, x the name's own cell -/
def stQ (xs : List PyData) (y d : PyData) (K : List PyData → Prop) : Prop := match y with
  | .int n => (match ixN xs.length n with
    | some j => K (xs.set j d)
    | none => False)
  | _ => False
def dSetC (i : Nat) (wi we : DE) (E : DEnds) (env : List SD) : Prop := we env fun d env1 => match env1[i]? with
  | some (.cel _ _) => wi env1 fun y env2 => match env2[i]? with
    | some (.cel p xs) => stQ xs y d fun xs' => E.nx (env2.set i (.cel p xs'))
    | _ => False
  | _ => False
theorem ssetC (i : Nat) {x : Str} {p0 p1 : Pos} (he : PE X e (liftE X.K we)) (hi : PE X b (liftE X.K wb)) (hN : X.N[i]? = some x := by rfl) (hv : Vis X.env.scope x := by first | exact Or.inl rfl | exact Or.inr (Or.inl rfl) | exact Or.inr (Or.inr rfl)) (hd : (x == ("__debug__" : Str)) = false := by decide)
    (hcd : (x == ("__classdict__" : Str)) = false := by decide)
    (hs : swapsWithSole [.Subscript (.Name x p0) b p1] e pos.line X.env = pure false := by rfl) (hw : swappedStores [.Subscript (.Name x p0) b p1] e X.env = pure none := by rfl)
    (h1 : (assignEach [.Subscript (.Name x p0) b p1] X.env).map (·.2) = [assign (.Subscript (.Name x p0) b p1) X.env] := by rfl)
    (ha : ∀ v, assign (.Subscript (.Name x p0) b p1) X.env v = (do
      let ov ← holding [v] (eval (.Name x p0) X.env)
      let iv ← holding [v, ov] (eval b X.env)
      standAt p1
      holding [v, ov, iv] (setItem ov iv v)
      release [v, ov, iv] []) := by intro _; rfl) : PS X (.Assign [.Subscript (.Name x p0) b p1] e pos) (liftS X.K m (dSetC i wb we)) :=
  PS.of (ps_asg he (pg_sub (pe_var hN hv hd hcd) hi set_list ha) hs hw h1) fun D σ H ⟨g, F, env, P, k, w, q⟩ =>
  ⟨g, F, env, _, k, w, fun d env1 v F1 H1 p e1 k1 r1 => by
    split at p
    · rename_i p' xs' ex
      obtain ⟨a0, us0, b1, _⟩ := k1.cel i p' xs' ex
      refine ⟨_, b1, g, F1, env1, _, k1, p, fun d2 env2 v2 F2 H2 p2 e2 k2 r2 => ?_⟩
      split at p2
      · rename_i p3 xs ex2
        obtain ⟨n, rfl, p2⟩ : ∃ n, d2 = .int n ∧ stQ xs (.int n) d _ := by
          cases d2 <;> first | exact ⟨_, rfl, p2⟩ | exact p2.elim
        cases r2.inv_int
        unfold stQ at p2
        dsimp only at p2
        split at p2
        · rename_i j ej
          obtain ⟨a1, us1, c1, c2, c3, c4, _⟩ := k2.cel i p3 xs ex2
          rw [b1] at c1
          cases c1
          exact ⟨a0, us1, n, j, rfl, rfl, c3, by rw [c4.length]; exact ej, q.nx _ σ F2 _ p2 (e1.trans e2) (k2.write ex2 b1 (c4.set j (r1.mono e2)))⟩
        · exact p2.elim
      · exact p2.elim
    · exact p.elim⟩
/-- x.append(e) -/
def apQ (xs : List PyData) (d : PyData) (K : List PyData → Prop) : Prop := xs.length < 100000 ∧ K (xs ++ [d])
def dApp (i : Nat) (we : DE) (E : DEnds) (env : List SD) : Prop := match env[i]? with
  | some (.cel _ _) => we env fun d env1 => match env1[i]? with
    | some (.cel p xs) => apQ xs d fun xs' => E.nx (env1.set i (.cel p xs'))
    | _ => False
  | _ => False
theorem sapp (i : Nat) {x : Str} {p0 apos cpos : Pos} (he : PE X e (liftE X.K we)) (hN : X.N[i]? = some x := by rfl) (hv : Vis X.env.scope x := by first | exact Or.inl rfl | exact Or.inr (Or.inl rfl) | exact Or.inr (Or.inr rfl)) (hd : (x == ("__debug__" : Str)) = false := by decide)
    (hcd : (x == ("__classdict__" : Str)) = false := by decide)
    (h1 : attributeBase (.Name x p0) "append" X.env (eval (.Name x p0) X.env) = eval (.Name x p0) X.env := by rfl)
    (h2 : ((backTo cpos (starEach [e] X.env)).all (!·.1) && (backToKw cpos (keywordEach [] X.env)).all (·.1.isSome) && decide ([e].length + ([] : List Keyword).length + (if ([] : List Keyword).isEmpty then 0 else 1) < 30)) = true := by rfl)
    (h3 : (apos.endLine == cpos.line) = true := by rfl)
    (h4 : starEach [e] X.env = (false, eval e X.env) :: starEach [] X.env := by rfl) (h5 : (backTo cpos (starEach [] X.env)).any (·.1) = false := by rfl)
    (hs : swapsWith (.Call (.Attribute (.Name x p0) "append" apos) [e] [] cpos) none pos.line X.env = pure false := by rfl) :
    PS X (.Expr (.Call (.Attribute (.Name x p0) "append" apos) [e] [] cpos) pos) (liftS X.K m (dApp i we)) :=
  PS.of (ps_expr (pe_bm PySem.F.plainAttrs_list PySem.F.slot_list_append PySem.F.type_list_append mt_append (pe_var hN hv hd hcd) (pa_cons he pa_nil h4) h1 h2 h3 h4 h5) hs) fun D σ H ⟨g, F, env, P, k, w, q⟩ => by
    unfold dApp at w
    split at w
    · rename_i p' xs' ex
      obtain ⟨a0, us0, b1, _, b3, _⟩ := k.cel i p' xs' ex
      refine ⟨_, b1, .inl ⟨rfl, us0, SqL.of b3⟩, g, F, env, _, k, w, fun d env1 v F1 H1 p e1 k1 r1 => ?_⟩
      split at p
      · rename_i p3 xs ex2
        obtain ⟨a1, us1, c1, c2, c3, c4, _⟩ := k1.cel i p3 xs ex2
        rw [b1] at c1
        cases c1
        exact ⟨a0, us1, v, rfl, rfl, c3, by rw [c4.length]; exact Evl.sz_lt p.1, q.nx _ σ F1 _ p.2 e1 (k1.write ex2 b1 (c4.append (.one r1)))⟩
      · exact p.elim
    · exact w.elim
/-- x op= e, numbers -/
def dAug (i : Nat) (f : Int → Int → Int) (we : DE) (E : DEnds) (env : List SD) : Prop := match env[i]? with
  | some (.dat x) => we env fun d env1 => oI (fun n m => .int (f n m)) x d fun z => bIf (noPar env1 i) (E.nx (env1.set i (.dat z))) False
  | _ => False
theorem saug (i : Nat) {x : Str} {pos' : Pos} {op : Operator} {f : Int → Int → Int} (ho : PIp X op (ipI f)) (hN : X.N.Nodup) (he : PE X e (liftE X.K we)) (hi : X.N[i]? = some x := by rfl) (hx : Loc X.env.scope x := by first | exact Or.inl rfl | exact Or.inr rfl)
    (hf : X.fn x = true ∨ X.env.scope.names.lookup x = some .local := by first | exact .inl rfl | exact .inr rfl) : PS X (.AugAssign (.Name x pos') op e pos) (liftS X.K m (dAug i f we)) :=
  PS.of (ps_aug hN hi hx he ho hf) fun D σ H ⟨g, F, env, P, k, w, q⟩ => by
    unfold dAug at w
    split at w
    · rename_i n ex
      obtain ⟨v0, b1, b2⟩ := k.dat i _ ex
      refine ⟨_, b1, g, F, env, _, k, w, fun d env1 v F1 H1 p e1 k1 r1 => ?_⟩
      unfold oI at p
      split at p
      · cases b2.inv_int
        cases r1.inv_int
        exact ⟨_, _, rfl, rfl, q.nx _ _ F1 H1 (bIf_and p).2 e1 (k1.setD (noPar_of (bIf_and p).1) (.int _))⟩
      · exact p.elim
    · exact w.elim

/-! ### while -/
abbrev RT := SD → List SD → Prop
def decP {I S : Type} (is : List Nat) (dec : List SD → Option (I × S)) (N : I → S → Prop) (env : List SD) : Prop := match dec (unS is env) with
  | some (i, s) => N i s
  | none => False
theorem decP_inv {I S : Type} {is : List Nat} {dec : List SD → Option (I × S)} {N : I → S → Prop} {env : List SD} (h : decP is dec N env) : ∃ i s, dec (unS is env) = some (i, s) ∧ N i s := by
  unfold decP at h
  split at h
  · exact ⟨_, _, ‹_›, h⟩
  · exact h.elim
/-- the state behind: what a loop doesn't change stays -/
def same {I S : Type} (i : I) (N : S → Prop) (i' : I) (s : S) : Prop := i' = i ∧ N s
def qWhileN {I S : Type} (b : I → S → (I → S → Prop) → (I → S → Prop) → Prop) (i : I) : Nat → S → (S → Prop) → Prop
  | 0, _, _ => False
  | n + 1, s, K => b i s (same i fun s => qWhileN b i n s K) (same i K)
def qWhile {I S : Type} (b : I → S → (I → S → Prop) → (I → S → Prop) → Prop) (i : I) (s : S) (K : S → Prop) : Prop := ∃ n, qWhileN b i n s K
def dWhileQ {κ I S : Type} (is : List Nat) (dec : List SD → Option (I × S)) (emb : I → S → List SD) (kk : RT → κ) (qb : κ → I → S → (I → S → Prop) → (I → S → Prop) → Prop) (E : DEnds) (env : List SD) : Prop :=
  decP is dec (fun i s => qWhile (qb (kk E.rt)) i s fun s => E.nx (emb i s)) env
theorem swhileQ {κ I S : Type} (is : List Nat) (dec : List SD → Option (I × S)) (emb : I → S → List SD) (kk : RT → κ) (qb : κ → I → S → (I → S → Prop) → (I → S → Prop) → Prop)
    (hde : ∀ env i s, dec env = some (i, s) → env = emb i s) {c : Expr} {body : List Stmt} {t : DT} (hp : PassesOwn (model X.prog X.w) X.A X.env X.xe) (hc : PT X c (liftT X.K t)) (hb : PSs X body (liftS X.K m w))
    (hq : ∀ (R : RT) (i : I) (s : S) (nx bk : I → S → Prop), qb (kk R) i s nx bk → t (emb i s) fun b env1 => bIf b (w { nx := decP is dec nx, ct := decP is dec nx, bk := decP is dec bk, rt := R } env1) (decP is dec bk env1)) :
    PS X (.While c body [] pos) (liftS X.K m (dWhileQ is dec emb kk qb)) :=
  PS.of (ps_while hp hc hb) fun D σ H ⟨g, F, env, P, k, w0, q⟩ => by
    obtain ⟨i0, s0, d0, n, w0⟩ := decP_inv w0
    have fin : ∀ {env' : List SD} {σ' : L2.St} {F' H' : Hp}, decP is dec (same i0 fun s => P.nx (emb i0 s)) env' → Ex F F' → Ok X.K g F' env' σ' H' → D.nx σ' H' := fun {env' σ' F' H'} p e k => by
      obtain ⟨i, s, d, rfl, p⟩ := decP_inv p
      have k2 := k.unS (is := is)
      rw [hde _ _ _ d] at k2
      exact q.nx _ _ _ _ p e k2
    refine ⟨fun m σ' H' => ∃ env' F', Ex F F' ∧ Ok X.K g F' env' σ' H' ∧ decP is dec (same i0 fun s => qWhileN (qb (kk P.rt)) i0 m s fun s => P.nx (emb i0 s)) env', ⟨n, env, F, Ex.refl F, k, by unfold decP; rw [d0]; exact ⟨rfl, w0⟩⟩, fun m σ' H' ⟨env', F', e1, k1, w1⟩ => ?_⟩
    obtain ⟨i, s, d, rfl, w1⟩ := decP_inv w1
    have k2 := k1.unS (is := is)
    rw [hde _ _ _ d] at k2
    cases m with
    | zero => exact w1.elim
    | succ m =>
      refine ⟨g, F', _, _, k2, hq P.rt i s _ _ w1, fun b env2 F2 H2 p2 e2 k2 => ?_⟩
      cases b with
      | false => exact iteF (fin p2 (e1.trans e2) k2)
      | true =>
        refine iteT ⟨fun σ3 H3 => ∃ env' F', Ex F F' ∧ Ok X.K g F' env' σ3 H3 ∧ decP is dec (same i fun s => qWhileN (qb (kk P.rt)) i m s fun s => P.nx (emb i s)) env', fun σ3 H3 h3 => ⟨m, Nat.lt_succ_self m, h3⟩, g, F2, env2, _, k2, p2, ?_⟩
        have e12 := e1.trans e2
        exact ⟨fun env3 σ3 F3 H3 p3 e3 k3 => ⟨env3, F3, e12.trans e3, k3, p3⟩, fun env3 σ3 F3 H3 p3 e3 k3 => fin p3 (e12.trans e3) k3, fun env3 σ3 F3 H3 p3 e3 k3 => ⟨env3, F3, e12.trans e3, k3, p3⟩, fun r env3 v σ3 F3 H3 p3 e3 k3 r3 => q.rt r env3 v σ3 F3 H3 p3 (e12.trans e3) k3 r3⟩

/-! ### what is walked -/
abbrev DI := List SD → (List PyData → List SD → Prop) → Prop
def Yld (K : PySem.W.Frag) (F H : Hp) (x : V) (H' : Hp) (d : PyData) : Prop := (H' = H ∧ DR K F x d) ∨ ∃ T xs ds, x = .ref T ∧ H T = none ∧ H' = upd H T (.tup xs) ∧ d = .tuple ds ∧ DRs K F xs ds
structure WalkD (K : PySem.W.Frag) (F : Hp) (J : It) (items : List PyData) : Prop where
  ex : ∃ G Y, Walk J items.length G Y ∧ (∀ H, Ex F H → G H) ∧ ∀ i H x H' d, Ex F H → items[i]? = some d → Y i H x H' → Yld K F H x H' d
def liftI (K : PySem.W.Frag) (w : DI) : TI := fun σ H R => ∃ (g : Gx) (F : Hp) (env : List SD) (P : List PyData → List SD → Prop), Ok K g F env σ H ∧ w env P ∧
  ∀ items env' J F' H', P items env' → Ex F F' → Ok K g F' env' σ H' → WalkD K F' J items → R J H'
theorem PI.of {tg e : Expr} {t t' : TI} (h : PI X tg e t) (w : ∀ σ H R, t' σ H R → t σ H R) : PI X tg e t' := ⟨fun pins s σ H R I q => h.run pins s σ H R I (w σ H R q)⟩
theorem Ok.yld {K : PySem.W.Frag} {g : Gx} {F F0 : Hp} {env : List SD} {σ : L2.St} {H H' : Hp} {x : V} {d : PyData} (k : Ok K g F env σ H) (e : Ex F0 F) (y : Yld K F0 H x H' d) : ∃ F', Ex F F' ∧ Ok K g F' env σ H' ∧ DR K F' x d := by
  rcases y with ⟨rfl, r⟩ | ⟨T, xs, ds, rfl, hT, rfl, rfl, r⟩
  · exact ⟨F, Ex.refl F, k, r.mono e⟩
  · obtain ⟨e2, k2, r2⟩ := k.newTup hT (r.mono e)
    exact ⟨_, e2, k2, r2⟩
/-- lo, lo + 1, .. -/
def rangeD (lo : Int) (n : Nat) : List PyData := (List.range n).map fun (i : Nat) => .int (lo + i)
theorem walkD_range {K : PySem.W.Frag} {F : Hp} (lo : Int) (n : Nat) : WalkD K F (Itr lo n) (rangeD lo n) := by
  refine ⟨fun _ => True, YFn fun i => .int (lo + i), by rw [show (rangeD lo n).length = n by simp [rangeD]]; exact walk_range, fun _ _ => trivial, fun i H x H' d _ e y => .inl ⟨y.1, ?_⟩⟩
  have y2 := y.2
  subst y2
  unfold rangeD at e
  rw [List.getElem?_map] at e
  by_cases hi : i < n
  · rw [List.getElem?_range hi] at e
    cases e
    exact .int _
  · rw [List.getElem?_eq_none (by simp; omega)] at e
    cases e
abbrev QI := List PyData → (List PyData → Prop) → Prop
/-- what is walked, by arguments -/
def dIt (f : QI) (was : DA) (env : List SD) (P : List PyData → List SD → Prop) : Prop := was env fun ds env' => f ds fun items => P items env'
def rng1 (ds : List PyData) (K : List PyData → Prop) : Prop := match ds with
  | [.int n] => (-1000000 ≤ n ∧ n ≤ 1000000) ∧ K (rangeD 0 n.toNat)
  | _ => False
def rng2 (ds : List PyData) (K : List PyData → Prop) : Prop := match ds with
  | [.int m, .int n] => (-1000000 ≤ m ∧ m ≤ 1000000 ∧ -1000000 ≤ n ∧ n ≤ 1000000) ∧ K (rangeD m (n - m).toNat)
  | _ => False
theorem irange1 {tg : Expr} {p : Pos} (hm : X.mg "range" = none) (ha : PA X [a] (liftA X.K was)) (hg : Gl X "range" := by rfl) (hs : starEach [a] X.env = [(false, eval a X.env)] := by rfl) : PI X tg (.Call (.Name "range" p) [a] [] pos) (liftI X.K (dIt rng1 was)) :=
  PI.of (pi_range1 hg hm ha hs) fun σ H R ⟨g, F, env, P, k, w, q⟩ => ⟨g, F, env, _, k, w, fun ds env1 vs F1 H1 p e1 k1 r1 => by
    unfold rng1 at p
    split at p
    · obtain ⟨v, rfl, r2⟩ := r1.inv1
      cases r2.inv_int
      exact ⟨_, rfl, by omega, by omega, q _ env1 _ F1 H1 p.2 e1 k1 (walkD_range 0 _)⟩
    · exact p.elim⟩
theorem irange2 {tg : Expr} {p : Pos} (hm : X.mg "range" = none) (ha : PA X [a, b] (liftA X.K was)) (hg : Gl X "range" := by rfl) (hs : starEach [a, b] X.env = [(false, eval a X.env), (false, eval b X.env)] := by rfl) (hs2 : starEach [b] X.env = [(false, eval b X.env)] := by rfl) :
    PI X tg (.Call (.Name "range" p) [a, b] [] pos) (liftI X.K (dIt rng2 was)) :=
  PI.of (pi_range2 hg hm ha hs hs2) fun σ H R ⟨g, F, env, P, k, w, q⟩ => ⟨g, F, env, _, k, w, fun ds env1 vs F1 H1 p e1 k1 r1 => by
    unfold rng2 at p
    split at p
    · obtain ⟨v, u, rfl, r2, r3⟩ := r1.inv2
      cases r2.inv_int
      cases r3.inv_int
      exact ⟨_, _, rfl, ⟨by omega, by omega, by omega, by omega⟩, q _ env1 _ F1 H1 p.2 e1 k1 (walkD_range _ _)⟩
    · exact p.elim⟩
theorem walkD_list {K : PySem.W.Frag} {F : Hp} {a : Addr} {xs : List V} {ds : List PyData} (h : RdL K F a xs) (r : DRs K F xs ds) : WalkD K F (Itl K a) ds :=
  ⟨fun H => SqL K H a xs, YAt xs, by rw [← r.length]; exact walk_list (xs := xs), fun H e => (h.mono e).sq, fun i H x H' d _ e y => .inl ⟨y.1, by
    obtain ⟨v, h1, h2⟩ := r.get e
    have y2 := y.2
    rw [h1] at y2
    cases y2
    exact h2⟩⟩
theorem walkD_tup {K : PySem.W.Frag} {F : Hp} {a : Addr} {xs : List V} {ds : List PyData} (h : SqT K F a xs) (r : DRs K F xs ds) : WalkD K F (Itt K a) ds :=
  ⟨fun H => SqT K H a xs, YAt xs, by rw [← r.length]; exact walk_tup (xs := xs), fun H e => Evl.ex_t e h, fun i H x H' d _ e y => .inl ⟨y.1, by
    obtain ⟨v, h1, h2⟩ := r.get e
    have y2 := y.2
    rw [h1] at y2
    cases y2
    exact h2⟩⟩
/-- over a list or a tuple -/
def iSeq (K : PySem.W.Frag) (tl : TE) : TI := fun σ H R => tl σ H fun x H1 => ∃ a, x = .ref a ∧ ((∃ xs, SqL K H1 a xs ∧ R (Itl K a) H1) ∨ ∃ xs, SqT K H1 a xs ∧ R (Itt K a) H1)
theorem pi_seq {tg l : Expr} {tl : TE} (hl : PE X l tl) : PI X tg l (iSeq X.K tl) := by
  refine ⟨fun pins s σ H R I h => thn (hl.run pins s σ H _ I h) fun v s1 ⟨x, H1, I1, r1, a, ea, q1⟩ => ?_⟩
  subst ea
  cases r1
  have fo : ∀ b ∈ [s1.heap.objs.size], FpOk X pins H1 b := fun b hb => by
    rw [List.mem_singleton.mp hb]
    exact I1.fpOk (Nat.le_refl _) (I1.hok.fresh (Nat.le_refl _))
  rcases q1 with ⟨xs, hq, q⟩ | ⟨xs, hq, q⟩
  · obtain ⟨its, rv, pl, hz⟩ := I1.list hq
    exact wpAny_pyIter_list pl.isList ⟨s1.heap.objs.size, [s1.heap.objs.size], _, _, H1, rfl, I1.kept (t' := s1.toks) (fun b o e => Heap.get?_push_of_some _ e), turn_list a _, ⟨_, Heap.get?_push_size _ rfl, rfl, rfl⟩, fo, q⟩
  · obtain ⟨its, rv, pl, hz⟩ := I1.tuple hq
    exact wpAny_pyIter_tuple (show s1.heap.IsTuple a its.toArray from pl) ⟨s1.heap.objs.size, [s1.heap.objs.size], _, _, H1, rfl, I1.kept (t' := s1.toks) (fun b o e => Heap.get?_push_of_some _ e), turn_tuple a _, ⟨_, Heap.get?_push_size _ rfl, rfl, rfl⟩, fo, q⟩
def itemsQ (d : PyData) (K : List PyData → Prop) : Prop := match d with
  | .list ds => K ds
  | .tuple ds => K ds
  | _ => False
def dItems (we : DE) (env : List SD) (P : List PyData → List SD → Prop) : Prop := we env fun d env' => itemsQ d fun ds => P ds env'
theorem iseq {tg : Expr} (he : PE X e (liftE X.K we)) : PI X tg e (liftI X.K (dItems we)) := PI.of (pi_seq he) fun σ H R ⟨g, F, env, P, k, w, q⟩ => ⟨g, F, env, _, k, w, fun d env1 v F1 H1 p e1 k1 r1 => by
  unfold itemsQ at p
  split at p
  · obtain ⟨a, xs, rfl, h1, h2⟩ := r1.inv_lst
    exact ⟨a, rfl, .inl ⟨xs, (h1.mono k1.fh).sq, q _ env1 _ F1 H1 p e1 k1 (walkD_list h1 h2)⟩⟩
  · obtain ⟨a, xs, rfl, h1, h2⟩ := r1.inv_tup
    exact ⟨a, rfl, .inr ⟨xs, Evl.ex_t k1.fh h1, q _ env1 _ F1 H1 p e1 k1 (walkD_tup h1 h2)⟩⟩
  · exact p.elim⟩
/-- zip of two lists, of two tuples -/
def zipD : List PyData → List PyData → List PyData
  | x :: xs, y :: ys => .tuple [x, y] :: zipD xs ys
  | _, _ => []
theorem zipD_length : ∀ xs ys : List PyData, (zipD xs ys).length = min xs.length ys.length
  | [], _ => by simp [zipD]
  | _ :: _, [] => by simp [zipD]
  | x :: xs, y :: ys => by simp [zipD, zipD_length xs ys]
theorem zipD_get : ∀ {xs ys : List PyData} {i : Nat} {d : PyData}, (zipD xs ys)[i]? = some d → ∃ x y, xs[i]? = some x ∧ ys[i]? = some y ∧ d = .tuple [x, y]
  | [], _, _, _, h => by simp [zipD] at h
  | _ :: _, [], _, _, h => by simp [zipD] at h
  | x :: xs, y :: ys, 0, d, h => by simp [zipD] at h; exact ⟨x, y, rfl, rfl, h.symm⟩
  | x :: xs, y :: ys, i + 1, d, h => by
    obtain ⟨u, v, h1, h2, h3⟩ := zipD_get (xs := xs) (ys := ys) (i := i) (d := d) (by simpa [zipD] using h)
    exact ⟨u, v, by simpa using h1, by simpa using h2, h3⟩
theorem walk_zipT {K : PySem.W.Frag} {a b : Addr} {xs ys : List V} : Walk (RZ.ItzT K a b) (min xs.length ys.length) (fun H => SqT K H a xs ∧ SqT K H b ys) (YPair (fun i => xs[i]?) (fun i => ys[i]?)) :=
  ⟨fun i H hi q => ⟨xs, ys, xs[i]'(by omega), ys[i]'(by omega), q.1, q.2, by simp [show i < xs.length by omega], by simp [show i < ys.length by omega]⟩,
   fun H q => ⟨xs, ys, q.1, q.2, by omega⟩,
   fun i H x H' hi q y => by
    obtain ⟨T, u, v, h1, h2, h3, h4, h5⟩ := y
    exact ⟨T, u, v, h1, h2, h3, h4 xs q.1, h5 ys q.2⟩⟩
def zipQ (ds : List PyData) (K : List PyData → Prop) : Prop := match ds with
  | [.list xs, .list ys] => K (zipD xs ys)
  | [.tuple xs, .tuple ys] => K (zipD xs ys)
  | _ => False
theorem yld_pair {K : PySem.W.Frag} {F H H' : Hp} {us ws : List V} {xs ys : List PyData} {x : V} {i : Nat} {d : PyData} (r : DRs K F us xs) (r2 : DRs K F ws ys) (e : (zipD xs ys)[i]? = some d) (y : YPair (fun i => us[i]?) (fun i => ws[i]?) i H x H') : Yld K F H x H' d := by
  obtain ⟨T, u, v, h1, h2, h3, h4, h5⟩ := y
  obtain ⟨dx, dy, e1, e2, rfl⟩ := zipD_get e
  obtain ⟨u', z1, z2⟩ := r.get e1
  obtain ⟨v', y1, y2⟩ := r2.get e2
  dsimp only at h4 h5
  rw [z1] at h4
  rw [y1] at h5
  cases h4
  cases h5
  exact .inr ⟨T, _, _, h1, h2, h3, rfl, .cons z2 (.one y2)⟩
theorem walkD_zipL {K : PySem.W.Frag} {F : Hp} {a b : Addr} {us ws : List V} {xs ys : List PyData} (h1 : RdL K F a us) (h3 : RdL K F b ws) (h2 : DRs K F us xs) (h4 : DRs K F ws ys) : WalkD K F (Itz K a b) (zipD xs ys) :=
  ⟨fun H => SqL K H a us ∧ SqL K H b ws, YPair (fun i => us[i]?) (fun i => ws[i]?), walk_zip (by rw [zipD_length, h2.length, h4.length]), fun H e => ⟨(h1.mono e).sq, (h3.mono e).sq⟩, fun i H x H' d _ e y => yld_pair h2 h4 e y⟩
theorem walkD_zipT {K : PySem.W.Frag} {F : Hp} {a b : Addr} {us ws : List V} {xs ys : List PyData} (h1 : SqT K F a us) (h3 : SqT K F b ws) (h2 : DRs K F us xs) (h4 : DRs K F ws ys) : WalkD K F (RZ.ItzT K a b) (zipD xs ys) :=
  ⟨fun H => SqT K H a us ∧ SqT K H b ws, YPair (fun i => us[i]?) (fun i => ws[i]?), by rw [zipD_length, ← h2.length, ← h4.length]; exact walk_zipT, fun H e => ⟨Evl.ex_t e h1, Evl.ex_t e h3⟩, fun i H x H' d _ e y => yld_pair h2 h4 e y⟩
theorem izip {elts : List Expr} {kk : Nat} {tpos p : Pos} (hm : X.mg "zip" = none) (ha : PA X [a, b] (liftA X.K was)) (hg : Gl X "zip" := by rfl) (hs : starEach [a, b] X.env = (false, eval a X.env) :: starEach [b] X.env := by rfl)
    (hpl : (backTo pos (starEach [b] X.env)).any (·.1) = false := by rfl) : PI X (.Tuple elts kk tpos) (.Call (.Name "zip" p) [a, b] [] pos) (liftI X.K (dIt zipQ was)) :=
  PI.of (RZ.pi_zipA hg hm ha hs hpl) fun σ H R ⟨g, F, env, P, k, w, q⟩ => ⟨g, F, env, _, k, w, fun ds env1 vs F1 H1 p e1 k1 r1 => by
    unfold zipQ at p
    split at p
    · obtain ⟨v, u, rfl, r2, r3⟩ := r1.inv2
      obtain ⟨a, us, rfl, h1, h2⟩ := r2.inv_lst
      obtain ⟨b, ws, rfl, h3, h4⟩ := r3.inv_lst
      exact ⟨a, b, us, ws, rfl, .inl ⟨(h1.mono k1.fh).sq, (h3.mono k1.fh).sq, q _ env1 _ F1 H1 p e1 k1 (walkD_zipL h1 h3 h2 h4)⟩⟩
    · obtain ⟨v, u, rfl, r2, r3⟩ := r1.inv2
      obtain ⟨a, us, rfl, h1, h2⟩ := r2.inv_tup
      obtain ⟨b, ws, rfl, h3, h4⟩ := r3.inv_tup
      exact ⟨a, b, us, ws, rfl, .inr ⟨Evl.ex_t k1.fh h1, Evl.ex_t k1.fh h3, q _ env1 _ F1 H1 p e1 k1 (walkD_zipT h1 h3 h2 h4)⟩⟩
    · exact p.elim⟩

/-! ### for -/
def qFor {I S : Type} (b : PyData → I → S → (I → S → Prop) → (I → S → Prop) → Prop) (i : I) : List PyData → S → (S → Prop) → Prop
  | [], s, K => K s
  | d :: r, s, K => b d i s (same i fun s => qFor b i r s K) (same i K)
def dForQ {κ I S : Type} (is : List Nat) (dec : List SD → Option (I × S)) (emb : I → S → List SD) (kk : RT → κ) (qb : κ → PyData → I → S → (I → S → Prop) → (I → S → Prop) → Prop) (wi : DI) (E : DEnds) (env : List SD) : Prop :=
  wi env fun items env1 => decP is dec (fun i s => qFor (qb (kk E.rt)) i items s fun s => E.nx (emb i s)) env1
theorem sforQ {κ I S : Type} (is : List Nat) (dec : List SD → Option (I × S)) (emb : I → S → List SD) (kk : RT → κ) (qb : κ → PyData → I → S → (I → S → Prop) → (I → S → Prop) → Prop)
    (hde : ∀ env i s, dec env = some (i, s) → env = emb i s) {tg iter : Expr} {body : List Stmt} {wi : DI} {t : DG} (hp : PassesOwn (model X.prog X.w) X.A X.env X.xe) (hc : X.calm = true) (hi : PI X tg iter (liftI X.K wi)) (hg : PG X tg (liftG X.K t)) (hb : PSs X body (liftS X.K m w))
    (hq : ∀ (R : RT) (d : PyData) (i : I) (s : S) (nx bk : I → S → Prop), qb (kk R) d i s nx bk → t d (emb i s) fun env1 => w { nx := decP is dec nx, ct := decP is dec nx, bk := decP is dec bk, rt := R } env1)
    (hs : ∀ x, foldedSetIterable iter X.env x = pure x := by intro _; rfl) : PS X (.For tg iter body [] pos) (liftS X.K m (dForQ is dec emb kk qb wi)) :=
  PS.of (ps_for hp hc hi hg hb hs) fun D σ H ⟨g, F, env, P, k, w0, q⟩ => ⟨g, F, env, _, k, w0, fun items env1 J F1 H1 p e1 k1 ⟨G, Y, wk, hG, hY⟩ => by
    have q := q.ex e1
    obtain ⟨i0, s0, d0, p⟩ := decP_inv p
    have fin : ∀ {env' : List SD} {σ' : L2.St} {F' H' : Hp}, decP is dec (same i0 fun s => P.nx (emb i0 s)) env' → Ex F1 F' → Ok X.K g F' env' σ' H' → D.nx σ' H' := fun {env' σ' F' H'} p e k => by
      obtain ⟨i, s, d, rfl, p⟩ := decP_inv p
      have k2 := k.unS (is := is)
      rw [hde _ _ _ d] at k2
      exact q.nx _ _ _ _ p e k2
    refine for_it wk (fun j σ' H' => ∃ env' F', Ex F1 F' ∧ Ok X.K g F' env' σ' H' ∧ decP is dec (same i0 fun s => qFor (qb (kk P.rt)) i0 (items.drop j) s fun s => P.nx (emb i0 s)) env') ⟨env1, F1, Ex.refl F1, k1, by unfold decP; rw [d0]; exact ⟨rfl, p⟩⟩ (fun i σ' H' _ ⟨env', F', e2, k2, _⟩ => hG H' (e2.trans k2.fh)) (fun j x σ' H' H2 hj ⟨env', F', e2, k2, w2⟩ y => ?_) fun σ' H' ⟨env', F', e2, k2, w2⟩ => ?_
    · obtain ⟨i, s, de, rfl, w3⟩ := decP_inv w2
      have k2 := k2.unS (is := is)
      rw [hde _ _ _ de] at k2
      have hd : items.drop j = items[j] :: items.drop (j + 1) := List.drop_eq_getElem_cons hj
      rw [hd] at w3
      obtain ⟨F3, e3, k3, r3⟩ := k2.yld e2 (hY j H' x H2 items[j] (e2.trans k2.fh) (by simp [hj]) y)
      have e13 := e2.trans e3
      refine ⟨g, F3, _, _, _, k3, r3, hq P.rt _ i s _ _ w3, fun env4 σ4 F4 H4 p4 e4 k4 => ⟨g, F4, env4, _, k4, p4, ?_⟩⟩
      have e14 := e13.trans e4
      exact ⟨fun env5 σ5 F5 H5 p5 e5 k5 => ⟨env5, F5, e14.trans e5, k5, p5⟩, fun env5 σ5 F5 H5 p5 e5 k5 => fin p5 (e14.trans e5) k5, fun env5 σ5 F5 H5 p5 e5 k5 => ⟨env5, F5, e14.trans e5, k5, p5⟩, fun r env5 v σ5 F5 H5 p5 e5 k5 r5 => q.rt r env5 v σ5 F5 H5 p5 (e14.trans e5) k5 r5⟩
    · rw [List.drop_length] at w2
      exact fin w2 e2 k2⟩
end
end DL

/-! The data layer, part 6: comprehensions; a def by its body; the end. -/
namespace DL
open PySem PySem.Spec PyProof.Rows L2
open Evl (Ex)

/-! ### slots forgotten, slots set -/
def wipeD (env : List SD) : List Nat → List SD
  | [] => env
  | v :: vs => (wipeD env vs).set v .un
def setAll (σ : L2.St) : List Nat → List V → L2.St
  | i :: is, v :: vs => setAll (σ.set i (some v)) is vs
  | _, _ => σ
def setAllD (env : List SD) : List Nat → List PyData → List SD
  | i :: is, d :: ds => setAllD (env.set i (.dat d)) is ds
  | _, _ => env
theorem wipe_get (σ : L2.St) : ∀ (vs : List Nat) (j : Nat), (wipe σ vs)[j]? = if j ∈ vs then (σ[j]?).map (fun _ => none) else σ[j]?
  | [], j => by simp [wipe]
  | v :: vs, j => by
    unfold wipe
    rw [List.getElem?_set]
    by_cases h : v = j
    · subst h
      rw [if_pos rfl, if_pos List.mem_cons_self, wipe_length]
      by_cases hl : v < σ.length
      · rw [if_pos hl]
        simp [hl]
      · rw [if_neg hl]
        simp [Nat.le_of_not_lt hl]
    · rw [if_neg h, wipe_get σ vs j]
      by_cases hj : j ∈ vs
      · rw [if_pos hj, if_pos (List.mem_cons_of_mem _ hj)]
      · rw [if_neg hj, if_neg (fun z => (List.mem_cons.mp z).elim (fun z => h z.symm) hj)]
theorem wipe_set {σ : L2.St} {vs : List Nat} {i : Nat} {o : Option V} (h : i ∈ vs) : wipe (σ.set i o) vs = wipe σ vs := List.ext_getElem? fun j => by
  rw [wipe_get, wipe_get]
  by_cases hj : j ∈ vs
  · rw [if_pos hj, if_pos hj, List.getElem?_set]
    by_cases e : i = j
    · subst e
      rw [if_pos rfl]
      by_cases hl : i < σ.length
      · simp [hl]
      · rw [if_neg hl]
        simp [Nat.le_of_not_lt hl]
    · rw [if_neg e]
  · have ne : i ≠ j := fun e => by subst e; exact hj h
    rw [if_neg hj, if_neg hj, List.getElem?_set, if_neg ne]
theorem wipe_all {vs : List Nat} : ∀ {is : List Nat} {us : List V} {σ : L2.St}, (∀ i ∈ is, i ∈ vs) → wipe (setAll σ is us) vs = wipe σ vs
  | [], _, _, _ => by simp [setAll]
  | i :: is, [], _, _ => by simp [setAll]
  | i :: is, u :: us, σ, h => by
    unfold setAll
    rw [wipe_all (fun j hj => h j (List.mem_cons_of_mem _ hj)), wipe_set (h i List.mem_cons_self)]
theorem wipe_wipe {vs : List Nat} {σ : L2.St} : wipe (wipe σ vs) vs = wipe σ vs := List.ext_getElem? fun j => by
  rw [wipe_get, wipe_get]
  by_cases hj : j ∈ vs
  · rw [if_pos hj, if_pos hj]
    cases σ[j]? <;> rfl
  · rw [if_neg hj, if_neg hj]
section
variable {K : PySem.W.Frag} {g : Gx} {F F' : Hp} {env : List SD} {σ : L2.St} {H : Hp}
theorem noPar_un {env : List SD} {i j : Nat} {r : SD} (h : NoPar env j) (hr : ∀ xs, r ≠ .cel true xs) : NoPar (env.set i r) j := fun xs e => by
  rcases get_set e with ⟨_, q⟩ | ⟨_, q⟩
  · exact hr xs q.symm
  · exact h xs q
theorem noPar_wipe {env : List SD} {j : Nat} (h : NoPar env j) : ∀ vs : List Nat, NoPar (wipeD env vs) j
  | [] => h
  | v :: vs => noPar_un (noPar_wipe h vs) (fun _ z => by cases z)
theorem Ok.wiped (k : Ok K g F env σ H) : ∀ {vs : List Nat}, (∀ v ∈ vs, NoPar env v) → Ok K g F (wipeD env vs) (wipe σ vs) H
  | [], _ => k
  | v :: vs, h => (k.wiped (vs := vs) fun u hu => h u (List.mem_cons_of_mem _ hu)).setU (noPar_wipe (h v List.mem_cons_self) vs)
theorem Ok.setAll : ∀ {is : List Nat} {us : List V} {ds : List PyData} {env : List SD} {σ : L2.St}, Ok K g F env σ H → (∀ i ∈ is, NoPar env i) → DRs K F us ds → Ok K g F (setAllD env is ds) (DL.setAll σ is us) H
  | [], _, _, _, _, k, _, _ => by simpa [DL.setAll, setAllD] using k
  | i :: is, _, _, _, _, k, h, .nil => by simpa [DL.setAll, setAllD] using k
  | i :: is, _, _, _, _, k, h, .cons a b => by
    unfold DL.setAll setAllD
    exact Ok.setAll (k.setD (h i List.mem_cons_self) a) (fun j hj => noPar_un (h j (List.mem_cons_of_mem _ hj)) (fun _ z => by cases z)) b
theorem Ok.unwiped {vs : List Nat} (k : Ok K g F env (wipe σ vs) H) : Ok K g F env σ H := by
  have up : ∀ {i : Nat} {v : V}, (wipe σ vs)[i]? = some (some v) → σ[i]? = some (some v) := fun {i v} e => by
    rw [wipe_get] at e
    by_cases hj : i ∈ vs
    · rw [if_pos hj] at e
      cases q : σ[i]? with
      | none => rw [q] at e; cases e
      | some o => rw [q] at e; cases e
    · rw [if_neg hj] at e
      exact e
  have dn : ∀ {j : Nat} {p : Bool} {ys : List PyData} {a : Addr}, env[j]? = some (.cel p ys) → σ[j]? = some (some (.ref a)) → (wipe σ vs)[j]? = some (some (.ref a)) := fun {j p ys a} e q => by
    obtain ⟨b, _, h1, _⟩ := k.cel j p ys e
    have := up h1
    rw [q] at this
    cases this
    exact h1
  refine ⟨k.len.trans (wipe_length σ vs), k.fh, fun i d e => ?_, fun i p xs e => ?_, fun i j p q xs ys a h1 h2 h3 h4 => k.sep i j p q xs ys a h1 h2 (dn h1 h3) (dn h2 h4), k.pin, k.frame, k.newF, k.oldF, fun a o e => ?_⟩
  · obtain ⟨v, h1, h2⟩ := k.dat i d e
    exact ⟨v, up h1, h2⟩
  · obtain ⟨a, us, h1, h2⟩ := k.cel i p xs e
    exact ⟨a, us, up h1, h2⟩
  · obtain ⟨z1, z2, z3⟩ := k.prot a o e
    exact ⟨z1, z2, fun j p ys e1 e2 => z3 j p ys e1 (dn e1 e2)⟩
theorem set_same {α : Type} {l : List α} {i : Nat} {x : α} (h : l[i]? = some x) : l.set i x = l := List.ext_getElem? fun j => by
  rw [List.getElem?_set]
  by_cases e : i = j
  · subst e
    rw [if_pos rfl, if_pos (List.getElem?_eq_some_iff.mp h).1, h]
  · rw [if_neg e]
/-- what stood at the slots vs is known again -/
def again (env1 : List SD) : List Nat → List SD → List SD
  | [], env2 => env2
  | v :: vs, env2 => match env1[v]? with
    | some (.dat d) => again env1 vs (env2.set v (.dat d))
    | _ => again env1 vs env2
theorem Ok.again {F1 H1 : Hp} {env1 : List SD} (k1 : Ok K g F1 env1 σ H1) (ex : Ex F1 F) : ∀ {vs : List Nat} {env2 : List SD}, Ok K g F env2 σ H → (∀ v ∈ vs, NoPar env2 v) → Ok K g F (DL.again env1 vs env2) σ H
  | [], _, k, _ => k
  | v :: vs, env2, k, h => by
    unfold DL.again
    split
    · rename_i d e
      obtain ⟨u, h1, h2⟩ := k1.dat v d e
      have k2 := k.setD (h v List.mem_cons_self) (h2.mono ex)
      rw [set_same h1] at k2
      exact Ok.again k1 ex k2 fun j hj => noPar_un (h j (List.mem_cons_of_mem _ hj)) (fun _ z => by cases z)
    · exact Ok.again k1 ex k fun j hj => h j (List.mem_cons_of_mem _ hj)
/-- the cell at D, no name's, protected -/
theorem Ok.hide (k : Ok K g F env σ H) {D : Addr} {vs : List V} (hF : F D = none) (hH : H D = some (.lst vs)) (nw : ∀ (j : Nat) (p : Bool) (ys : List PyData), env[j]? = some (.cel p ys) → σ[j]? ≠ some (some (.ref D))) : Ok K { g with Pr := upd g.Pr D (.lst vs) } F env σ H :=
  ⟨k.len, k.fh, k.dat, k.cel, k.sep, k.pin, k.frame, k.newF, k.oldF, fun a o e => by
    by_cases z : a = D
    · subst z
      have e' : upd g.Pr a (.lst vs) a = some o := e
      rw [upd_same] at e'
      cases e'
      exact ⟨hH, hF, nw⟩
    · have e' : upd g.Pr D (.lst vs) a = some o := e
      rw [upd_ne z] at e'
      exact k.prot a o e'⟩
theorem Ok.bare {D : Addr} {vs : List V} (k : Ok K { g with Pr := upd g.Pr D (.lst vs) } F env σ H) (hp : g.Pr D = none) :
    Ok K g F env σ H ∧ F D = none ∧ H D = some (.lst vs) ∧ ∀ (j : Nat) (p : Bool) (ys : List PyData), env[j]? = some (.cel p ys) → σ[j]? ≠ some (some (.ref D)) := by
  obtain ⟨z1, z2, z3⟩ := k.prot D (.lst vs) upd_same
  refine ⟨⟨k.len, k.fh, k.dat, k.cel, k.sep, k.pin, k.frame, k.newF, k.oldF, fun a o e => ?_⟩, z2, z1, z3⟩
  have ne : a ≠ D := fun z => by rw [z, hp] at e; cases e
  exact k.prot a o (show upd g.Pr D (.lst vs) a = some o by rw [upd_ne ne]; exact e)
/-- a cell of no name is written -/
theorem Ok.writeP (k : Ok K g F env σ H) {D : Addr} {o : HO} (hF : F D = none) (h0 : g.H0 D = none) (hp : g.Pr D = none) (nw : ∀ (j : Nat) (p : Bool) (ys : List PyData), env[j]? = some (.cel p ys) → σ[j]? ≠ some (some (.ref D))) : Ok K g F env σ (upd H D o) := by
  refine ⟨k.len, fun a u e => ?_, k.dat, fun i p xs e => ?_, k.sep, k.pin, fun a u e n => ?_, k.newF, k.oldF, fun a u e => ?_⟩
  · have ne : a ≠ D := fun z => by rw [z, hF] at e; cases e
    rw [upd_ne ne]
    exact k.fh a u e
  · obtain ⟨a, us, h1, h2, h3, h4⟩ := k.cel i p xs e
    have ne : a ≠ D := fun z => by subst z; exact nw i p xs e h1
    exact ⟨a, us, h1, h2, by rw [upd_ne ne]; exact h3, h4⟩
  · have ne : a ≠ D := fun z => by rw [z, h0] at e; cases e
    rw [upd_ne ne]
    exact k.frame a u e n
  · obtain ⟨z1, z2, z3⟩ := k.prot a u e
    have ne : a ≠ D := fun z => by rw [z, hp] at e; cases e
    exact ⟨by rw [upd_ne ne]; exact z1, z2, z3⟩
end

/-! ### comprehensions -/
inductive CT where
  | one (i : Nat)
  | tup (is : List Nat)
def CT.slots : CT → List Nat
  | .one i => [i]
  | .tup is => is
def gNs : List Nat → TGs
  | [] => gNil
  | i :: is => gCons (gName i) (gNs is)
/-- the target's reading -/
def CT.g (K : PySem.W.Frag) : CT → TG
  | .one i => gName i
  | .tup is => gTup K is.length (gNs is)
def setK : List Nat → List PyData → List SD → (List SD → Prop) → Prop
  | [], ds, env, P => nilQ ds (P env)
  | i :: is, ds, env, P => consQ ds fun d r => setK is r (env.set i (.dat d)) P
theorem setK_inv : ∀ {is : List Nat} {ds : List PyData} {env : List SD} {P : List SD → Prop}, setK is ds env P → ds.length = is.length ∧ P (setAllD env is ds)
  | [], ds, env, P, h => by
    obtain ⟨rfl, h⟩ := nilQ_inv h
    exact ⟨rfl, h⟩
  | i :: is, ds, env, P, h => by
    obtain ⟨d, r, rfl, h⟩ := consQ_inv h
    obtain ⟨e, h⟩ := setK_inv (is := is) h
    exact ⟨by simp [e], h⟩
def CT.d : CT → DG
  | .one i => fun x env P => P (env.set i (.dat x))
  | .tup is => fun x env P => tupQ x fun ds => setK is ds env P
theorem gNs_ok : ∀ {is : List Nat} {vs : List V} {σ : L2.St} {H : Hp} {Q : L2.St → Hp → Prop}, vs.length = is.length → Q (setAll σ is vs) H → gNs is vs σ H Q
  | [], [], σ, H, Q, _, h => ⟨rfl, by simpa [setAll] using h⟩
  | [], _ :: _, _, _, _, e, _ => by simp at e
  | _ :: _, [], _, _, _, e, _ => by simp at e
  | i :: is, v :: vs, σ, H, Q, e, h => ⟨v, vs, rfl, gNs_ok (by simpa using e) (by unfold setAll at h; exact h)⟩
theorem CT.ok {K : PySem.W.Frag} {g : Gx} {F H : Hp} {env : List SD} {σ : L2.St} {t : CT} {x : V} {d : PyData} {P : List SD → Prop} {Q : L2.St → Hp → Prop} (k : Ok K g F env σ H) (hn : ∀ i ∈ t.slots, NoPar env i) (r : DR K F x d) (w : t.d d env P)
    (q : ∀ env' σ', P env' → Ok K g F env' σ' H → (∃ us, σ' = setAll σ t.slots us) → Q σ' H) : t.g K x σ H Q := by
  cases t with
  | one i => exact q _ _ w (k.setD (hn i (List.mem_singleton.mpr rfl)) r) ⟨[x], by simp [CT.slots, setAll]⟩
  | tup is =>
    obtain ⟨ds, rfl, w⟩ := tupQ_inv w
    have w := setK_inv w
    obtain ⟨a, xs, rfl, h1, h2⟩ := r.inv_tup
    exact ⟨a, xs, rfl, Evl.ex_t k.fh h1, h2.length.trans w.1, gNs_ok (h2.length.trans w.1) (q _ _ w.2 (k.setAll hn h2) ⟨xs, rfl⟩)⟩
def decQ {I S : Type} (dec : List SD → Option (I × S)) (N : I → S → Prop) (env : List SD) : Prop := match dec env with
  | some (i, s) => N i s
  | none => False
theorem decQ_inv {I S : Type} {dec : List SD → Option (I × S)} {N : I → S → Prop} {env : List SD} (h : decQ dec N env) : ∃ i s, dec env = some (i, s) ∧ N i s := by
  unfold decQ at h
  split at h
  · exact ⟨_, _, ‹_›, h⟩
  · exact h.elim
def qLc {I S : Type} (b : PyData → I → S → (I → S → Prop) → (PyData → I → S → Prop) → Prop) (i : I) : List PyData → List PyData → S → (List PyData → S → Prop) → Prop
  | [], acc, s, K => K acc s
  | d :: r, acc, s, K => b d i s (same i fun s => qLc b i r acc s K) fun y => same i fun s => acc.length < 100000 ∧ qLc b i r (acc ++ [y]) s K
def dLcQ {I S : Type} (dec : List SD → Option (I × S)) (emb : I → S → List SD) (qb : PyData → I → S → (I → S → Prop) → (PyData → I → S → Prop) → Prop) (wi : DI) (t : CT) (env : List SD) (P : SD → List SD → Prop) : Prop :=
  wi env fun items env1 => bIf (t.slots.all (noPar env1)) (decQ dec (fun i s => qLc qb i items [] s fun acc s => bIf (t.slots.all (noPar (emb i s))) (P (.cel false acc) (again env1 t.slots (emb i s))) False) (wipeD env1 t.slots)) False
def LcHyp {I S : Type} (dec : List SD → Option (I × S)) (emb : I → S → List SD) (qb : PyData → I → S → (I → S → Prop) → (PyData → I → S → Prop) → Prop) (t : CT) (c : DT) (we : DE) : Prop :=
  ∀ (d : PyData) (i : I) (s : S) (sk : I → S → Prop) (yd : PyData → I → S → Prop), qb d i s sk yd → t.d d (emb i s) fun env1 => c env1 fun b env2 => bIf b
    (we env2 fun y env3 => bIf (t.slots.all (noPar env3)) (decQ dec (yd y) (wipeD env3 t.slots)) False)
    (bIf (t.slots.all (noPar env2)) (decQ dec sk (wipeD env2 t.slots)) False)
theorem noPar_all {env : List SD} {vs : List Nat} (h : vs.all (noPar env) = true) : ∀ v ∈ vs, NoPar env v := fun v hv => noPar_of (List.all_eq_true.mp h v hv)
theorem lift_lc {K : PySem.W.Frag} {I S : Type} {dec : List SD → Option (I × S)} {emb : I → S → List SD} {qb : PyData → I → S → (I → S → Prop) → (PyData → I → S → Prop) → Prop} (hde : ∀ env i s, dec env = some (i, s) → env = emb i s)
    {wi : DI} {t : CT} {c : DT} {we : DE} (hq : LcHyp dec emb qb t c we) {σ : L2.St} {H : Hp} {Q : VK} (h : liftX K (dLcQ dec emb qb wi t) σ H Q) : tLc (liftI K wi) (t.g K) (liftT K c) (liftE K we) t.slots σ H Q := by
  obtain ⟨g, F, env, P, k, w, q⟩ := h
  refine ⟨g, F, env, _, k, w, fun items env1 J F1 H1 p e1 k1 ⟨G, Y, wk, hG, hY⟩ D hD => ?_⟩
  obtain ⟨np, p⟩ := bIf_and p
  obtain ⟨i0, s0, d0, p⟩ := decQ_inv p
  have kw := k1.wiped (noPar_all np)
  obtain ⟨kn, rn⟩ := kw.newCell hD (vs := []) (xs := []) .nil
  refine lc_it wk (fun j H' => ∃ env' F' acc, Ex F1 F' ∧ Ok K g F' env' (wipe σ t.slots) H' ∧ ResOk K g F' env' (wipe σ t.slots) H' (.ref D) (.cel false acc) ∧ (∀ v ∈ t.slots, NoPar env' v) ∧
      decQ dec (same i0 fun s => qLc qb i0 (items.drop j) acc s fun acc s => bIf (t.slots.all (noPar (emb i0 s))) (P (.cel false acc) (again env1 t.slots (emb i0 s))) False) env')
    ⟨_, F1, [], Ex.refl F1, kn, rn, fun v hv => noPar_wipe (noPar_all np v hv) _, by unfold decQ; rw [d0]; exact ⟨rfl, p⟩⟩ (fun i H' _ ⟨env', F', acc, e2, k2, _⟩ => hG H' (e2.trans k2.fh)) (fun j x H' H2 hi ⟨env', F', acc, e2, k2, r2, n2, w2⟩ y => ?_) fun H' ⟨env', F', acc, e2, k2, r2, n2, w2⟩ => ?_
  · obtain ⟨i, s, de, rfl, w3⟩ := decQ_inv w2
    obtain rfl := hde _ _ _ de
    rw [List.drop_eq_getElem_cons hi] at w3
    have w2 := hq _ _ _ _ _ w3
    obtain ⟨D', vsA, eD, hF, hHD, rA, h0, hpr, nw⟩ := r2
    cases eD
    have kh := k2.hide hF hHD nw
    obtain ⟨F3, e3, k3, r3⟩ := kh.yld e2 (hY j H' x H2 items[j] (e2.trans k2.fh) (by simp [hi]) y)
    refine CT.ok k3 n2 r3 w2 fun env4 σ4 p4 k4 ⟨us, hσ⟩ => ?_
    have hw : wipe σ4 t.slots = wipe σ t.slots := by rw [hσ, wipe_all (fun i hi => hi), wipe_wipe]
    refine ⟨hw, _, F3, env4, _, k4, p4, fun b env5 F5 H5 p5 e5 k5 => ?_⟩
    cases b with
    | false =>
      refine iteF ?_
      have p5 := bIf_and p5
      obtain ⟨k6, z1, z2, z3⟩ := k5.bare hpr
      have k7 := k6.wiped (noPar_all p5.1)
      rw [hw] at k7
      refine ⟨_, F5, acc, (e2.trans e3).trans e5, k7, ?_, fun v hv => noPar_wipe (noPar_all p5.1 v hv) _, p5.2⟩
      refine ⟨D, vsA, rfl, z1, z2, rA.mono (e3.trans e5), h0, hpr, fun j p ys ej ez => ?_⟩
      rw [← hw] at ez
      exact wiped_cell z3 ej ez
    | true =>
      refine iteT ⟨_, F5, env5, _, k5, p5, fun d env6 v F6 H6 p6 e6 k6 r6 => ?_⟩
      obtain ⟨np6, p6⟩ := bIf_and p6
      obtain ⟨i6, s6, d6, hi6, p6⟩ := decQ_inv p6
      obtain ⟨k7, z1, z2, z3⟩ := k6.bare hpr
      refine ⟨vsA, z2, by rw [rA.length]; exact Evl.sz_lt p6.1, ?_⟩
      have k8 := k7.wiped (noPar_all np6)
      have z4 : ∀ (j : Nat) (p : Bool) (ys : List PyData), (wipeD env6 t.slots)[j]? = some (.cel p ys) → (wipe σ4 t.slots)[j]? ≠ some (some (.ref D)) := fun j p ys ej ez => wiped_cell z3 ej ez
      have k9 := k8.writeP (o := .lst (vsA ++ [v])) z1 h0 hpr z4
      rw [hw] at k9 z4
      exact ⟨_, F6, acc ++ [d], ((e2.trans e3).trans e5).trans e6, k9, ⟨D, vsA ++ [v], rfl, z1, upd_same, (rA.mono ((e3.trans e5).trans e6)).append (.one r6), h0, hpr, z4⟩, fun v hv => noPar_wipe (noPar_all np6 v hv) _, by unfold decQ; rw [d6]; exact ⟨hi6, p6.2⟩⟩
  · obtain ⟨i, s, de, rfl, w3⟩ := decQ_inv w2
    obtain rfl := hde _ _ _ de
    rw [List.drop_length] at w3
    have w2 := bIf_and w3
    have k3 := k2.unwiped
    have k4 := Ok.again k1 e2 k3 (noPar_all w2.1)
    obtain ⟨D', vsA, eD, hF, hHD, rA, h0, hpr, nw⟩ := r2
    cases eD
    refine q _ _ _ F' H' w2.2 (e1.trans e2) k4 ⟨D, vsA, rfl, hF, hHD, rA, h0, hpr, fun j p ys ej ez => ?_⟩
    have ej' := again_cell ej
    obtain ⟨a, _, b1, _⟩ := k3.cel j p ys ej'
    obtain ⟨a2, _, b2, _⟩ := k2.cel j p ys ej'
    have b3 := wipe_some b2
    rw [ez] at b1
    cases b1
    rw [ez] at b3
    cases b3.1
    exact nw j p ys ej' b2
where
  wiped_cell {env : List SD} {σ : L2.St} {D : Addr} {vs : List Nat} (z : ∀ (j : Nat) (p : Bool) (ys : List PyData), env[j]? = some (.cel p ys) → σ[j]? ≠ some (some (.ref D))) {j : Nat} {p : Bool} {ys : List PyData} (e : (wipeD env vs)[j]? = some (.cel p ys)) (e2 : (wipe σ vs)[j]? = some (some (.ref D))) : False := by
    have h1 := (wipe_some e2).1
    have : ∀ vs : List Nat, (wipeD env vs)[j]? = some (.cel p ys) → env[j]? = some (.cel p ys) := fun vs => by
      induction vs with
      | nil => exact id
      | cons v vs ih =>
        intro h
        rcases get_set h with ⟨_, q⟩ | ⟨_, q⟩
        · cases q
        · exact ih q
    exact z j p ys (this vs e) h1
  again_cell {env1 : List SD} {vs : List Nat} {env2 : List SD} {j : Nat} {p : Bool} {ys : List PyData} (e : (again env1 vs env2)[j]? = some (.cel p ys)) : env2[j]? = some (.cel p ys) := by
    induction vs generalizing env2 with
    | nil => exact e
    | cons v vs ih =>
      unfold again at e
      split at e
      · have := ih e
        rcases get_set this with ⟨_, q⟩ | ⟨_, q⟩
        · cases q
        · exact q
      · exact ih e
section
variable {X : Cx} {elt tg iter : Expr} {ifs : List Expr} {scope : Scope} {own : List (Str × Nat)} {pos : Pos} {wi : DI} {t : CT} {c : DT} {we : DE} {m : Nat} {I S : Type} {dec : List SD → Option (I × S)} {emb : I → S → List SD} {qb : PyData → I → S → (I → S → Prop) → (PyData → I → S → Prop) → Prop}
def dYes (env : List SD) (P : Bool → List SD → Prop) : Prop := P true env
theorem tyes : PTs X [] (liftT X.K dYes) := ⟨fun pins s σ H Q I ⟨g, F, env, P, k, w, q⟩ => pts_nil.run pins s σ H Q I (q true env F H w (Ex.refl F) k)⟩
theorem tif1 {e : Expr} (h : PT X e (liftT X.K c)) : PTs X [e] (liftT X.K c) := pts_one h
/-- [elt for tg in iter if ..] -/
theorem dlc (own : List (Str × Nat)) (t : CT) (hde : ∀ env i s, dec env = some (i, s) → env = emb i s) (hc : X.calm = true) (hN : X.N.Nodup) (hi : PI X tg iter (liftI X.K wi)) (ok : BlkOk X.N X.env.scope scope own)
    (hg : ∀ (s : Shared) (H : Hp) (C : Addr) (cl : List (Str × Addr)) (fp : List Addr), PG (X.blk s H scope (compEnvC scope cl C X.env) fp) tg (t.g X.K)) (ht : ∀ (s : Shared) (H : Hp) (C : Addr) (cl : List (Str × Addr)) (fp : List Addr), PTs (X.blk s H scope (compEnvC scope cl C X.env) fp) ifs (liftT X.K c))
    (he : ∀ (s : Shared) (H : Hp) (C : Addr) (cl : List (Str × Addr)) (fp : List Addr), PE (X.blk s H scope (compEnvC scope cl C X.env) fp) elt (liftE X.K we)) (hq : LcHyp dec emb qb t c we) (hsl : t.slots = own.map (·.2) := by rfl) (hs : ∀ x, foldedSetIterable iter X.env x = pure x := by intro _; rfl) :
    PE X (.ListComp elt [⟨tg, iter, ifs, 0⟩] scope pos) (liftX X.K (dLcQ dec emb qb wi t)) := PE.of (pe_lc hc hN hi ok hg ht he hs) fun σ H Q h => by
  have h2 := lift_lc hde hq h
  rw [hsl] at h2
  exact h2
/-- name = [elt for tg in iter if ..] -/
theorem ssetLc (i : Nat) (own : List (Str × Nat)) (t : CT) (hde : ∀ env i s, dec env = some (i, s) → env = emb i s) {y : Str} {py spos : Pos} (hc : X.calm = true) (hN : X.N.Nodup) (hi : PI X tg iter (liftI X.K wi)) (ok : BlkOk X.N X.env.scope scope own)
    (hg : ∀ (s : Shared) (H : Hp) (C : Addr) (cl : List (Str × Addr)) (fp : List Addr), PG (X.blk s H scope (compEnvC scope cl C X.env) fp) tg (t.g X.K)) (ht : ∀ (s : Shared) (H : Hp) (C : Addr) (cl : List (Str × Addr)) (fp : List Addr), PTs (X.blk s H scope (compEnvC scope cl C X.env) fp) ifs (liftT X.K c))
    (he : ∀ (s : Shared) (H : Hp) (C : Addr) (cl : List (Str × Addr)) (fp : List Addr), PE (X.blk s H scope (compEnvC scope cl C X.env) fp) elt (liftE X.K we)) (hq : LcHyp dec emb qb t c we) (hsw : swapsWith (.ListComp elt [⟨tg, iter, ifs, 0⟩] scope pos) (some (.Name y py)) spos.line X.env = pure true)
    (hsl : t.slots = own.map (·.2) := by rfl) (hy : X.N[i]? = some y := by rfl) (hyl : X.env.scope.names.lookup y = some .local := by rfl) (hs : ∀ x, foldedSetIterable iter X.env x = pure x := by intro _; rfl) :
    PS X (.Assign [.Name y py] (.ListComp elt [⟨tg, iter, ifs, 0⟩] scope pos) spos) (liftS X.K m (dSet i (dLcQ dec emb qb wi t))) := PS.of (ps_setLc hc hN hy hyl hsw hi ok hg ht he hs) fun D σ H ⟨g, F, env, P, k, w, q⟩ => by
  have h2 : liftX X.K (dLcQ dec emb qb wi t) σ H fun v H1 => D.nx (σ.set i (some v)) H1 := ⟨g, F, env, _, k, w, fun r env1 v F1 H1 p e1 k1 r1 => q.nx _ _ F1 H1 (bIf_and p).2 e1 (k1.setR (bIf_and p).1 (res_own r1) own_ne)⟩
  have h3 := lift_lc hde hq h2
  rw [hsl] at h3
  exact h3
end
end DL

/-! The data layer, part 7: a def by its body; the law's end. -/
namespace DL
open PySem PySem.Spec PyProof.Rows L2
open Evl (Ex)

section
variable {K : PySem.W.Frag} {F H : Hp} {vs : List V} {as : List SD}
/-- where the cells handed in stand -/
def cellsAt (vs : List V) (as : List SD) (i : Nat) : Option Addr := match as[i]?, vs[i]? with
  | some (.cel _ _), some (.ref a) => some a
  | _, _ => none
theorem cellsAt_of {i : Nat} {p : Bool} {xs : List PyData} {a : Addr} (h1 : as[i]? = some (.cel p xs)) (h2 : vs[i]? = some (.ref a)) : cellsAt vs as i = some a := by
  unfold cellsAt
  rw [h1, h2]
theorem cellsAt_inv {i : Nat} {a : Addr} (h : cellsAt vs as i = some a) : ∃ p xs, as[i]? = some (.cel p xs) ∧ vs[i]? = some (.ref a) := by
  unfold cellsAt at h
  split at h
  · rename_i p xs b h1 h2
    cases h
    exact ⟨p, xs, h1, h2⟩
  · cases h
def entryG (F H : Hp) (vs : List V) (as : List SD) : Gx := ⟨F, H, cellsAt vs as, fun _ => none⟩
theorem start_get {N : List Str} {i : Nat} {v : V} (h : vs[i]? = some v) : (start N vs)[i]? = some (some v) := by
  unfold L2.start
  have hi : i < vs.length := (List.getElem?_eq_some_iff.mp h).1
  rw [List.getElem?_append_left (by simpa using hi), List.getElem?_map, h]
  rfl
theorem args_get {m i : Nat} {r : SD} (h : (as ++ List.replicate m SD.un)[i]? = some r) (hr : r ≠ .un) : as[i]? = some r := by
  by_cases hi : i < as.length
  · rwa [List.getElem?_append_left hi] at h
  · rw [List.getElem?_append_right (by omega), List.getElem?_replicate] at h
    split at h
    · cases h
      exact absurd rfl hr
    · cases h
theorem entry_ok {N ps : List Str} (ha : ArgsOk K F H vs as) (hl : as.length = ps.length) (hN : ps.length ≤ N.length) : Ok K (entryG F H vs as) F (as ++ List.replicate (N.length - ps.length) .un) (start N vs) H where
  len := by
    unfold L2.start
    have := ha.len
    simp
    omega
  fh := ha.fh
  dat := fun i d e => by
    obtain ⟨v, h1, h2⟩ := ha.dat i d (args_get e (fun z => by cases z))
    exact ⟨v, start_get h1, h2⟩
  cel := fun i p xs e => by
    have e := args_get e (fun z => by cases z)
    obtain ⟨rfl, a, us, h1, h2, h3, h4⟩ := ha.cel i p xs e
    exact ⟨a, us, start_get h1, h2, h3, h4, fun _ => cellsAt_of e h1, fun z => by cases z⟩
  sep := fun i j p q xs ys a e1 e2 h1 h2 => by
    have e1 := args_get e1 (fun z => by cases z)
    have e2 := args_get e2 (fun z => by cases z)
    obtain ⟨_, b, _, b1, _⟩ := ha.cel i p xs e1
    obtain ⟨_, c, _, c1, _⟩ := ha.cel j q ys e2
    rw [start_get b1] at h1
    rw [start_get c1] at h2
    cases h1
    cases h2
    exact ha.sep i j p q xs ys _ e1 e2 b1 c1
  pin := fun i a e => by
    obtain ⟨p, xs, h1, h2⟩ := cellsAt_inv e
    obtain ⟨rfl, _⟩ := ha.cel i p xs h1
    refine ⟨xs, ?_⟩
    rw [List.getElem?_append_left (List.getElem?_eq_some_iff.mp h1).1]
    exact h1
  frame := fun a o e _ => e
  newF := fun a o e => .inl e
  oldF := Ex.refl F
  prot := fun a o e => by cases e
theorem post_of {env : List SD} {σ : L2.St} {F' H' : Hp} {v : V} {r : SD} {n : Nat} (k : Ok K (entryG F H vs as) F' env σ H') (hn : ∀ (i : Nat) (p : Bool) (xs : List PyData), as[i]? = some (.cel p xs) → i < n) (hr : ResOk K (entryG F H vs as) F' env σ H' v r) : PostOk K F H vs as F' H' (env.take n) v r where
  ex := k.oldF
  fh := k.fh
  newF := k.newF
  frame := fun a o e n => k.frame a o e fun i z => by
    obtain ⟨p, xs, h1, h2⟩ := cellsAt_inv z
    exact n i p xs h1 h2
  cel := fun i p xs a h1 h2 => by
    have e : (entryG F H vs as).A0 i = some a := cellsAt_of h1 h2
    obtain ⟨ys, h3⟩ := k.pin i a e
    obtain ⟨b, us, _, c2, c3, c4, c5, _⟩ := k.cel i true ys h3
    have c5 := c5 rfl
    rw [e] at c5
    cases c5
    refine ⟨ys, us, ?_, c2, c3, c4⟩
    rw [List.getElem?_take_of_lt (hn _ _ _ h1)]
    exact h3
  res := by
    cases r with
    | un => exact hr
    | dat d => exact hr
    | cel b xs =>
      obtain ⟨a, us, h1, h2, h3, h4, h5, _⟩ := hr
      exact ⟨a, us, h1, h2, h3, h4, h5⟩
end

section
variable {P : Program} {w : World} {K : PySem.W.Frag} {mg : Str → Option Value} {base : Heap}
/-- the ends of a def's body -/
def defEnds (m : Nat) (Q : SD → List SD → Prop) : DEnds := { nx := fun env => Q (.dat .none) (env.take m), rt := Q }
/-- cells stand ahead of place m alone -/
def CelsIn (m : Nat) (S : DSp) : Prop := ∀ as Q, S as Q → ∀ (i : Nat) (p : Bool) (xs : List PyData), as[i]? = some (.cel p xs) → i < m
/-- a def of the text, by its body read as data -/
theorem dfn (m : Nat) {x qual : Str} {st : Stmt} {f : Addr} {fd : FuncData} {N ps : List Str} {k : Nat} {S : DSp} (Fn : Fun K x qual st f fd) (sc : FnScope N ps (defScope st)) (len : ∀ as Q, S as Q → as.length = ps.length) (cels : CelsIn m S)
    (hbody : ∀ (cdv : Value) (A : Around) (outer : List Env) (s : Shared) (H : Hp), Room k (A.deeper (envOfC qual (defScope st) s.heap.objs.size f cdv)) → (A.deeper (envOfC qual (defScope st) s.heap.objs.size f cdv)).guards = some [] →
      ∃ t : DS, PSs (cxOf CX0 P w K mg base N qual (defScope st) f cdv A outer s H E0).nox (defBody st) (liftS K m t) ∧
        ∀ as Q, S as Q → t (defEnds m Q) (as ++ List.replicate (N.length - ps.length) .un)) : FnG P w K mg base (k + 1) f fd ps S := by
  obtain ⟨oc, od, kV, doc, pm, an, cdv, ct, osl, rfl, lk, hcd⟩ := Fn.ex
  refine ⟨len, fun A outer s H args us vs Q hr hg e0 hb rv ⟨F0, as, PP, ha, hS, hQ⟩ => ?_⟩
  have hl : vs.length = ps.length := ha.len.symm.trans (len as PP hS)
  have hpl : ps.length ≤ N.length := by
    have := congrArg List.length sc.pre
    rw [List.length_take] at this
    omega
  have KX : K.In s.heap := e0.mod.kin.keeps fun b o e => (e0.bs b o e).1
  refine codeAny_call_function hr.depth (KX _ _ lk) rfl sc.co sc.gen rfl (PySem.W.codeRec_of KX hcd) (hb _ _ _ _ (wpAny_newFunctionEnv_cells sc.kind (fun ⟨n, v⟩ hy => ?_) fun env he s1 x => ?_))
  · rcases sc.par n (List.of_mem_zip hy).1 with q | q
    · exact .inl q
    · exact .inr ⟨q, PySem.W.cellsFrom_some _ _ _ (.inl q)⟩
  · subst he
    obtain ⟨t, ht, hq⟩ := hbody cdv A outer s H (hr.deeper _) hg
    have I : Inv (cxOf CX0 P w K mg base N qual (defScope st) f cdv A outer s H E0) [] (start N vs) H s1 := inv_start sc hr.hd e0 hl rv x
    refine ⟨(e0.mod.nolimit.keeps fun b o e => (e0.bs b o e).1).keeps x.toInCall.keep, codeAny_func (wpAny_mono (ht.nox.run [] s1 (start N vs) H { nx := fun _ H' => Q .non H', rt := Q } I ?_) (fun fl s' hs => ?_) fun e s' hs => hs)⟩
    · have al : as.length = ps.length := len as PP hS
      refine ⟨entryG F0 H vs as, F0, _, _, entry_ok ha al hpl, hq as PP hS, ?_⟩
      exact ⟨fun env' σ' F' H' p _ k' => hQ _ _ _ _ _ p (post_of k' (cels _ _ hS) .non), fun _ _ _ _ p => p.elim, fun _ _ _ _ p => p.elim, fun r env' v σ' F' H' p _ k' r' => hQ _ _ _ _ _ p (post_of k' (cels _ _ hS) r')⟩
    · have fin : ∀ {σ' : L2.St} {H' : Hp} {v : V} {u : Value}, Inv (cxOf CX0 P w K mg base N qual (defScope st) f cdv A outer s H E0) [] σ' H' s' → RelV v u → Q v H' → CE outer P w H s Q u s' :=
        fun {σ' H' v u} J r q => ⟨v, H', J.os, J.bare, J.base, J.hok, r, q⟩
      match fl, hs with
      | .ret u, ⟨v, σ', H', J, r, q⟩ => exact fin J r q
      | .next, ⟨σ', H', J, q⟩ => exact fin (v := V.non) (u := Value.none) J rfl q
      | .brk, ⟨_, _, _, q⟩ => exact q.elim
      | .cont, ⟨_, _, _, q⟩ => exact q.elim
/-- what is asked of a law's def: of a list of the script's numbers it tells True -/
def lawS (n : Nat) : DSp := fun as Q => match as with
  | [.dat (.list ds)] => (∃ ns : List Int, ds = ns.map .int ∧ ns.length ≤ n) ∧ ∀ as', Q (.dat (.bool true)) as'
  | _ => False
theorem drs_ints {F : Hp} : ∀ ns : List Int, DRs K F (ns.map V.int) (ns.map PyData.int)
  | [] => .nil
  | n :: ns => .cons (.int n) (drs_ints ns)
theorem law_data {mb : Str → Option Value} {k n : Nat} {fa a : Addr} {fd : FuncData} {x : Str} {s₁ : Shared} {vs : List Value} {ns : List Int}
    (KX : K.In s₁.heap) (hns : s₁.heap.Ns mainGlobals mg) (hb : s₁.heap.Ns builtinsNs mb) (hbb : ∀ x : Str, x ≠ "__name__" → mb x = bootBuiltins x) (hlim : s₁.heap.NoLimit) (hgn : s₁.gens = #[])
    (ha : s₁.heap.get? a = some { cls := .type "list", data := .seq vs.toArray }) (hi : IntsAre vs ns) (hn : ns.length ≤ n) (hz : n ≤ sizeLine) (hr : Room k callerA)
    (Fn : ∀ base : Heap, K.In base → base.Ns mainGlobals mg → FnG P w K mg base k fa fd [x] (lawS n)) (hbind : ∀ (s : Shared) (u : Value), BindsTo s fd ⟨[u], []⟩ [(x, u)]) :
    codeAny (model P w) callerA (.call (.ref fa) ⟨[.ref a], []⟩) (fun r s' => r = .ok (.ret (.bool true)) ∧ OldK s₁.heap s'.heap ∧ s'.os = s₁.os ∧ AllBare s'.gens) s₁ := by
  have rv := vals_ints hi
  have lenV := hi.length
  have hl : ns.length ≤ sizeLine := Nat.le_trans hn hz
  have core : ∀ H : Hp, Only H → RdL K H a (ns.map V.int) → HOk P w H s₁.heap → (∀ b, H b ≠ none → b = a) → (H a ≠ none → K.lookup a = none) →
      codeAny (model P w) callerA (.call (.ref fa) ⟨[.ref a], []⟩) (fun r s' => r = .ok (.ret (.bool true)) ∧ OldK s₁.heap s'.heap ∧ s'.os = s₁.os ∧ AllBare s'.gens) s₁ := by
    intro H hO hS hok hA hK
    have isA : ∀ {b : Addr} {u : HO}, H b = some u → b = a := fun {b u} q => hA b (by rw [q]; simp)
    have noA : ∀ {b : Addr} {o : Obj} {es : Array DictEntry} {ep : Nat}, s₁.heap.get? b = some o → o.data = .dict es ep → H b = none := fun {b o es ep} e d => by
      cases q : H b with
      | none => rfl
      | some u =>
        cases isA q
        rw [ha] at e; cases e
        cases (show Data.seq vs.toArray _ = Data.dict es ep from d)
    have nsK : ∀ {b : Addr} {m : Str → Option Value}, s₁.heap.Ns b m → (hidT s₁.heap H).Ns b m := fun {b m} ⟨o, es, ep, e, d, r⟩ => ⟨o, es, ep, hidT_get e (noA e d), d, r⟩
    have hKb : K.In (hidT s₁.heap H) := fun b o e => hidT_get (KX b o e) (by
      cases q : H b with
      | none => rfl
      | some u =>
        cases isA q
        rw [hK (by rw [q]; simp)] at e; cases e)
    have hM : Mod K mg (hidT s₁.heap H) := ⟨hKb, nsK hns, ⟨mb, nsK hb, hbb⟩, let ⟨mc, h1, h2⟩ := hlim; ⟨mc, nsK h1, h2⟩⟩
    have e0 : Env0 P w K mg (hidT s₁.heap H) callerA [] s₁ H := ⟨rfl, hM, fun b o e => of_hidT e, Nat.le_of_eq (hidT_size _ _), trivial, fun b hb => absurd (show b ∈ ([] : List Addr) from hb) (by simp), hok, .of_eq hgn⟩
    have goal : spD K (lawS n) [.ref a] H (fun v _ => v = .bl true) := by
      refine ⟨H, [.dat (.list (ns.map .int))], fun r _ => r = .dat (.bool true), args_dat (Ex.refl H) (ds := [.list (ns.map .int)]) (.one (.lst hS (drs_ints ns))), ⟨⟨ns, rfl, hn⟩, fun _ => rfl⟩, fun r as' v F' H' p po => ?_⟩
      subst p
      exact DR.inv_bool po.res
    refine codeAny_mono ((Fn _ hKb (nsK hns)).go callerA [] s₁ H ⟨[.ref a], []⟩ [.ref a] [.ref a] _ hr rfl e0 (hbind s₁ (.ref a)) (.cons rfl .nil) goal) fun r s' h => ?_
    match r, h with
    | .error e, h =>
      exact h.elim
    | .ok .next, h => exact h.elim
    | .ok .brk, h => exact h.elim
    | .ok .cont, h => exact h.elim
    | .ok (.ret u), ⟨v, H', os, bare, un, hok', r', q⟩ =>
      have q' : v = .bl true := q
      subst q'
      obtain rfl : u = Value.bool true := r'
      refine ⟨rfl, OldK.of_keep fun b o e => ?_, os, bare⟩
      cases q : H b with
      | none => exact un.keep b o e q (by intro z; exact absurd (show b ∈ ([] : List Addr) from z) (by simp)) (by simp)
      | some u =>
        rcases hO b with z | ⟨ob, xs, z⟩
        · rw [q] at z; cases z
        · have z2 := un.frzs b ob _ z
          obtain ⟨e1, _⟩ := hok b _ z
          obtain ⟨e2, _⟩ := hok' b _ z2
          rw [e] at e1; cases e1
          exact e2
  cases hk : K.lookup a with
  | some o =>
    have e := KX a o hk
    rw [ha] at e
    cases e
    exact core (fun _ => none) (fun _ => .inl rfl) (.inr ⟨vs, 0, hk, rv, by rw [lenV]; exact hl⟩) (fun b u z => by cases (show (none : Option HO) = some u from z)) (fun b z => absurd rfl z) fun z => absurd rfl z
  | none =>
    refine core (fun b => if b = a then some (.frz { cls := .type "list", data := .seq vs.toArray } (.lst (ns.map V.int))) else none) (fun b => ?_) (.inl (.inr ⟨{ cls := .type "list", data := .seq vs.toArray }, if_pos rfl⟩)) (fun b u z => ?_) (fun b z => ?_) fun _ => hk
    · by_cases hb : b = a
      · exact .inr ⟨_, _, if_pos hb⟩
      · exact .inl (if_neg hb)
    · by_cases hb : b = a
      · cases (if_pos hb).symm.trans z
        subst hb
        exact ⟨ha, by rw [List.length_map]; exact hl, vs, _, rv, ha⟩
      · cases (if_neg hb).symm.trans z
    · by_cases hb : b = a
      · exact hb
      · exact absurd (if_neg hb) z
end
/-- the goal that the head leaves, from the law's def read as data -/
theorem walk_data {l : PySem.W.OpenLaw} {n k : Nat} {q : Program} {loose : List Str} {XP : (Str → Option Value) → Heap → Prop} {YP : World → Heap → Prop} {d : DefRec} {K : Params → PySem.W.Frag} {x : Str}
    (hn : l.most = some n) (hn2 : n ≤ sizeLine) (hdf : d.params.defaults = []) (hr : Room k callerA)
    (hY : ∀ (w : World) (h : Heap), YP w h → (K w.params).In h)
    (Fn : ∀ (w : World) (mg : Str → Option Value) (fa : Addr) (h : Heap), (K w.params).In h → h.Ns mainGlobals mg → mg d.name = some (.ref fa) →
      ∃ fd : FuncData, (∀ (s : Shared) (u : Value), BindsTo s fd ⟨[u], []⟩ [(x, u)]) ∧
        ∀ base : Heap, (K w.params).In base → base.Ns mainGlobals mg → FnG l.prog w (K w.params) mg base k fa fd [x] (lawS n)) :
    PySem.W.WalkO q loose XP YP l.row.toRowW d [] (fun f vs => PySem.call f vs) := by
  refine Att.attach_call hn hdf fun w s₀ s₁ mg mb fa o pm cd doc a vs ns G Y ho hd hcd hmg hobj hints hlen hg => ?_
  have KX := hY w _ Y
  obtain ⟨fd, hb, hF⟩ := Fn w mg fa _ KX G.T.g hmg
  exact law_data KX G.T.g G.T.b G.T.builtins G.T.nolimit hg hobj hints hlen hn2 hr hF hb
end DL

/-! The data layer, part 8: names of the top; the end over a head by facts. -/
namespace DL
open PySem PySem.Spec PyProof.Rows L2
open Evl (Ex)

/-- a def of the top that keeps its promise -/
structure Dn (P : Program) (w : World) (K : PySem.W.Frag) (mg : Str → Option Value) (base : Heap) (x : Str) (k : Nat) (ps : List Str) (S : DSp) : Prop where
  ex : ∃ fd, FnG P w K mg base k (He.ga K x) fd ps S ∧ Binds K fd ps []
  glo : mg x = some (.ref (He.ga K x))
  kp : PySem.W.keepIn K (.ref (He.ga K x)) = true
/-- what the head says of the top -/
structure Top (fa : List He.Fa) (fn : List He.FnD) (K : PySem.W.Frag) (mg : Str → Option Value) : Prop where
  says : He.SaysE fa fn K
  ns : ∃ h, K.In h ∧ h.Ns mainGlobals mg
section
variable {fa : List He.Fa} {fn : List He.FnD} {K : PySem.W.Frag} {mg : Str → Option Value}
theorem Top.glo (T : Top fa fn K mg) (x : Str) (i : Nat) (h : fa[i]? = some (.glo x) := by rfl) : mg x = some (.ref (He.ga K x)) := by
  obtain ⟨hp, h1, h2⟩ := T.ns
  exact He.glo_ok h1 h2 (T.says.fact i h)
theorem Top.free (T : Top fa fn K mg) (x : Str) (i : Nat) (h : fa[i]? = some (.free x) := by rfl) : mg x = none := by
  obtain ⟨hp, h1, h2⟩ := T.ns
  exact He.free_ok h1 h2 (T.says.fact i h)
theorem Top.int (T : Top fa fn K mg) (x : Str) (n : Int) (i : Nat) (h : fa[i]? = some (.int x n) := by rfl) : ∃ t, mg x = some (.int n t) := by
  obtain ⟨hp, h1, h2⟩ := T.ns
  exact He.int_ok h1 h2 (T.says.fact i h)
theorem Top.keep (T : Top fa fn K mg) (x : Str) (i : Nat) (h : fa[i]? = some (.keep x) := by rfl) : PySem.W.keepIn K (.ref (He.ga K x)) = true := He.keep_ok (T.says.fact i h)
theorem Top.fun_ (T : Top fa fn K mg) (x : Str) (st : Stmt) (i j : Nat) (h : fn[i]? = some ⟨(x, none), x, x, defArgs st, defBody st, defScope st⟩ := by rfl) (hk : fa[j]? = some (.keep x) := by rfl) :
    ∃ kV doc pm an cdv ct, Fun K x x st (He.ga K x) (PySem.W.fnOf x x (defArgs st) (defBody st) (defScope st) .none kV doc pm an cdv ct) := by
  obtain ⟨oc, od, osl, kV, doc, pm, an, cdv, ct, h1, h2⟩ := T.says.def_ i h
  exact ⟨kV, doc, pm, an, cdv, ct, fun_mk h1 h2 (T.keep x j hk)⟩
/-- a module's whole number -/
theorem dnum {X : Cx} {x : Str} {n : Int} {pos : Pos} (hm : ∃ t, X.mg x = some (.int n t)) (hg : Gl X x := by rfl) (hdb : (x == ("__debug__" : Str)) = false := by decide) : PE X (.Name x pos) (liftE X.K (dC (.int n))) := by
  obtain ⟨t, h⟩ := hm
  exact dglob (v := .int n) h ⟨t, rfl⟩ (fun _ => .int n) hg hdb
end
section
variable {X : Cx} {k : Nat} {ps : List Str} {S : DSp} {x : Str} {p pos : Pos} {e : Expr} {es : List Expr} {was : DA}
theorem dcn (D : Dn X.prog X.w X.K X.mg X.base x k ps S) (hr : Room k X.A) (hA : X.A.guards = some [])
    (ha : PA X (e :: es) (liftA X.K was)) (hg : Gl X x := by rfl) (hdb : (x == ("__debug__" : Str)) = false := by decide)
    (he : starEach (e :: es) X.env = (false, eval e X.env) :: starEach es X.env := by rfl) (hpl : (backTo pos (starEach es X.env)).any (·.1) = false := by rfl) : PE X (.Call (.Name x p) (e :: es) [] pos) (liftX X.K (dCall S was)) := by
  obtain ⟨fd, h1, h2⟩ := D.ex
  exact dcall h1 hr hA D.glo D.kp h2 ha hg hdb he hpl
theorem dcnC (i : Nat) {y : Str} {p0 : Pos} (D : Dn X.prog X.w X.K X.mg X.base x k ps S) (hr : Room k X.A) (hA : X.A.guards = some [])
    (ha : PA X es (liftA X.K was)) (hN : X.N[i]? = some y := by rfl) (hv : Vis X.env.scope y := by first | exact Or.inl rfl | exact Or.inr (Or.inl rfl) | exact Or.inr (Or.inr rfl)) (hd : (y == ("__debug__" : Str)) = false := by decide)
    (hcd : (y == ("__classdict__" : Str)) = false := by decide) (hg : Gl X x := by rfl) (hdb : (x == ("__debug__" : Str)) = false := by decide)
    (he : starEach (.Name y p0 :: es) X.env = (false, eval (.Name y p0) X.env) :: starEach es X.env := by rfl) (hpl : (backTo pos (starEach es X.env)).any (·.1) = false := by rfl) :
    PE X (.Call (.Name x p) (.Name y p0 :: es) [] pos) (liftX X.K (dCallC S i was)) := by
  obtain ⟨fd, h1, h2⟩ := D.ex
  exact dcallC i h1 hr hA D.glo D.kp h2 ha hN hv hd hcd hg hdb he hpl
end
/-- the goal that a head by facts leaves -/
theorem walk_dataE {l : PySem.W.OpenLaw} {n k : Nat} {q : Program} {loose : List Str} {XP : (Str → Option Value) → Heap → Prop} {YP : World → Heap → Prop} {d : DefRec} {x : Str}
    (hn : l.most = some n) (hn2 : n ≤ sizeLine) (hdf : d.params.defaults = []) (hr : Room k callerA)
    (Fn : ∀ (w : World) (mg : Str → Option Value) (fa : Addr) (h : Heap), YP w h → h.Ns mainGlobals mg → mg d.name = some (.ref fa) →
      ∃ (K : PySem.W.Frag) (fd : FuncData), K.In h ∧ (∀ (s : Shared) (u : Value), BindsTo s fd ⟨[u], []⟩ [(x, u)]) ∧
        ∀ base : Heap, K.In base → base.Ns mainGlobals mg → FnG l.prog w K mg base k fa fd [x] (lawS n)) :
    PySem.W.WalkO q loose XP YP l.row.toRowW d [] (fun f vs => PySem.call f vs) := by
  refine Att.attach_call hn hdf fun w s₀ s₁ mg mb fa o pm cd doc a vs ns G Y ho hd hcd hmg hobj hints hlen hg => ?_
  obtain ⟨K, fd, KX, hb, hF⟩ := Fn w mg fa _ Y G.T.g hmg
  exact law_data KX G.T.g G.T.b G.T.builtins G.T.nolimit hg hobj hints hlen hn2 hr hF hb
end DL

/-! The data layer, part 9: repr; sums. -/
namespace DL
open PySem PySem.Spec PyProof.Rows L2
open Evl (Ex)

mutual
/-- leaves that can be shown -/
def rp : PyData → Bool
  | .none => true
  | .bool _ => true
  | .int i => decide (i.natAbs < 10 ^ 250)
  | .str x => x.cps.toList.all fun c => decide (c < 16 ^ 8)
  | .list xs => rpAll xs
  | .tuple xs => rpAll xs
  | .dict _ => false
def rpAll : List PyData → Bool
  | [] => true
  | x :: xs => rp x && rpAll xs
end
theorem int_short {i : Int} (h : i.natAbs < 10 ^ 250) : (PyData.shown (.int i)).length ≤ 300 := by
  have e := int_text_length_le10 (k := 250) (by decide) h
  clear h
  show (Str.ofString (toString i)).length ≤ 300
  rw [PySem.ofString_length]
  omega
mutual
theorem rp_short : ∀ {d : PyData}, rp d = true → d.leavesShort 300 = true ∧ d.showable = true ∧ d.hasDict = false
  | .none, _ => ⟨by simp [PyData.leavesShort], by simp [PyData.showable], by simp [PyData.hasDict]⟩
  | .bool _, _ => ⟨by simp [PyData.leavesShort], by simp [PyData.showable], by simp [PyData.hasDict]⟩
  | .int i, h => by
    have h1 : i.natAbs < 10 ^ 250 := by simpa only [rp, decide_eq_true_eq] using h
    refine ⟨?_, ?_, by simp [PyData.hasDict]⟩
    · simp only [PyData.leavesShort, decide_eq_true_eq]
      exact int_short h1
    · simp only [PyData.showable, decide_eq_true_eq]
      exact Nat.lt_trans (Sz.log h1) (by decide)
  | .str x, h => by
    refine ⟨?_, by simp [PyData.showable], by simp [PyData.hasDict]⟩
    simpa only [rp, PyData.leavesShort] using h
  | .list xs, h => by
    have := rp_shortAll (by simpa only [rp] using h : rpAll xs = true)
    simpa only [PyData.leavesShort, PyData.showable, PyData.hasDict] using this
  | .tuple xs, h => by
    have := rp_shortAll (by simpa only [rp] using h : rpAll xs = true)
    simpa only [PyData.leavesShort, PyData.showable, PyData.hasDict] using this
  | .dict _, h => by simp [rp] at h
theorem rp_shortAll : ∀ {ds : List PyData}, rpAll ds = true → PyData.leavesShortAll 300 ds = true ∧ PyData.showableAll ds = true ∧ PyData.hasDictAll ds = false
  | [], _ => ⟨by simp [PyData.leavesShortAll], by simp [PyData.showableAll], by simp [PyData.hasDictAll]⟩
  | d :: ds, h => by
    simp only [rpAll, Bool.and_eq_true] at h
    obtain ⟨a1, a2, a3⟩ := rp_short h.1
    obtain ⟨b1, b2, b3⟩ := rp_shortAll h.2
    exact ⟨by simp [PyData.leavesShortAll, a1, b1], by simp [PyData.showableAll, a2, b2], by simp [PyData.hasDictAll, a3, b3]⟩
end
theorem rp_len {d : PyData} (h : rp d = true) (hb : d.bulk ≤ 50000) : d.shown.length ≤ sizeLine := by
  have h1 := PyData.shown_le_bulk 300 (by decide) d (rp_short h).1
  have h2 : (300 + 2) * d.bulk ≤ 302 * 50000 := Nat.mul_le_mul_left _ hb
  rw [sizeLine_eq]
  omega
section
variable {X : Cx} {K : PySem.W.Frag} {e : Expr} {es : List Expr} {p pos : Pos} {was : DA} {k : Nat}
def rRepr (K : PySem.W.Frag) : List V → Hp → VK → Prop := fun xs H Q => ∃ x d, xs = [x] ∧ Dp K H x d ∧ d.showable = true ∧ d.hasDict = false ∧ d.depth ≤ 40 ∧ d.shown.length ≤ sizeLine ∧ Q (.str d.shown) H
theorem call_repr (hg : X.A.guards = some []) (hu : X.A.units + 64 < cLine) : CallR X (.builtin "repr") (rRepr X.K) := by
  intro pins s σ H xs us Q I r h
  obtain ⟨x, d, rfl, dp, hs, hd, hdep, hz, q⟩ := h
  obtain ⟨u, rfl, rx⟩ := vals1 r
  have big : ∀ a, u = .ref a → wpAny (model X.prog X.w) X.A (call (.builtin "repr") [u]) (EP X pins σ Q) X.xe s := fun a ea => by
    obtain ⟨as, rd⟩ := Dp.reads I d x u dp rx
    subst ea
    exact repr_of_reads' rd hs (PyData.noDict_hsm hd) hg (by omega) (fun _ _ e => e) (fun h' t tk kk => ⟨.str d.shown, H, I.kept kk, ⟨_, rfl⟩, q⟩) hz
  cases dp with
  | non =>
    cases rx
    exact PySem.P.repr_of_none ⟨.str _, H, I.tok _, ⟨_, rfl⟩, q⟩
  | bl b =>
    cases rx
    exact PySem.P.repr_of_bool ⟨.str _, H, I.tok _, ⟨_, rfl⟩, (by cases b <;> exact q)⟩
  | int i =>
    obtain ⟨t, rfl⟩ := rx
    exact PySem.P.repr_of_int (by simpa only [PyData.showable, decide_eq_true_eq] using hs) ⟨.str _, H, I.tok _, ⟨_, rfl⟩, q⟩
  | str z =>
    obtain ⟨t, rfl⟩ := rx
    exact PySem.P.repr_of_str ⟨.str _, H, I.tok _, ⟨_, rfl⟩, q⟩ hz
  | lst _ _ => cases rx; exact big _ rfl
  | tup _ _ => cases rx; exact big _ rfl
def nRepr (xs : List PyData) (P : PyData → Prop) : Prop := match xs with
  | [d] => (rp d = true ∧ d.bulk ≤ 50000 ∧ d.depth ≤ 40) ∧ P (.str d.shown)
  | _ => False
theorem drepr (hm : X.mg "repr" = none) (hr : Room k X.A) (hA : X.A.guards = some []) (ha : PA X (e :: es) (liftA X.K was)) (hg : Gl X "repr" := by rfl)
    (he : starEach (e :: es) X.env = (false, eval e X.env) :: starEach es X.env := by rfl) (hpl : (backTo pos (starEach es X.env)).any (·.1) = false := by rfl) : PE X (.Call (.Name "repr" p) (e :: es) [] pos) (liftE X.K (dB nRepr was)) :=
  dcb (call_repr hA hr.units) (fun g F env σ H vs ds P Q k r f q => by
    unfold nRepr at f
    split at f
    · obtain ⟨v, rfl, r0⟩ := r.inv1
      obtain ⟨⟨h1, h2, h3⟩, f⟩ := f
      obtain ⟨_, s2, s3⟩ := rp_short h1
      exact ⟨v, _, rfl, DR.dp (drH k r0) s3, s2, s3, h3, rp_len h1 h2, q _ _ F H f (Ex.refl F) k (.str _)⟩
    · exact f.elim) hm (by decide +kernel) ha hg (by decide) (by decide) he hpl
/-- sum of a list, of a tuple of whole numbers -/
def rSumD (K : PySem.W.Frag) : List V → Hp → VK → Prop := fun vs H Q => ∃ (a : Addr) (ns : List Int), vs = [.ref a] ∧ (SqL K H a (ns.map V.int) ∨ SqT K H a (ns.map V.int)) ∧ Q (.int ns.sum) H
theorem call_sumD (hc : X.calm = true) : CallR X (.builtin "sum") (rSumD X.K) := by
  intro pins s σ H xs us Q I r h
  obtain ⟨a, ns, rfl, h | h, q⟩ := h
  · exact cr_sum hc pins s σ H _ us Q I r ⟨a, ns, rfl, h, q⟩
  · cases r.ref1
    obtain ⟨its, rv, ht, hz⟩ := I.tuple h
    have hi := rv.ints
    obtain ⟨xs, hx⟩ := hi.allInts.items
    have hn : numsOf its.toArray.toList = ns := by rw [show its.toArray.toList = its from rfl, hi.numsOf]
    have ht2 : s.heap.IsTuple a its.toArray := ht
    rw [hx] at ht2 hn
    rw [nums_intItems] at hn
    refine PySem.W.ktm_sumG (I.ok.hd hc) ht2 fun h' tk t' hk => ?_
    rw [preSum_eq, List.take_of_length_le (by simp), hn]
    exact ⟨.int ns.sum, H, I.kept hk, ⟨_, rfl⟩, q⟩
def nSum (xs : List PyData) (P : PyData → Prop) : Prop := match xs with
  | [.list ds] => (match intsD ds with | some ns => P (.int ns.sum) | none => False)
  | [.tuple ds] => (match intsD ds with | some ns => P (.int ns.sum) | none => False)
  | _ => False
theorem dsum (hm : X.mg "sum" = none) (hc : X.calm = true) (ha : PA X (e :: es) (liftA X.K was)) (hg : Gl X "sum" := by rfl)
    (he : starEach (e :: es) X.env = (false, eval e X.env) :: starEach es X.env := by rfl) (hpl : (backTo pos (starEach es X.env)).any (·.1) = false := by rfl) : PE X (.Call (.Name "sum" p) (e :: es) [] pos) (liftE X.K (dB nSum was)) :=
  dcb (call_sumD hc) (fun g F env σ H vs ds P Q k r f q => by
    unfold nSum at f
    split at f
    · split at f
      · rename_i ns e
        obtain ⟨v, rfl, r0⟩ := r.inv1
        obtain ⟨a, us, rfl, h1, h2⟩ := r0.inv_lst
        cases ints_rel h2 e
        exact ⟨a, ns, rfl, .inl (h1.mono k.fh).sq, q _ _ F H f (Ex.refl F) k (.int _)⟩
      · exact f.elim
    · split at f
      · rename_i ns e
        obtain ⟨v, rfl, r0⟩ := r.inv1
        obtain ⟨a, us, rfl, h1, h2⟩ := r0.inv_tup
        cases ints_rel h2 e
        exact ⟨a, ns, rfl, .inr (Evl.ex_t k.fh h1), q _ _ F H f (Ex.refl F) k (.int _)⟩
      · exact f.elim
    · exact f.elim) hm (by decide +kernel) ha hg (by decide) (by decide) he hpl
end
end DL

/-! The data layer, part 10: loops and comprehensions read as data. -/
namespace DL
open PySem PySem.Spec PyProof.Rows L2

section
variable {I S : Type}
theorem qFor_go {b : PyData → I → S → (I → S → Prop) → (I → S → Prop) → Prop} {items : List PyData} {i : I} {K : S → Prop} (Inv : Nat → S → Prop)
    (step : ∀ (k : Nat) (d : PyData) (s : S) (nx : I → S → Prop), items[k]? = some d → Inv k s → (∀ s', Inv (k + 1) s' → nx i s') → b d i s nx (same i K))
    (fin : ∀ s, Inv items.length s → K s) : ∀ (m k : Nat) (s : S), k + m = items.length → Inv k s → qFor b i (items.drop k) s K
  | 0, k, s, hm, h => by
    have e : k = items.length := by omega
    subst e
    rw [List.drop_length]
    exact fin s h
  | m + 1, k, s, hm, h => by
    have hk : k < items.length := by omega
    rw [List.drop_eq_getElem_cons hk]
    exact step k _ s _ (by simp [hk]) h fun s' h' => ⟨rfl, qFor_go Inv step fin m (k + 1) s' (by omega) h'⟩
/-- a for, by what holds ahead of each turn -/
theorem qFor_ind {b : PyData → I → S → (I → S → Prop) → (I → S → Prop) → Prop} {items : List PyData} {i : I} {s : S} {K : S → Prop} (Inv : Nat → S → Prop) (h0 : Inv 0 s)
    (step : ∀ (k : Nat) (d : PyData) (s : S) (nx : I → S → Prop), items[k]? = some d → Inv k s → (∀ s', Inv (k + 1) s' → nx i s') → b d i s nx (same i K))
    (fin : ∀ s, Inv items.length s → K s) : qFor b i items s K := qFor_go Inv step fin items.length 0 s (by omega) h0
/-- a for over a range -/
theorem qFor_range {b : PyData → I → S → (I → S → Prop) → (I → S → Prop) → Prop} {lo : Int} {n : Nat} {i : I} {s : S} {K : S → Prop} (Inv : Nat → S → Prop) (h0 : Inv 0 s)
    (step : ∀ (k : Nat) (s : S) (nx : I → S → Prop), k < n → Inv k s → (∀ s', Inv (k + 1) s' → nx i s') → b (.int (lo + k)) i s nx (same i K))
    (fin : ∀ s, Inv n s → K s) : qFor b i (rangeD lo n) s K := by
  have hl : (rangeD lo n).length = n := by simp [rangeD]
  refine qFor_ind Inv h0 (fun k d s nx hd hi hn => ?_) fun s h => fin s (by rwa [hl] at h)
  unfold rangeD at hd
  rw [List.getElem?_map] at hd
  by_cases hk : k < n
  · rw [List.getElem?_range hk] at hd
    cases hd
    exact step k s nx hk hi hn
  · rw [List.getElem?_eq_none (by simp; omega)] at hd
    cases hd
/-- a for whose turns carry nothing -/
theorem qFor_all {b : PyData → I → S → (I → S → Prop) → (I → S → Prop) → Prop} {items : List PyData} {i : I} {s : S} {K : S → Prop} (Inv : S → Prop) (h0 : Inv s)
    (step : ∀ (d : PyData) (s : S) (nx : I → S → Prop), d ∈ items → Inv s → (∀ s', Inv s' → nx i s') → b d i s nx (same i K)) (fin : ∀ s, Inv s → K s) : qFor b i items s K :=
  qFor_ind (fun _ s => Inv s) h0 (fun _ d s nx hd hi hn => step d s nx (List.mem_of_getElem? hd) hi hn) fun s h => fin s h
theorem qWhile_go {b : I → S → (I → S → Prop) → (I → S → Prop) → Prop} {i : I} {K : S → Prop} (Inv : Nat → S → Prop)
    (step : ∀ (m : Nat) (s : S) (nx : I → S → Prop), Inv m s → (∀ m' s', m' < m → Inv m' s' → nx i s') → b i s nx (same i K)) : ∀ (n m : Nat) (s : S), m < n → Inv m s → qWhileN b i n s K
  | 0, _, _, h, _ => absurd h (Nat.not_lt_zero _)
  | n + 1, m, s, h, hi => step m s _ hi fun m' s' hm hi' => ⟨rfl, qWhile_go Inv step n m' s' (by omega) hi'⟩
/-- a while, by a measure that falls -/
theorem qWhile_ind {b : I → S → (I → S → Prop) → (I → S → Prop) → Prop} {i : I} {s : S} {K : S → Prop} (Inv : Nat → S → Prop) {m : Nat} (h0 : Inv m s)
    (step : ∀ (m : Nat) (s : S) (nx : I → S → Prop), Inv m s → (∀ m' s', m' < m → Inv m' s' → nx i s') → b i s nx (same i K)) : qWhile b i s K := ⟨m + 1, qWhile_go Inv step (m + 1) m s (Nat.lt_succ_self m) h0⟩
theorem qLc_go {b : PyData → I → S → (I → S → Prop) → (PyData → I → S → Prop) → Prop} {items : List PyData} {i : I} {K : List PyData → S → Prop} (Inv : Nat → List PyData → S → Prop)
    (step : ∀ (k : Nat) (d : PyData) (acc : List PyData) (s : S) (sk : I → S → Prop) (yd : PyData → I → S → Prop), items[k]? = some d → Inv k acc s → (∀ s', Inv (k + 1) acc s' → sk i s') →
      (∀ y s', acc.length < 100000 → Inv (k + 1) (acc ++ [y]) s' → yd y i s') → b d i s sk yd) (hz : ∀ k acc s, k < items.length → Inv k acc s → acc.length < 100000)
    (fin : ∀ acc s, Inv items.length acc s → K acc s) : ∀ (m k : Nat) (acc : List PyData) (s : S), k + m = items.length → Inv k acc s → qLc b i (items.drop k) acc s K
  | 0, k, acc, s, hm, h => by
    have e : k = items.length := by omega
    subst e
    rw [List.drop_length]
    exact fin acc s h
  | m + 1, k, acc, s, hm, h => by
    have hk : k < items.length := by omega
    rw [List.drop_eq_getElem_cons hk]
    exact step k _ acc s _ _ (by simp [hk]) h (fun s' h' => ⟨rfl, qLc_go Inv step hz fin m (k + 1) acc s' (by omega) h'⟩) fun y s' hl h' => ⟨rfl, hz k acc s hk h, qLc_go Inv step hz fin m (k + 1) (acc ++ [y]) s' (by omega) h'⟩
/-- a comprehension, by what holds ahead of each turn -/
theorem qLc_ind {b : PyData → I → S → (I → S → Prop) → (PyData → I → S → Prop) → Prop} {items : List PyData} {i : I} {s : S} {K : List PyData → S → Prop} (Inv : Nat → List PyData → S → Prop) (h0 : Inv 0 [] s)
    (hz : ∀ k acc s, k < items.length → Inv k acc s → acc.length < 100000)
    (step : ∀ (k : Nat) (d : PyData) (acc : List PyData) (s : S) (sk : I → S → Prop) (yd : PyData → I → S → Prop), items[k]? = some d → Inv k acc s → (∀ s', Inv (k + 1) acc s' → sk i s') →
      (∀ y s', Inv (k + 1) (acc ++ [y]) s' → yd y i s') → b d i s sk yd)
    (fin : ∀ acc s, Inv items.length acc s → K acc s) : qLc b i items [] s K :=
  qLc_go Inv (fun k d acc s sk yd hd hi h1 h2 => step k d acc s sk yd hd hi h1 fun y s' h => h2 y s' (hz k acc s (List.getElem?_eq_some_iff.mp hd).1 hi) h) hz fin items.length 0 [] s (by omega) h0
/-- each item gives one, a state is carried -/
theorem qLc_each {b : PyData → I → S → (I → S → Prop) → (PyData → I → S → Prop) → Prop} {items : List PyData} {i : I} {s : S} {K : List PyData → S → Prop} (T : PyData → Prop) (Inv : Nat → S → Prop) (h0 : Inv 0 s) (hz : items.length ≤ 100000)
    (step : ∀ (k : Nat) (d : PyData) (s : S) (sk : I → S → Prop) (yd : PyData → I → S → Prop), items[k]? = some d → Inv k s → (∀ y s', T y → Inv (k + 1) s' → yd y i s') → b d i s sk yd)
    (fin : ∀ acc s, acc.length = items.length → (∀ y ∈ acc, T y) → Inv items.length s → K acc s) : qLc b i items [] s K :=
  qLc_ind (fun k acc s => acc.length = k ∧ (∀ y ∈ acc, T y) ∧ Inv k s) ⟨rfl, by simp, h0⟩ (fun k acc s hk h => by have := h.1; omega) (fun k d acc s sk yd hd ⟨h1, h2, h3⟩ _ hy => step k d s sk yd hd h3 fun y s' ty h' => hy y s' ⟨by simp [h1], fun z hz => by
    rcases List.mem_append.mp hz with hz | hz
    · exact h2 z hz
    · rw [List.mem_singleton.mp hz]; exact ty, h'⟩) fun acc s ⟨h1, h2, h3⟩ => fin acc s h1 h2 h3
/-- [f x for x in items], nothing changed -/
theorem qLc_map {b : PyData → I → S → (I → S → Prop) → (PyData → I → S → Prop) → Prop} {items : List PyData} {i : I} {s : S} {K : List PyData → S → Prop} (f : PyData → PyData) (hz : items.length ≤ 100000)
    (step : ∀ d ∈ items, ∀ (sk : I → S → Prop) (yd : PyData → I → S → Prop), yd (f d) i s → b d i s sk yd) (fin : K (items.map f) s) : qLc b i items [] s K :=
  qLc_ind (fun k acc s' => acc = (items.take k).map f ∧ s' = s) ⟨by simp, rfl⟩ (fun k acc s' hk h => by rw [h.1]; simp; omega)
    (fun k d acc s' sk yd hd ⟨h1, h2⟩ _ hy => by
      subst h2
      refine step d (List.mem_of_getElem? hd) sk yd (hy _ _ ⟨?_, rfl⟩)
      rw [List.take_add_one, hd, h1]
      simp) fun acc s' ⟨h1, h2⟩ => by
      subst h1 h2
      rw [List.take_length]
      exact fin
/-- [.. for x in items if ..], nothing changed -/
theorem qLc_fmap {b : PyData → I → S → (I → S → Prop) → (PyData → I → S → Prop) → Prop} {items : List PyData} {i : I} {s : S} {K : List PyData → S → Prop} (f : PyData → Option PyData) (hz : items.length ≤ 100000)
    (step : ∀ d ∈ items, ∀ (sk : I → S → Prop) (yd : PyData → I → S → Prop), (∀ y, f d = some y → yd y i s) → (f d = none → sk i s) → b d i s sk yd) (fin : K (items.filterMap f) s) : qLc b i items [] s K :=
  qLc_ind (fun k acc s' => acc = (items.take k).filterMap f ∧ s' = s) ⟨by simp, rfl⟩ (fun k acc s' hk h => by
      rw [h.1]
      exact Nat.lt_of_le_of_lt (List.length_filterMap_le f _) (by simp; omega))
    (fun k d acc s' sk yd hd ⟨h1, h2⟩ hs hy => by
      subst h2
      refine step d (List.mem_of_getElem? hd) sk yd (fun y e => hy _ _ ⟨?_, rfl⟩) fun e => hs _ ⟨?_, rfl⟩
      · rw [List.take_add_one, hd, h1]
        simp [e]
      · rw [List.take_add_one, hd, h1]
        simp [e]) fun acc s' ⟨h1, h2⟩ => by
      subst h1 h2
      rw [List.take_length]
      exact fin
end
theorem ixN_in {n : Nat} {k : Int} (h0 : 0 ≤ k) (h1 : k < n) : ixN n k = some k.toNat := by
  unfold ixN
  rw [if_pos h0, if_pos h1]
theorem atI_in {xs : List PyData} {k : Int} (h0 : 0 ≤ k) (h1 : k < xs.length) : ∃ d, atI xs k = some d ∧ d ∈ xs := by
  unfold atI
  rw [ixN_in h0 h1]
  have hk : k.toNat < xs.length := by omega
  exact ⟨xs[k.toNat], by simp [hk], List.getElem_mem hk⟩
theorem at_of {xs : List PyData} {k : Int} {P : PyData → Prop} (h0 : 0 ≤ k) (h1 : k < xs.length) (h : ∀ d ∈ xs, P d) : pick xs k P := by
  obtain ⟨d, e, m⟩ := atI_in h0 h1
  unfold pick
  rw [e]
  exact h d m
theorem pick_at {xs : List PyData} {k : Nat} {P : PyData → Prop} {d : PyData} (e : xs[k]? = some d) (h : P d) : pick xs (k : Int) P := by
  unfold pick atI
  rw [ixN_in (by omega) (by have := (List.getElem?_eq_some_iff.mp e).1; omega)]
  show match xs[(k : Int).toNat]? with | some d => P d | none => False
  rw [Int.toNat_natCast, e]
  exact h
theorem pick_eq {xs : List PyData} {k : Int} {P : PyData → Prop} {d : PyData} (e : atI xs k = some d) : pick xs k P = P d := by
  unfold pick
  rw [e]
theorem range_get {lo : Int} {n i : Nat} {d : PyData} (h : (rangeD lo n)[i]? = some d) : i < n ∧ d = .int (lo + i) := by
  unfold rangeD at h
  rw [List.getElem?_map] at h
  by_cases hi : i < n
  · rw [List.getElem?_range hi] at h
    cases h
    exact ⟨hi, rfl⟩
  · rw [List.getElem?_eq_none (by simp; omega)] at h
    cases h
theorem range_len {lo : Int} {n : Nat} : (rangeD lo n).length = n := by simp [rangeD]
end DL

/-! The data layer, part 11: slices, tuple(..), list(..), int(..), enumerate. -/
namespace DL
open PySem PySem.Spec PyProof.Rows L2
open Evl (Ex)

section
variable {X : Cx} {a b e : Expr} {es : List Expr} {we wa wb : DE} {was : DA} {pos p2 p : Pos} {K : PySem.W.Frag}
/-! ### slices -/
abbrev DO := List SD → (Option Int → List SD → Prop) → Prop
def liftO (K : PySem.W.Frag) (w : DO) : TO := fun σ H Q => ∃ (g : Gx) (F : Hp) (env : List SD) (P : Option Int → List SD → Prop), Ok K g F env σ H ∧ w env P ∧
  ∀ o env' F' H', P o env' → Ex F F' → Ok K g F' env' σ H' → Q o H'
theorem PO.of {e : Option Expr} {t t' : TO} (h : PO X e t) (w : ∀ σ H Q, t' σ H Q → t σ H Q) : PO X e t' := ⟨fun pins s σ H Q I q => h.run pins s σ H Q I (w σ H Q q)⟩
def dNo (env : List SD) (P : Option Int → List SD → Prop) : Prop := P none env
def soQ (x : PyData) (K : Option Int → Prop) : Prop := match x with
  | .int i => K (some i)
  | _ => False
def dSo (w : DE) (env : List SD) (P : Option Int → List SD → Prop) : Prop := w env fun x env' => soQ x fun o => P o env'
theorem so_none : PO X none (liftO X.K dNo) := PO.of po_none fun σ H Q ⟨g, F, env, P, k, w, q⟩ => q none env F H w (Ex.refl F) k
theorem so_some (h : PE X e (liftE X.K we)) : PO X (some e) (liftO X.K (dSo we)) := PO.of (po_some h) fun σ H Q ⟨g, F, env, P, k, w, q⟩ =>
  ⟨g, F, env, _, k, w, fun d env1 v F1 H1 p e1 k1 r1 => by
    unfold soQ at p
    split at p
    · cases r1.inv_int
      exact ⟨_, rfl, q _ env1 F1 H1 p e1 k1⟩
    · exact p.elim⟩
/-- the items of ds[lo:hi] -/
def cutD (ds : List PyData) (lo hi : Option Int) : List PyData := (ds.drop (HT.sIx ds.length 0 lo)).take (HT.sIx ds.length ds.length hi - HT.sIx ds.length 0 lo)
theorem DRs.cut {H : Hp} {vs : List V} {ds : List PyData} (lo hi : Option Int) (h : DRs K H vs ds) : DRs K H (cutV vs lo hi) (cutD ds lo hi) := by
  unfold cutV cutD
  rw [h.length]
  exact (h.drop _).take _
def oSl (x : PyData) (lo hi : Option Int) (P : PyData → Prop) : Prop := match x with
  | .tuple ds => P (.tuple (cutD ds lo hi))
  | .list ds => P (.list (cutD ds lo hi))
  | .str z => z.length ≤ 100000 ∧ P (.str (cutS z lo hi))
  | _ => False
def dSl (w : DE) (l h : DO) (env : List SD) (P : PyData → List SD → Prop) : Prop := w env fun x env1 => l env1 fun lo env2 => h env2 fun hi env3 => oSl x lo hi fun d => P d env3
theorem cutV_whole {xs : List V} {lo hi : Option Int} (h : HT.sIx xs.length 0 lo = 0 ∧ HT.sIx xs.length xs.length hi = xs.length) : cutV xs lo hi = xs := by
  unfold cutV
  rw [h.1, h.2]
  simp
theorem cutD_whole {xs : List PyData} {lo hi : Option Int} (h : HT.sIx xs.length 0 lo = 0 ∧ HT.sIx xs.length xs.length hi = xs.length) : cutD xs lo hi = xs := by
  unfold cutD
  rw [h.1, h.2]
  simp
theorem dsl {l u : Option Expr} {tl tu : DO} (he : PE X e (liftE X.K we)) (hl : PO X l (liftO X.K tl)) (hu : PO X u (liftO X.K tu)) : PE X (.Subscript e (.Slice l u none p2) pos) (liftE X.K (dSl we tl tu)) :=
  PE.of (pe_slice (SlR.or sl_tupA (SlR.or sl_list sl_str)) he hl hu) fun σ H Q ⟨g, F, env, P, k, w, q⟩ =>
    ⟨g, F, env, _, k, w, fun d env1 v F1 H1 p e1 k1 r1 => ⟨g, F1, env1, _, k1, p, fun lo env2 F2 H2 p2 e2 k2 => ⟨g, F2, env2, _, k2, p2, fun hi env3 F3 H3 p3 e3 k3 => by
      have r3 := (r1.mono e2).mono e3
      have e13 := e1.trans (e2.trans e3)
      unfold oSl at p3
      split at p3
      · rename_i ds
        obtain ⟨a, us, rfl, h1, h2⟩ := r3.inv_tup
        refine .inl ⟨a, us, rfl, Evl.ex_t k3.fh h1, fun hw => ?_, fun _ x hx => ?_⟩
        · rw [h2.length] at hw
          rw [cutD_whole hw] at p3
          exact q _ env3 _ F3 H3 p3 e13 k3 r3
        · obtain ⟨e4, k4, r4⟩ := k3.newTup hx (h2.cut lo hi)
          exact q _ env3 _ _ _ p3 (e13.trans e4) k4 r4
      · rename_i ds
        obtain ⟨a, us, rfl, h1, h2⟩ := r3.inv_lst
        refine .inr (.inl ⟨a, us, rfl, (h1.mono k3.fh).sq, fun x hx => ?_⟩)
        obtain ⟨e4, k4, r4⟩ := k3.newLst hx (h2.cut lo hi)
        exact q _ env3 _ _ _ p3 (e13.trans e4) k4 r4
      · cases r3.inv_str
        exact .inr (.inr ⟨_, rfl, sz2 p3.1, q _ env3 _ F3 H3 p3.2 e13 k3 (.str _)⟩)
      · exact p3.elim⟩⟩⟩
def lstQ (x : PyData) (K : List PyData → Prop) : Prop := match x with
  | .list ds => K ds
  | _ => False
/-- a slice of a list, as a new cell -/
def dSlN (w : DE) (l h : DO) (env : List SD) (P : SD → List SD → Prop) : Prop := w env fun x env1 => l env1 fun lo env2 => h env2 fun hi env3 => lstQ x fun ds => P (.cel false (cutD ds lo hi)) env3
theorem dslN {l u : Option Expr} {tl tu : DO} (he : PE X e (liftE X.K we)) (hl : PO X l (liftO X.K tl)) (hu : PO X u (liftO X.K tu)) : PE X (.Subscript e (.Slice l u none p2) pos) (liftX X.K (dSlN we tl tu)) :=
  PE.of (pe_slice sl_list he hl hu) fun σ H Q ⟨g, F, env, P, k, w, q⟩ =>
    ⟨g, F, env, _, k, w, fun d env1 v F1 H1 p e1 k1 r1 => ⟨g, F1, env1, _, k1, p, fun lo env2 F2 H2 p2 e2 k2 => ⟨g, F2, env2, _, k2, p2, fun hi env3 F3 H3 p3 e3 k3 => by
      have r3 := (r1.mono e2).mono e3
      unfold lstQ at p3
      split at p3
      · rename_i ds
        obtain ⟨a, us, rfl, h1, h2⟩ := r3.inv_lst
        refine ⟨a, us, rfl, (h1.mono k3.fh).sq, fun x hx => ?_⟩
        obtain ⟨k4, r4⟩ := k3.newCell hx (h2.cut lo hi)
        exact q _ env3 _ _ _ p3 (e1.trans (e2.trans e3)) k4 r4
      · exact p3.elim⟩⟩⟩
/-- a slice of a name's own cell, as a new cell -/
def dSlC (i : Nat) (l h : DO) (env : List SD) (P : SD → List SD → Prop) : Prop := match env[i]? with
  | some (.cel _ _) => l env fun lo env2 => h env2 fun hi env3 => match env3[i]? with
    | some (.cel _ xs) => P (.cel false (cutD xs lo hi)) env3
    | _ => False
  | _ => False
theorem dslC (i : Nat) {x : Str} {p0 : Pos} {l u : Option Expr} {tl tu : DO} (hl : PO X l (liftO X.K tl)) (hu : PO X u (liftO X.K tu)) (hN : X.N[i]? = some x := by rfl)
    (hv : Vis X.env.scope x := by first | exact Or.inl rfl | exact Or.inr (Or.inl rfl) | exact Or.inr (Or.inr rfl)) (hd : (x == ("__debug__" : Str)) = false := by decide) (hcd : (x == ("__classdict__" : Str)) = false := by decide) :
    PE X (.Subscript (.Name x p0) (.Slice l u none p2) pos) (liftX X.K (dSlC i tl tu)) :=
  PE.of (pe_slice sl_list (pe_var hN hv hd hcd) hl hu) fun σ H Q ⟨g, F, env, P, k, w, q⟩ => by
    unfold dSlC at w
    split at w
    · rename_i p xs e
      obtain ⟨a0, vs, h1, _⟩ := k.cel i p xs e
      refine ⟨_, h1, g, F, env, _, k, w, fun lo env2 F2 H2 p2 e2 k2 => ⟨g, F2, env2, _, k2, p2, fun hi env3 F3 H3 p3 e3 k3 => ?_⟩⟩
      split at p3
      · rename_i p' ys e'
        obtain ⟨a1, ws, z1, z2, z3, z4, z5⟩ := k3.cel i _ _ e'
        rw [h1] at z1
        cases z1
        refine ⟨a0, ws, rfl, SqL.of z3, fun x hx => ?_⟩
        obtain ⟨k4, r4⟩ := k3.newCell hx (z4.cut lo hi)
        exact q _ env3 _ _ _ p3 (e2.trans e3) k4 r4
      · exact p3.elim
    · exact w.elim

/-! ### int(..), tuple(..), list(..) -/
def nInt (xs : List PyData) (P : PyData → Prop) : Prop := match xs with
  | [.int i] => P (.int i)
  | [.bool i] => P (.int (if i then 1 else 0))
  | _ => False
theorem dintOf (hm : X.mg "int" = none) (ha : PA X (e :: es) (liftA X.K was)) (hg : Gl X "int" := by rfl)
    (he : starEach (e :: es) X.env = (false, eval e X.env) :: starEach es X.env := by rfl) (hpl : (backTo pos (starEach es X.env)).any (·.1) = false := by rfl) : PE X (.Call (.Name "int" p) (e :: es) [] pos) (liftE X.K (dB nInt was)) :=
  dct call_int1 (fun g F env σ H vs ds P Q k r f q => by
    unfold nInt at f
    split at f
    · obtain ⟨v, rfl, r0⟩ := r.inv1
      cases r0.inv_int
      exact .inl ⟨_, rfl, q _ _ F H f (Ex.refl F) k (.int _)⟩
    · obtain ⟨v, rfl, r0⟩ := r.inv1
      cases r0.inv_bool
      exact .inr ⟨_, rfl, q _ _ F H f (Ex.refl F) k (.int _)⟩
    · exact f.elim) hm (by decide +kernel) ha hg (by decide) (by decide) he hpl
def nTuple (xs : List PyData) (P : PyData → Prop) : Prop := match xs with
  | [.list ds] => P (.tuple ds)
  | [.tuple ds] => P (.tuple ds)
  | _ => False
theorem call_tupleR : CallR X (.type "tuple") (fun xs H Q => ∃ x, xs = [x] ∧ kTup X.K x H Q) := by
  intro pins s σ H xs us Q I r h
  obtain ⟨x, rfl, q⟩ := h
  cases r with
  | cons r rr =>
    cases rr
    exact rl_tuple pins s σ H x _ Q I r q
theorem dtupleOf (hm : X.mg "tuple" = none) (ha : PA X (e :: es) (liftA X.K was)) (hg : Gl X "tuple" := by rfl)
    (he : starEach (e :: es) X.env = (false, eval e X.env) :: starEach es X.env := by rfl) (hpl : (backTo pos (starEach es X.env)).any (·.1) = false := by rfl) : PE X (.Call (.Name "tuple" p) (e :: es) [] pos) (liftE X.K (dB nTuple was)) :=
  dct call_tupleR (fun g F env σ H vs ds P Q k r f q => by
    unfold nTuple at f
    split at f
    · obtain ⟨v, rfl, r0⟩ := r.inv1
      obtain ⟨a, us, rfl, h1, h2⟩ := r0.inv_lst
      refine ⟨_, rfl, .inl ⟨a, us, rfl, (h1.mono k.fh).sq, fun x hx => ?_⟩⟩
      obtain ⟨e4, k4, r4⟩ := k.newTup hx h2
      exact q _ _ _ _ f e4 k4 r4
    · obtain ⟨v, rfl, r0⟩ := r.inv1
      obtain ⟨a, us, rfl, h1, h2⟩ := r0.inv_tup
      exact ⟨_, rfl, .inr ⟨a, us, rfl, Evl.ex_t k.fh h1, q _ _ F H f (Ex.refl F) k r0⟩⟩
    · exact f.elim) hm (by decide +kernel) ha hg (by decide) (by decide) he hpl
/-- tuple(xs) of a name's own cell -/
def dTupC (i : Nat) (env : List SD) (P : PyData → List SD → Prop) : Prop := match env[i]? with
  | some (.cel _ xs) => P (.tuple xs) env
  | _ => False
theorem dtupC (i : Nat) {x : Str} {p0 : Pos} (hm : X.mg "tuple" = none) (hN : X.N[i]? = some x := by rfl)
    (hv : Vis X.env.scope x := by first | exact Or.inl rfl | exact Or.inr (Or.inl rfl) | exact Or.inr (Or.inr rfl)) (hd : (x == ("__debug__" : Str)) = false := by decide) (hcd : (x == ("__classdict__" : Str)) = false := by decide) (hg : Gl X "tuple" := by rfl)
    (na : starEach [.Name x p0] X.env = (false, eval (.Name x p0) X.env) :: starEach [] X.env := by rfl) : PE X (.Call (.Name "tuple" p) [.Name x p0] [] pos) (liftE X.K (dTupC i)) :=
  PE.of (pe_tupleOf hg hm (pe_var hN hv hd hcd) na) fun σ H Q ⟨g, F, env, P, k, w, q⟩ => by
    unfold dTupC at w
    split at w
    · rename_i p xs e
      obtain ⟨a0, vs, h1, h2, h3, h4, h5⟩ := k.cel i p xs e
      refine ⟨_, h1, .inl ⟨a0, vs, rfl, SqL.of h3, fun x hx => ?_⟩⟩
      obtain ⟨e4, k4, r4⟩ := k.newTup hx h4
      exact q _ _ _ _ _ w e4 k4 r4
    · exact w.elim
/-- len(xs) of a name's own cell -/
def dLenC (i : Nat) (env : List SD) (P : PyData → List SD → Prop) : Prop := match env[i]? with
  | some (.cel _ xs) => P (.int (xs.length : Nat)) env
  | _ => False
theorem dlenC (i : Nat) {x : Str} {p0 : Pos} (hm : X.mg "len" = none) (hN : X.N[i]? = some x := by rfl)
    (hv : Vis X.env.scope x := by first | exact Or.inl rfl | exact Or.inr (Or.inl rfl) | exact Or.inr (Or.inr rfl)) (hd : (x == ("__debug__" : Str)) = false := by decide) (hcd : (x == ("__classdict__" : Str)) = false := by decide) (hg : Gl X "len" := by rfl)
    (na : starEach [.Name x p0] X.env = (false, eval (.Name x p0) X.env) :: starEach [] X.env := by rfl) (hpl : (backTo pos (starEach [] X.env)).any (·.1) = false := by rfl) : PE X (.Call (.Name "len" p) [.Name x p0] [] pos) (liftE X.K (dLenC i)) :=
  PE.of (pe_callB call_len hg hm PySem.boot_len (pa_cons (pe_var hN hv hd hcd) pa_nil na) (by decide) (by decide) na hpl) fun σ H Q ⟨g, F, env, P, k, w, q⟩ => by
    unfold dLenC at w
    split at w
    · rename_i p xs e
      obtain ⟨a0, vs, h1, h2, h3, h4, h5⟩ := k.cel i p xs e
      exact ⟨_, h1, _, vs.length, rfl, .inl ⟨vs, SqL.of h3, rfl⟩, by rw [h4.length]; exact q _ _ _ F H w (Ex.refl F) k (.int _)⟩
    · exact w.elim
def nList (xs : List PyData) (P : List PyData → Prop) : Prop := match xs with
  | [.list ds] => P ds
  | [.tuple ds] => P ds
  | _ => False
/-- list(..): a new cell -/
def dListOf (wa : DA) (env : List SD) (P : SD → List SD → Prop) : Prop := wa env fun xs env' => nList xs fun ds => P (.cel false ds) env'
theorem dlistOf (hm : X.mg "list" = none) (ha : PA X (e :: es) (liftA X.K was)) (hg : Gl X "list" := by rfl)
    (he : starEach (e :: es) X.env = (false, eval e X.env) :: starEach es X.env := by rfl) (hpl : (backTo pos (starEach es X.env)).any (·.1) = false := by rfl) : PE X (.Call (.Name "list" p) (e :: es) [] pos) (liftX X.K (dListOf was)) :=
  PE.of (pe_callTy call_list_of hg hm (by decide +kernel) ha (by decide) (by decide) he hpl) fun σ H Q ⟨g, F, env, P, k, w, q⟩ =>
    ⟨g, F, env, _, k, w, fun ds env1 vs F1 H1 p e1 k1 r1 => by
      unfold nList at p
      split at p
      · obtain ⟨v, rfl, r0⟩ := r1.inv1
        obtain ⟨a, us, rfl, h1, h2⟩ := r0.inv_lst
        refine ⟨a, us, rfl, .inl (h1.mono k1.fh).sq, fun x hx => ?_⟩
        obtain ⟨k4, r4⟩ := k1.newCell hx h2
        exact q _ _ _ _ _ p e1 k4 r4
      · obtain ⟨v, rfl, r0⟩ := r1.inv1
        obtain ⟨a, us, rfl, h1, h2⟩ := r0.inv_tup
        refine ⟨a, us, rfl, .inr (Evl.ex_t k1.fh h1), fun x hx => ?_⟩
        obtain ⟨k4, r4⟩ := k1.newCell hx h2
        exact q _ _ _ _ _ p e1 k4 r4
      · exact p.elim⟩
/-- a name's own cell stays as it is from here on, or its datum -/
def dFreeze2 (i : Nat) (w : DS) (E : DEnds) (env : List SD) : Prop := match env[i]? with
  | some (.cel false xs) => w E (env.set i (.dat (.list xs)))
  | some (.dat _) => w E env
  | _ => False
theorem ssfreeze2 {sts : List Stmt} {m : Nat} {w : DS} (i : Nat) (h : PSs X sts (liftS X.K m w)) : PSs X sts (liftS X.K m (dFreeze2 i w)) := PSs.of h fun D σ H ⟨g, F, env, P, k, w, q⟩ => by
  unfold dFreeze2 at w
  split at w
  · rename_i xs e
    obtain ⟨F', e1, k1⟩ := k.freeze e
    exact ⟨g, F', _, P, k1, w, q.ex e1⟩
  · exact ⟨g, F, env, P, k, w, q⟩
  · exact w.elim
end
end DL

/-! The data layer, part 12: xs[::-1]. -/
namespace DL
open PySem PySem.Spec PyProof.Rows L2
open Evl (Ex)

section
variable {X : Cx} {a b e : Expr} {es : List Expr} {we wa wb : DE} {was : DA} {pos p p1 p2 p3 : Pos} {K : PySem.W.Frag}
theorem DRs.snoc {H : Hp} {v : V} {d : PyData} : ∀ {vs : List V} {ds : List PyData}, DRs K H vs ds → DR K H v d → DRs K H (vs ++ [v]) (ds ++ [d])
  | _, _, .nil, r => .cons r .nil
  | _, _, .cons h t, r => .cons h (DRs.snoc t r)
theorem DRs.rev {H : Hp} : ∀ {vs : List V} {ds : List PyData}, DRs K H vs ds → DRs K H vs.reverse ds.reverse
  | _, _, .nil => .nil
  | _, _, .cons h t => by
    rw [List.reverse_cons, List.reverse_cons]
    exact DRs.snoc (DRs.rev t) h
/-- xs[::-1] of a list: a new cell -/
def dRevN (w : DE) (env : List SD) (P : SD → List SD → Prop) : Prop := w env fun x env1 => lstQ x fun ds => P (.cel false ds.reverse) env1
theorem drevN {k : Nat} (he : PE X e (liftE X.K we)) : PE X (.Subscript e (.Slice none none (some (.UnaryOp .USub (.Constant (.int 1) k p1) p2)) p3) pos) (liftX X.K (dRevN we)) :=
  PE.of (pe_revL he) fun σ H Q ⟨g, F, env, P, kk, w, q⟩ => ⟨g, F, env, _, kk, w, fun d env1 v F1 H1 p e1 k1 r1 => by
    unfold lstQ at p
    split at p
    · rename_i ds
      obtain ⟨a, us, rfl, h1, h2⟩ := r1.inv_lst
      refine ⟨a, us, rfl, (h1.mono k1.fh).sq, fun x hx => ?_⟩
      obtain ⟨k4, r4⟩ := k1.newCell hx h2.rev
      exact q _ env1 _ _ _ p e1 k4 r4
    · exact p.elim⟩
end
end DL

/-! The data layer, part 13: what readings are told in. -/
namespace DL
open PySem PySem.Spec PyProof.Rows L2
open Evl (Ex)

def jn {α : Type} (f : α → Prop) (k : α) : Prop := f k
def tAnd (b : Bool) (u : (Bool → Prop) → Prop) (K : Bool → Prop) : Prop := bIf b (u K) (K false)
def tOr (b : Bool) (u : (Bool → Prop) → Prop) (K : Bool → Prop) : Prop := bIf b (K true) (u K)
def vAnd (b : Bool) (u : (PyData → Prop) → Prop) (K : PyData → Prop) : Prop := bIf b (u K) (K (.bool false))
def vOr (b : Bool) (u : (PyData → Prop) → Prop) (K : PyData → Prop) : Prop := bIf b (K (.bool true)) (u K)
def vIf (b : Bool) (u v : (PyData → Prop) → Prop) (K : PyData → Prop) : Prop := bIf b (u K) (v K)
theorem cels1 {c : List PyData} {ds : List PyData} {i : Nat} {p : Bool} {xs : List PyData} (e : (SD.cel true c :: ds.map .dat)[i]? = some (.cel p xs)) : i < 1 := by
  cases i with
  | zero => exact Nat.zero_lt_one
  | succ i => exact absurd (by simpa using e) (no_cel (ds := ds) i p xs)
end DL

/-! The data layer, part 14: products, xs[::-1] as a datum, is True. -/
namespace DL
open PySem PySem.Spec PyProof.Rows L2
open Evl (Ex)
section
variable {X : Cx} {a b e : Expr} {es : List Expr} {we wa wb : DE} {was : DA} {pos p p1 p2 p3 : Pos} {K : PySem.W.Frag} {m : Nat}
theorem DRs.flat {F : Hp} {vs : List V} {ds : List PyData} (r : DRs K F vs ds) : ∀ n : Nat, DRs K F (List.replicate n vs).flatten (List.replicate n ds).flatten
  | 0 => .nil
  | n + 1 => by
    rw [List.replicate_succ, List.replicate_succ, List.flatten_cons, List.flatten_cons]
    exact r.append (DRs.flat r n)
def oMul (x y : PyData) (P : PyData → Prop) : Prop := match x, y with
  | .int i, .int j => (Sz i ∧ Sz j) ∧ P (.int (i * j))
  | .tuple xs, .int k => (xs ≠ [] ∧ 2 ≤ k ∧ k ≤ 1000 ∧ xs.length ≤ 1000) ∧ P (.tuple (List.replicate k.toNat xs).flatten)
  | _, _ => False
theorem opd_mul {r : R2} (h : OpD K r oMulI) : OpD K (fun x y H Q => r x y H Q ∨ rRepT K x y H Q) oMul := by
  intro g F env σ H vx vy dx dy P Q k rx ry p q
  unfold oMul at p
  split at p
  · exact .inl (h g F env σ H vx vy _ _ P Q k rx ry p q)
  · rename_i xs n
    cases ry.inv_int
    obtain ⟨a, us, rfl, h1, h2⟩ := rx.inv_tup
    obtain ⟨⟨z1, z2, z3, z4⟩, p⟩ := p
    refine .inr ⟨a, n, us, rfl, rfl, Evl.ex_t k.fh h1, fun e => z1 ?_, z2, z3, by rw [h2.length]; exact z4, fun x hx => ?_⟩
    · subst e
      cases h2
      rfl
    · obtain ⟨e2, k2, r2⟩ := k.newTup hx (DRs.flat h2 n.toNat)
      exact q _ _ _ _ p e2 k2 r2
  · exact p.elim
theorem dmul (ha : PE X a (liftE X.K wa)) (hb : PE X b (liftE X.K wb)) : PE X (.BinOp a .Mult b pos) (liftE X.K (dOp oMul wa wb)) := dop (OpR.or op_mulW op_repT) (opd_mul (opd_I (fun _ _ h => by have h1 := h.1.log; have h2 := h.2.log; unfold CMulW; omega) fun _ _ _ => .int _)) ha hb
/-- xs[::-1] of a list, that stays -/
def oRev (x : PyData) (P : PyData → Prop) : Prop := lstQ x fun ds => P (.list ds.reverse)
theorem drev {k : Nat} (he : PE X e (liftE X.K we)) : PE X (.Subscript e (.Slice none none (some (.UnaryOp .USub (.Constant (.int 1) k p1) p2)) p3) pos) (liftE X.K (dUn oRev we)) :=
  PE.of (dfrz (drevN he)) fun σ H Q ⟨g, F, env, P, kk, w, q⟩ => ⟨g, F, env, P, kk, w, q⟩
end
end DL

/-! The data layer, part 15: plain laws of the readings' words. -/
namespace DL
open PySem PySem.Spec PyProof.Rows L2
section
variable {P K : PyData → Prop} {a b c : Int} {x y : PyData} {xs ys : List PyData} {T : Bool → Prop}
theorem q_bT : bT (.bool t) T = T t := rfl
theorem q_add : oAdd (.int a) (.int b) P = P (.int (a + b)) := rfl
theorem q_addT : oAdd (.tuple xs) (.tuple ys) P = (xs.length + ys.length ≤ 100000 ∧ P (.tuple (xs ++ ys))) := rfl
theorem q_addL : oAdd (.list xs) (.list ys) P = (xs.length + ys.length ≤ 100000 ∧ P (.list (xs ++ ys))) := rfl
theorem q_addS {i j : Str} : oAdd (.str i) (.str j) P = (i.length + j.length ≤ 100000 ∧ P (.str (i ++ j))) := rfl
theorem q_sub : oSub (.int a) (.int b) P = P (.int (a - b)) := rfl
theorem q_mul : oMul (.int a) (.int b) P = ((Sz a ∧ Sz b) ∧ P (.int (a * b))) := rfl
theorem q_mulT : oMul (.tuple xs) (.int b) P = ((xs ≠ [] ∧ 2 ≤ b ∧ b ≤ 1000 ∧ xs.length ≤ 1000) ∧ P (.tuple (List.replicate b.toNat xs).flatten)) := rfl
theorem q_div : oDiv (.int a) (.int b) P = ((0 < b ∧ Sz b) ∧ P (.int (a / b))) := rfl
theorem q_mod : oMod (.int a) (.int b) P = (0 < b ∧ P (.int (a % b))) := rfl
theorem q_pow : oPow (.int a) (.int b) P = ((Sz a ∧ 0 ≤ b ∧ b ≤ 10000) ∧ P (.int (a ^ b.toNat))) := rfl
theorem q_neg : oNeg (.int a) P = P (.int (-a)) := rfl
theorem q_lt : oLt (.int a) (.int b) P = P (.bool (decide (a < b))) := rfl
theorem q_le : oLe (.int a) (.int b) P = P (.bool (decide (a ≤ b))) := rfl
theorem q_gt : oGt (.int a) (.int b) P = P (.bool (decide (b < a))) := rfl
theorem q_ge : oGe (.int a) (.int b) P = P (.bool (decide (b ≤ a))) := rfl
theorem q_oI {f : Int → Int → PyData} : oI f (.int a) (.int b) P = P (f a b) := rfl
theorem shaped_int : SeqAt.shaped (.int a) = true := by unfold SeqAt.shaped; rfl
theorem q_eq : oEq (.int a) (.int b) P = P (.bool (decide (a = b))) := by
  show ((SeqAt.shaped (.int a) = true ∧ SeqAt.shaped (.int b) = true) ∧ P (.bool (eqD (.int a) (.int b)))) = _
  rw [eqD_int]
  simp only [shaped_int, and_self, true_and]
theorem q_ne : oNe (.int a) (.int b) P = P (.bool (!decide (a = b))) := by
  show ((SeqAt.shaped (.int a) = true ∧ SeqAt.shaped (.int b) = true) ∧ P (.bool (!eqD (.int a) (.int b)))) = _
  rw [eqD_int]
  simp only [shaped_int, and_self, true_and]
theorem q_eqS {i j : Str} : oEq (.str i) (.str j) P = P (.bool (decide (i = j))) := rfl
theorem q_neS {i j : Str} : oNe (.str i) (.str j) P = P (.bool (!decide (i = j))) := rfl
theorem eqD_self (x : PyData) (h : PyData.eqv x x = true) : eqD x x = true := by rw [eqD_eq]; exact h
/-- == of like things -/
theorem eq_same (h : x = y) (hs : SeqAt.shaped x = true) (he : PyData.eqv x x = true) (k : P (.bool true)) : oEq x y P := by
  subst h
  unfold oEq
  split
  · rw [decide_eq_true rfl]; exact k
  · exact ⟨⟨hs, hs⟩, by rw [eqD_self _ he]; exact k⟩
theorem ne_same (h : x = y) (hs : SeqAt.shaped x = true) (he : PyData.eqv x x = true) (k : P (.bool false)) : oNe x y P := by
  subst h
  unfold oNe
  split
  · rw [decide_eq_true rfl]; exact k
  · exact ⟨⟨hs, hs⟩, by rw [eqD_self _ he]; exact k⟩
theorem q_isN : oIsN .none P = P (.bool true) := rfl
theorem q_isNi : oIsN (.int a) P = P (.bool false) := rfl
theorem q_isNt : oIsN (.tuple xs) P = P (.bool false) := rfl
theorem q_isNs {i : Str} : oIsN (.str i) P = P (.bool false) := rfl
theorem q_notN : oNotN .none P = P (.bool false) := rfl
theorem q_notNi : oNotN (.int a) P = P (.bool true) := rfl
theorem q_notNt : oNotN (.tuple xs) P = P (.bool true) := rfl
theorem q_ix : oIx (.tuple xs) (.int a) P = pick xs a P := rfl
theorem q_ixL : oIx (.list xs) (.int a) P = pick xs a P := rfl
theorem q_ixQ : ixQ xs (.int a) P = pick xs a P := rfl
theorem q_len : nLen [.list xs] P = P (.int (xs.length : Nat)) := rfl
theorem q_lenT : nLen [.tuple xs] P = P (.int (xs.length : Nat)) := rfl
theorem q_lenS {i : Str} : nLen [.str i] P = (i.length ≤ 100000 ∧ P (.int (i.length : Nat))) := rfl
theorem q_abs : nAbs [.int a] P = P (.int (if a < 0 then -a else a)) := rfl
theorem q_min : nMin2 [.int a, .int b] P = P (.int (if b < a then b else a)) := rfl
theorem q_max : nMax2 [.int a, .int b] P = P (.int (if b > a then b else a)) := rfl
theorem q_tupleOf : nTuple [.list xs] P = P (.tuple xs) := rfl
theorem q_tupleOfT : nTuple [.tuple xs] P = P (.tuple xs) := rfl
theorem q_int : nInt [.int a] P = P (.int a) := rfl
theorem q_intB {t : Bool} : nInt [.bool t] P = P (.int (if t then 1 else 0)) := rfl
theorem q_list {P : List PyData → Prop} : nList [.list xs] P = P xs := rfl
theorem q_listT {P : List PyData → Prop} : nList [.tuple xs] P = P xs := rfl
theorem q_tup {K : List PyData → Prop} : tupQ (.tuple xs) K = K xs := rfl
theorem q_cons {K : PyData → List PyData → Prop} : consQ (x :: xs) K = K x xs := rfl
theorem q_nil {p : Prop} : nilQ [] p = p := rfl
theorem q_so {K : Option Int → Prop} : soQ (.int a) K = K (some a) := rfl
theorem q_lst {K : List PyData → Prop} : lstQ (.list xs) K = K xs := rfl
theorem q_items {K : List PyData → Prop} : itemsQ (.list xs) K = K xs := rfl
theorem q_itemsT {K : List PyData → Prop} : itemsQ (.tuple xs) K = K xs := rfl
theorem q_rev : oRev (.list xs) P = P (.list xs.reverse) := rfl
theorem q_zip {K : List PyData → Prop} : zipQ [.list xs, .list ys] K = K (zipD xs ys) := rfl
theorem q_zipT {K : List PyData → Prop} : zipQ [.tuple xs, .tuple ys] K = K (zipD xs ys) := rfl
theorem q_rng1 {K : List PyData → Prop} : rng1 [.int a] K = ((-1000000 ≤ a ∧ a ≤ 1000000) ∧ K (rangeD 0 a.toNat)) := rfl
theorem q_rng2 {K : List PyData → Prop} : rng2 [.int a, .int b] K = ((-1000000 ≤ a ∧ a ≤ 1000000 ∧ -1000000 ≤ b ∧ b ≤ 1000000) ∧ K (rangeD a (b - a).toNat)) := rfl
theorem q_all : nAll [.list xs] P = (match boolsD xs with | some bs => P (.bool (bs.all id)) | none => False) := rfl
theorem q_any : nAny [.list xs] P = (match boolsD xs with | some bs => P (.bool (bs.any id)) | none => False) := rfl
theorem q_sum : nSum [.list xs] P = (match intsD xs with | some bs => P (.int bs.sum) | none => False) := rfl
theorem q_sumT : nSum [.tuple xs] P = (match intsD xs with | some bs => P (.int bs.sum) | none => False) := rfl
theorem q_ap {K : List PyData → Prop} : apQ xs x K = (xs.length < 100000 ∧ K (xs ++ [x])) := rfl
theorem bools_map (ds : List PyData) (f : PyData → Bool) : boolsD (ds.map fun d => .bool (f d)) = some (ds.map f) := by
  induction ds with
  | nil => rfl
  | cons d ds ih => simp [boolsD, ih]
theorem ints_map (ns : List Int) : intsD (ns.map .int) = some ns := by
  induction ns with
  | nil => rfl
  | cons d ds ih => simp [intsD, ih]
theorem q_sumI {ns : List Int} : nSum [.list (ns.map .int)] P = P (.int ns.sum) := by rw [q_sum, ints_map]
theorem q_sumTI {ns : List Int} : nSum [.tuple (ns.map .int)] P = P (.int ns.sum) := by rw [q_sumT, ints_map]
theorem q_allB {ds : List PyData} {f : PyData → Bool} : nAll [.list (ds.map fun d => .bool (f d))] P = P (.bool (ds.all f)) := by
  rw [q_all, bools_map]
  simp only [List.all_map]
  rfl
theorem q_anyB {ds : List PyData} {f : PyData → Bool} : nAny [.list (ds.map fun d => .bool (f d))] P = P (.bool (ds.any f)) := by
  rw [q_any, bools_map]
  simp only [List.any_map]
  rfl
theorem ints0 : intsD [] = some [] := rfl
theorem ints1 {r : List PyData} : intsD (.int a :: r) = (intsD r).map (a :: ·) := rfl
theorem bools0 : boolsD [] = some [] := rfl
theorem bools1 {t : Bool} {r : List PyData} : boolsD (.bool t :: r) = (boolsD r).map (t :: ·) := rfl
/-! ### truths -/
section
variable {S : Prop} {t : Bool} {u : (Bool → Prop) → Prop} {v : (PyData → Prop) → Prop} {K : Bool → Prop} {L : PyData → Prop}
theorem q_same {I S : Type} {i : I} {N : S → Prop} {s : S} : same i N i s = N s := propext ⟨fun h => h.2, fun h => ⟨rfl, h⟩⟩
theorem q_jn {α : Type} {f : α → Prop} {k : α} : jn f k = f k := rfl
theorem q_tAnd_k {b c : Bool} {K : Bool → Prop} : tAnd b (fun k => k c) K = K (b && c) := by cases b <;> rfl
theorem q_tOr_k {b c : Bool} {K : Bool → Prop} : tOr b (fun k => k c) K = K (b || c) := by cases b <;> rfl
theorem q_vAnd_k {b c : Bool} : vAnd b (fun k => k (.bool c)) L = L (.bool (b && c)) := by cases b <;> rfl
theorem q_vOr_k {b c : Bool} : vOr b (fun k => k (.bool c)) L = L (.bool (b || c)) := by cases b <;> rfl
theorem q_tAnd_s {b c : Bool} {K : Bool → Prop} {S : Prop} : tAnd b (fun k => S ∧ k c) K = ((b = true → S) ∧ K (b && c)) := by
  cases b
  · simp only [Bool.false_eq_true, false_imp_iff, true_and]; rfl
  · simp only [true_imp_iff, Bool.true_and]; rfl
theorem q_tOr_s {b c : Bool} {K : Bool → Prop} {S : Prop} : tOr b (fun k => S ∧ k c) K = ((b = false → S) ∧ K (b || c)) := by
  cases b
  · simp only [true_imp_iff, Bool.false_or]; rfl
  · simp only [Bool.true_eq_false, false_imp_iff, true_and]; rfl
theorem q_vAnd_s {b c : Bool} {S : Prop} : vAnd b (fun k => S ∧ k (.bool c)) L = ((b = true → S) ∧ L (.bool (b && c))) := by
  cases b
  · simp only [Bool.false_eq_true, false_imp_iff, true_and]; rfl
  · simp only [true_imp_iff, Bool.true_and]; rfl
theorem q_vOr_s {b c : Bool} {S : Prop} : vOr b (fun k => S ∧ k (.bool c)) L = ((b = false → S) ∧ L (.bool (b || c))) := by
  cases b
  · simp only [true_imp_iff, Bool.false_or]; rfl
  · simp only [Bool.true_eq_false, false_imp_iff, true_and]; rfl
theorem q_vIf_k {b : Bool} {x y : PyData} : vIf b (fun k => k x) (fun k => k y) L = L (if b then x else y) := by cases b <;> rfl
theorem q_tAnd_t {K : Bool → Prop} : tAnd true u K = u K := rfl
theorem q_tAnd_f {K : Bool → Prop} : tAnd false u K = K false := rfl
theorem q_tOr_t {K : Bool → Prop} : tOr true u K = K true := rfl
theorem q_tOr_f {K : Bool → Prop} : tOr false u K = u K := rfl
theorem q_vAnd_t : vAnd true v L = v L := rfl
theorem q_vAnd_f : vAnd false v L = L (.bool false) := rfl
theorem q_vOr_t : vOr true v L = L (.bool true) := rfl
theorem q_vOr_f : vOr false v L = v L := rfl
theorem q_vIf_t {v' : (PyData → Prop) → Prop} : vIf true v v' L = v L := rfl
theorem q_vIf_f {v' : (PyData → Prop) → Prop} : vIf false v v' L = v' L := rfl
theorem bIf_of {b : Bool} {p q : Prop} (h1 : b = true → p) (h2 : b = false → q) : bIf b p q := by
  cases b
  · exact h2 rfl
  · exact h1 rfl
theorem bIf_d {c : Prop} [Decidable c] {p q : Prop} (h1 : c → p) (h2 : ¬ c → q) : bIf (decide c) p q := by
  by_cases h : c
  · rw [decide_eq_true h]; exact h1 h
  · rw [decide_eq_false h]; exact h2 h
end
/-! ### items by place -/
theorem pick_lit {xs : List PyData} (n : Nat) {d : PyData} (e : xs[n]? = some d) : pick xs (n : Int) P = P d := pick_eq (by
  unfold atI
  rw [ixN_in (by omega) (by have := (List.getElem?_eq_some_iff.mp e).1; omega)]
  exact e)
theorem at0 {a : PyData} {l : List PyData} : pick (a :: l) 0 P = P a := pick_lit 0 rfl
theorem at1 {a b : PyData} {l : List PyData} : pick (a :: b :: l) 1 P = P b := pick_lit 1 rfl
theorem at2 {a b c : PyData} {l : List PyData} : pick (a :: b :: c :: l) 2 P = P c := pick_lit 2 rfl
theorem at3 {a b c d : PyData} {l : List PyData} : pick (a :: b :: c :: d :: l) 3 P = P d := pick_lit 3 rfl
theorem at4 {a b c d e : PyData} {l : List PyData} : pick (a :: b :: c :: d :: e :: l) 4 P = P e := pick_lit 4 rfl
theorem at5 {a b c d e f : PyData} {l : List PyData} : pick (a :: b :: c :: d :: e :: f :: l) 5 P = P f := pick_lit 5 rfl
theorem at6 {a b c d e f g : PyData} {l : List PyData} : pick (a :: b :: c :: d :: e :: f :: g :: l) 6 P = P g := pick_lit 6 rfl
theorem atLast {xs : List PyData} {d : PyData} : pick (xs ++ [d]) (-1) P = P d := pick_eq (by
  unfold atI ixN
  rw [if_neg (by decide), if_pos (by simp; omega)]
  show (xs ++ [d])[((-1 : Int) + ((xs ++ [d]).length : Nat)).toNat]? = some d
  rw [show ((-1 : Int) + ((xs ++ [d]).length : Nat)).toNat = xs.length by simp; omega]
  simp)
/-- any item -/
theorem pick_mem {xs : List PyData} {k : Int} (h0 : 0 ≤ k) (h1 : k < xs.length) (h : ∀ d ∈ xs, P d) : pick xs k P := at_of h0 h1 h
theorem st0 {x a : PyData} {r : List PyData} {K : List PyData → Prop} : stQ (a :: r) (.int 0) x K = K (x :: r) := by
  show (match ixN (a :: r).length 0 with | some j => K ((a :: r).set j x) | none => False) = _
  rw [ixN_in (by decide) (by simp)]
  rfl
theorem st1 {x a b : PyData} {r : List PyData} {K : List PyData → Prop} : stQ (a :: b :: r) (.int 1) x K = K (a :: x :: r) := by
  show (match ixN (a :: b :: r).length 1 with | some j => K ((a :: b :: r).set j x) | none => False) = _
  rw [ixN_in (by decide) (by simp; omega)]
  rfl
theorem st2 {x a b c : PyData} {r : List PyData} {K : List PyData → Prop} : stQ (a :: b :: c :: r) (.int 2) x K = K (a :: b :: x :: r) := by
  show (match ixN (a :: b :: c :: r).length 2 with | some j => K ((a :: b :: c :: r).set j x) | none => False) = _
  rw [ixN_in (by decide) (by simp; omega)]
  rfl
theorem st3 {x a b c d : PyData} {r : List PyData} {K : List PyData → Prop} : stQ (a :: b :: c :: d :: r) (.int 3) x K = K (a :: b :: c :: x :: r) := by
  show (match ixN (a :: b :: c :: d :: r).length 3 with | some j => K ((a :: b :: c :: d :: r).set j x) | none => False) = _
  rw [ixN_in (by decide) (by simp; omega)]
  rfl
theorem st4 {x a b c d e : PyData} {r : List PyData} {K : List PyData → Prop} : stQ (a :: b :: c :: d :: e :: r) (.int 4) x K = K (a :: b :: c :: d :: x :: r) := by
  show (match ixN (a :: b :: c :: d :: e :: r).length 4 with | some j => K ((a :: b :: c :: d :: e :: r).set j x) | none => False) = _
  rw [ixN_in (by decide) (by simp; omega)]
  rfl
theorem st_in {x : PyData} {k : Int} {K : List PyData → Prop} (h0 : 0 ≤ k) (h1 : k < xs.length) (h : K (xs.set k.toNat x)) : stQ xs (.int k) x K := by
  show (match ixN xs.length k with | some j => K (xs.set j x) | none => False)
  rw [ixN_in h0 h1]
  exact h
end
/-! ### of what kind -/
theorem isi_non_int : isiB .none "int" = false := rfl
theorem isi_non_bool : isiB .none "bool" = false := rfl
theorem isi_non_str : isiB .none "str" = false := rfl
theorem isi_non_list : isiB .none "list" = false := rfl
theorem isi_non_tuple : isiB .none "tuple" = false := rfl
theorem isi_non_dict : isiB .none "dict" = false := rfl
theorem isi_bl_int {t : Bool} : isiB (.bool t) "int" = true := rfl
theorem isi_bl_bool {t : Bool} : isiB (.bool t) "bool" = true := rfl
theorem isi_bl_str {t : Bool} : isiB (.bool t) "str" = false := rfl
theorem isi_bl_list {t : Bool} : isiB (.bool t) "list" = false := rfl
theorem isi_bl_tuple {t : Bool} : isiB (.bool t) "tuple" = false := rfl
theorem isi_bl_dict {t : Bool} : isiB (.bool t) "dict" = false := rfl
theorem isi_int_int {a : Int} : isiB (.int a) "int" = true := rfl
theorem isi_int_bool {a : Int} : isiB (.int a) "bool" = false := rfl
theorem isi_int_str {a : Int} : isiB (.int a) "str" = false := rfl
theorem isi_int_list {a : Int} : isiB (.int a) "list" = false := rfl
theorem isi_int_tuple {a : Int} : isiB (.int a) "tuple" = false := rfl
theorem isi_int_dict {a : Int} : isiB (.int a) "dict" = false := rfl
theorem isi_str_int {x : Str} : isiB (.str x) "int" = false := rfl
theorem isi_str_bool {x : Str} : isiB (.str x) "bool" = false := rfl
theorem isi_str_str {x : Str} : isiB (.str x) "str" = true := rfl
theorem isi_str_list {x : Str} : isiB (.str x) "list" = false := rfl
theorem isi_str_tuple {x : Str} : isiB (.str x) "tuple" = false := rfl
theorem isi_str_dict {x : Str} : isiB (.str x) "dict" = false := rfl
theorem isi_lst_int {xs : List PyData} : isiB (.list xs) "int" = false := rfl
theorem isi_lst_bool {xs : List PyData} : isiB (.list xs) "bool" = false := rfl
theorem isi_lst_str {xs : List PyData} : isiB (.list xs) "str" = false := rfl
theorem isi_lst_list {xs : List PyData} : isiB (.list xs) "list" = true := rfl
theorem isi_lst_tuple {xs : List PyData} : isiB (.list xs) "tuple" = false := rfl
theorem isi_lst_dict {xs : List PyData} : isiB (.list xs) "dict" = false := rfl
theorem isi_tup_int {xs : List PyData} : isiB (.tuple xs) "int" = false := rfl
theorem isi_tup_bool {xs : List PyData} : isiB (.tuple xs) "bool" = false := rfl
theorem isi_tup_str {xs : List PyData} : isiB (.tuple xs) "str" = false := rfl
theorem isi_tup_list {xs : List PyData} : isiB (.tuple xs) "list" = false := rfl
theorem isi_tup_tuple {xs : List PyData} : isiB (.tuple xs) "tuple" = true := rfl
theorem isi_tup_dict {xs : List PyData} : isiB (.tuple xs) "dict" = false := rfl
theorem isi_dct_int {kv : List (PyData × PyData)} : isiB (.dict kv) "int" = false := rfl
theorem isi_dct_bool {kv : List (PyData × PyData)} : isiB (.dict kv) "bool" = false := rfl
theorem isi_dct_str {kv : List (PyData × PyData)} : isiB (.dict kv) "str" = false := rfl
theorem isi_dct_list {kv : List (PyData × PyData)} : isiB (.dict kv) "list" = false := rfl
theorem isi_dct_tuple {kv : List (PyData × PyData)} : isiB (.dict kv) "tuple" = false := rfl
theorem isi_dct_dict {kv : List (PyData × PyData)} : isiB (.dict kv) "dict" = true := rfl
end DL

namespace K47
open PySem PySem.Spec PyProof.Rows L2 DL
def q_is_whole (thing : PyData) (K : PyData → Prop) : Prop :=
  vAnd (isiB thing "int") (fun k1 => k1 (.bool (!(isiB thing "bool")))) fun t2 =>
  K t2
def q_is_within (thing : PyData) (least : PyData) (most : PyData) (K : PyData → Prop) : Prop :=
  q_is_whole thing fun i1 =>
  bT i1 fun b2 =>
  vAnd b2 (fun k8 => oLe least thing fun t3 =>
  bT t3 fun b4 =>
  vAnd b4 (fun k6 => oLe thing most fun t5 =>
  k6 t5) fun t7 =>
  k8 t7) fun t9 =>
  K t9
def q_is_from (thing : PyData) (least : PyData) (K : PyData → Prop) : Prop :=
  q_is_whole thing fun i1 =>
  bT i1 fun b2 =>
  vAnd b2 (fun k4 => oLe least thing fun t3 =>
  k4 t3) fun t5 =>
  K t5
def qb_are_wholes_1 (d : PyData) (i : PyData × PyData) (s : Unit) (sk : (PyData × PyData) → Unit → Prop) (yd : PyData → (PyData × PyData) → Unit → Prop) : Prop :=
  q_is_whole d fun i5 =>
  yd i5 (i.1, i.2) ()
def q_are_wholes (thing : PyData) (many : PyData) (K : PyData → Prop) : Prop :=
  vAnd (isiB thing "tuple") (fun k12 => nLen [thing] fun t1 =>
  oEq t1 many fun t2 =>
  bT t2 fun b3 =>
  vAnd b3 (fun k10 => itemsQ thing fun l4 =>
  qLc qb_are_wholes_1 (thing, many) l4 [] () fun l6 s8 =>
  nAll [(.list l6)] fun t9 =>
  k10 t9) fun t11 =>
  k12 t11) fun t13 =>
  K t13
def qb_divisor_of_1 (K : PyData → Prop) (i : Unit) (s : PyData × PyData) (nx bk : Unit → (PyData × PyData) → Prop) : Prop :=
  oGt s.2 (.int 0) fun t3 =>
  bT t3 fun b4 =>
  bIf b4
  (oMod s.1 s.2 fun t5 =>
  nx () (s.2, t5))
  (bk () (s.1, s.2))
def q_divisor_of (one : PyData) (other : PyData) (K : PyData → Prop) : Prop :=
  nAbs [one] fun t1 =>
  nAbs [other] fun t2 =>
  qWhile (qb_divisor_of_1 K) () (t1, t2) fun s7 =>
  K s7.1
def q_is_fraction (thing : PyData) (K : PyData → Prop) : Prop :=
  q_are_wholes thing (.int 2) fun a1 =>
  bT a1 fun b2 =>
  vAnd b2 (fun k12 => oIx thing (.int 1) fun t3 =>
  oGt t3 (.int 0) fun t4 =>
  bT t4 fun b5 =>
  vAnd b5 (fun k10 => oIx thing (.int 0) fun t6 =>
  oIx thing (.int 1) fun t7 =>
  q_divisor_of t6 t7 fun d8 =>
  oEq d8 (.int 1) fun t9 =>
  k10 t9) fun t11 =>
  k12 t11) fun t13 =>
  K t13
def q_need_number (thing : PyData) (K : PyData → Prop) : Prop :=
  q_is_from thing (.int 0) fun i1 =>
  bT i1 fun b2 =>
  bIf (!b2)
  (False)
  (K .none)
def q_is_part (thing : PyData) (K : PyData → Prop) : Prop :=
  q_is_fraction thing fun i1 =>
  bT i1 fun b2 =>
  vAnd b2 (fun k10 => oIx thing (.int 0) fun t3 =>
  oLe (.int 0) t3 fun t4 =>
  bT t4 fun b5 =>
  vAnd b5 (fun k8 => oIx thing (.int 1) fun t6 =>
  oLe t3 t6 fun t7 =>
  k8 t7) fun t9 =>
  k10 t9) fun t11 =>
  K t11
def qb_is_sale_1 (d : PyData) (i : PyData × PyData) (s : Unit) (sk : (PyData × PyData) → Unit → Prop) (yd : PyData → (PyData × PyData) → Unit → Prop) : Prop :=
  tupQ d fun r =>
  consQ r fun number' r1 =>
  consQ r1 fun bound' r2 =>
  nilQ r2 (q_is_within number' (.int 0) bound' fun i12 =>
  yd i12 (i.1, i.2) ())
def q_is_sale (thing : PyData) (K : PyData → Prop) : Prop :=
  tOr (!(isiB thing "tuple")) (fun k9 => nLen [thing] fun t1 =>
  oNe t1 (.int 6) fun t2 =>
  bT t2 fun b3 =>
  tOr b3 (fun k7 => oIx thing (.int 5) fun t4 =>
  q_is_part t4 fun i5 =>
  bT i5 fun b6 =>
  k7 (!b6)) fun b8 =>
  k9 b8) fun b10 =>
  bIf b10
  (K (.bool false))
  (zipQ [thing, (.tuple [(.int (1000000000000)), (.int (1000000000000)), (.int (10000)), (.int (1000)), (.int (1000000000))])] fun l11 =>
  qLc qb_is_sale_1 (thing, (.tuple [(.int (1000000000000)), (.int (1000000000000)), (.int (10000)), (.int (1000)), (.int (1000000000))])) l11 [] () fun l13 s15 =>
  nAll [(.list l13)] fun t16 =>
  K t16)
def q_need_sale (thing : PyData) (K : PyData → Prop) : Prop :=
  q_is_sale thing fun i1 =>
  bT i1 fun b2 =>
  bIf (!b2)
  (False)
  (K .none)
def q_purse_of (sale : PyData) (K : PyData → Prop) : Prop :=
  q_need_sale sale fun n1 =>
  tupQ sale fun r2 =>
  consQ r2 fun gross3 r4 =>
  consQ r4 fun charges5 r6 =>
  consQ r6 fun rate7 r8 =>
  consQ r8 fun heads9 r10 =>
  consQ r10 fun bounty11 r12 =>
  consQ r12 fun part13 r14 =>
  nilQ r14 (nMin2 [charges5, gross3] fun paid15 =>
  oSub gross3 paid15 fun t16 =>
  oIx part13 (.int 0) fun t17 =>
  oMul t16 t17 fun t18 =>
  oIx part13 (.int 1) fun t19 =>
  oDiv t18 t19 fun captors20 =>
  oMul heads9 bounty11 fun t21 =>
  oAdd captors20 t21 fun pot22 =>
  oMul pot22 rate7 fun t23 =>
  oDiv t23 (.int (10000)) fun fee24 =>
  oSub gross3 paid15 fun t25 =>
  oSub t25 captors20 fun t26 =>
  oSub pot22 fee24 fun t27 =>
  K (.tuple [paid15, t26, fee24, t27]))
def q_least_pot (rate : PyData) (n : PyData) (K : PyData → Prop) : Prop :=
  oEq n (.int 0) fun t1 =>
  bT t1 fun b2 =>
  bIf b2
  (K (.int 0))
  (oEq rate (.int (10000)) fun t3 =>
  bT t3 fun b4 =>
  bIf b4
  (K .none)
  (oSub n (.int 1) fun t5 =>
  oMul t5 (.int (10000)) fun t6 =>
  oSub (.int (10000)) rate fun t7 =>
  oDiv t6 t7 fun t8 =>
  oAdd t8 (.int 1) fun t9 =>
  K t9))
def q_least_gross (sale : PyData) (n : PyData) (K : PyData → Prop) : Prop :=
  q_need_sale sale fun n1 =>
  q_need_number n fun n2 =>
  tupQ sale fun r3 =>
  consQ r3 fun gross4 r5 =>
  consQ r5 fun charges6 r7 =>
  consQ r7 fun rate8 r9 =>
  consQ r9 fun heads10 r11 =>
  consQ r11 fun bounty12 r13 =>
  consQ r13 fun part14 r15 =>
  nilQ r15 (q_least_pot rate8 n fun pot16 =>
  oIsN pot16 fun t17 =>
  bT t17 fun b18 =>
  bIf b18
  (K .none)
  (oMul heads10 bounty12 fun t19 =>
  oSub pot16 t19 fun captors20 =>
  oLe captors20 (.int 0) fun t21 =>
  bT t21 fun b22 =>
  bIf b22
  (K (.int 0))
  (oIx part14 (.int 0) fun t23 =>
  oEq t23 (.int 0) fun t24 =>
  bT t24 fun b25 =>
  bIf b25
  (K .none)
  (oIx part14 (.int 1) fun t26 =>
  oMul captors20 t26 fun t27 =>
  oSub t27 (.int 1) fun t28 =>
  oIx part14 (.int 0) fun t29 =>
  oDiv t28 t29 fun t30 =>
  oAdd charges6 t30 fun t31 =>
  oAdd t31 (.int 1) fun t32 =>
  K t32))))
def q_law_pot (script : PyData) (k : PyData) (K : List PyData → Prop) : Prop :=
  oMul (.int 7919) k fun t1 =>
  oAdd t1 (.int 31) fun cell2 =>
  nLen [script] fun t3 =>
  oLt k t3 fun t4 =>
  bT t4 fun b5 =>
  jn (fun J8 => bIf b5
  (oIx script k fun cell6 =>
  J8 cell6)
  (J8 cell2)) fun cell7 =>
  oPow (.int 10) (.int 18) fun t9 =>
  oSub cell7 t9 fun t10 =>
  nMax2 [(.int 0), t10] fun t11 =>
  oPow (.int 10) (.int 60) fun t12 =>
  oPow t12 (.int 10) fun t13 =>
  oMod t11 t13 fun t14 =>
  oMod cell7 (.int 2147483629) fun t15 =>
  oMul (.int 9973) k fun t16 =>
  oAdd t15 t16 fun t17 =>
  K [t14, t17, (.int 0)]
def q_law_take (pot_here : List PyData) (many : PyData) (K : PyData → List PyData → Prop) : Prop :=
  ixQ pot_here (.int 0) fun t1 =>
  oGt t1 (.int 0) fun t2 =>
  bT t2 fun b3 =>
  bIf b3
  (ixQ pot_here (.int 0) fun t4 =>
  oMod t4 many fun digit5 =>
  ixQ pot_here (.int 0) fun t6 =>
  oDiv t6 many fun t7 =>
  stQ pot_here (.int 0) t7 fun pot_here8 =>
  K digit5 pot_here8)
  (ixQ pot_here (.int 2) fun t9 =>
  oAdd t9 (.int 1) fun t10 =>
  stQ pot_here (.int 2) t10 fun pot_here11 =>
  ixQ pot_here11 (.int 1) fun t12 =>
  ixQ pot_here11 (.int 2) fun t13 =>
  oMul (.int 104729) t13 fun t14 =>
  oAdd t12 t14 fun t15 =>
  oAdd t15 (.int 11) fun t16 =>
  oPow t16 (.int 5) fun t17 =>
  oMod t17 (.int 2147483647) fun one18 =>
  oDiv one18 (.int 8) fun t19 =>
  ixQ pot_here11 (.int 2) fun t20 =>
  oMul (.int 7919) t20 fun t21 =>
  ixQ pot_here11 (.int 2) fun t22 =>
  oMul t21 t22 fun t23 =>
  oAdd t19 t23 fun t24 =>
  oAdd t24 (.int 3) fun t25 =>
  oPow t25 (.int 3) fun t26 =>
  oMod t26 (.int 2147483587) fun other27 =>
  oDiv one18 (.int 4) fun t28 =>
  oDiv other27 (.int 4) fun t29 =>
  oMul (.int 536870909) t29 fun t30 =>
  oAdd t28 t30 fun t31 =>
  oMod t31 many fun t32 =>
  K t32 pot_here11)
def qb_law_fraction_1 (K : PyData → Prop) (i : PyData × PyData) (s : PyData × PyData) (nx bk : (PyData × PyData) → (PyData × PyData) → Prop) : Prop :=
  oGt s.2 (.int 0) fun t2 =>
  bT t2 fun b3 =>
  bIf b3
  (oMod s.1 s.2 fun t4 =>
  nx (i.1, i.2) (s.2, t4))
  (bk (i.1, i.2) (s.1, s.2))
def q_law_fraction (p : PyData) (q : PyData) (K : PyData → Prop) : Prop :=
  nAbs [p] fun t1 =>
  qWhile (qb_law_fraction_1 K) (p, q) (t1, q) fun s6 =>
  oDiv p s6.1 fun t7 =>
  oDiv q s6.1 fun t8 =>
  K (.tuple [t7, t8])
def q_law_number (pot_here : List PyData) (most : PyData) (K : PyData → List PyData → Prop) : Prop :=
  q_law_take pot_here (.int 5) fun way1 pot_here2 =>
  q_law_take pot_here2 (.int 40) fun few3 pot_here4 =>
  nMin2 [most, few3] fun t5 =>
  oAdd most (.int 1) fun t6 =>
  q_law_take pot_here4 t6 fun t7 pot_here8 =>
  oMod few3 (.int 3) fun t9 =>
  nMin2 [most, t9] fun t10 =>
  oSub most t10 fun t11 =>
  oPow (.int 10) (.int 6) fun t12 =>
  oPow (.int 10) (.int 9) fun t13 =>
  oPow (.int 10) (.int 12) fun t14 =>
  oMod few3 (.int 7) fun t15 =>
  oIx (.list [(.int 1), (.int 10), (.int 1000), (.int 10000), t12, t13, t14]) t15 fun t16 =>
  nMin2 [most, t16] fun t17 =>
  oIx (.list [(.int 0), t5, t7, t11, t17]) way1 fun t18 =>
  K t18 pot_here8
def q_law_sale (pot_here : List PyData) (K : PyData → List PyData → Prop) : Prop :=
  oPow (.int 10) (.int 12) fun t1 =>
  q_law_number pot_here t1 fun gross2 pot_here3 =>
  oPow (.int 10) (.int 12) fun t4 =>
  q_law_number pot_here3 t4 fun n5 pot_here6 =>
  oDiv gross2 (.int 3) fun t7 =>
  q_law_take pot_here6 (.int 4) fun t8 pot_here9 =>
  oIx (.list [n5, gross2, t7, (.int 0)]) t8 fun charges10 =>
  q_law_take pot_here9 (.int 10001) fun t11 pot_here12 =>
  q_law_take pot_here12 (.int 5) fun t13 pot_here14 =>
  oIx (.list [t11, (.int 0), (.int 10000), (.int 250), (.int 9999)]) t13 fun rate15 =>
  oPow (.int 10) (.int 6) fun t16 =>
  oPow (.int 10) (.int 30) fun t17 =>
  q_law_take pot_here14 (.int 3) fun t18 pot_here19 =>
  oIx (.list [(.int 20), t16, t17]) t18 fun t20 =>
  q_law_number pot_here19 t20 fun n21 pot_here22 =>
  oAdd (.int 1) n21 fun bottom23 =>
  oAdd bottom23 (.int 1) fun t24 =>
  q_law_take pot_here22 t24 fun t25 pot_here26 =>
  q_law_take pot_here26 (.int 4) fun t27 pot_here28 =>
  oIx (.list [t25, (.int 0), bottom23, (.int 1)]) t27 fun top29 =>
  q_law_number pot_here28 (.int 1000) fun heads30 pot_here31 =>
  oPow (.int 10) (.int 9) fun t32 =>
  q_law_number pot_here31 t32 fun n33 pot_here34 =>
  q_law_fraction top29 bottom23 fun f35 =>
  K (.tuple [gross2, charges10, rate15, heads30, n33, f35]) pot_here34
def qb_law_more_right_2 (d : PyData) (i : List PyData × PyData × PyData × PyData × PyData × PyData) (s : Unit) (sk : (List PyData × PyData × PyData × PyData × PyData × PyData) → Unit → Prop) (yd : PyData → (List PyData × PyData × PyData × PyData × PyData × PyData) → Unit → Prop) : Prop :=
  tupQ d fun r =>
  consQ r fun here' r1 =>
  consQ r1 fun more' r2 =>
  nilQ r2 (oLt more' here' fun t25 =>
  bT t25 fun b26 =>
  bIf b26
  (yd (.int 1) (i.1, i.2.1, i.2.2.1, i.2.2.2.1, i.2.2.2.2.1, i.2.2.2.2.2) ())
  (sk (i.1, i.2.1, i.2.2.1, i.2.2.2.1, i.2.2.2.2.1, i.2.2.2.2.2) ()))
def qb_law_more_right_1 (K : PyData → List PyData → Prop) (d : PyData) (i : List PyData × PyData × PyData × PyData) (s : Unit) (nx bk : (List PyData × PyData × PyData × PyData) → Unit → Prop) : Prop :=
  oAdd i.2.2.2 d fun t11 =>
  oPow (.int 10) (.int 12) fun t12 =>
  oLe t11 t12 fun t13 =>
  bT t13 fun b14 =>
  bIf b14
  (oAdd i.2.2.2 d fun t15 =>
  oSl i.2.1 (some 1) none fun l16 =>
  oAdd (.tuple [t15]) l16 fun t17 =>
  q_purse_of t17 fun there18 =>
  nSum [there18] fun t19 =>
  nSum [i.2.2.1] fun t20 =>
  oAdd t20 d fun t21 =>
  oNe t19 t21 fun t22 =>
  bT t22 fun b23 =>
  tOr b23 (fun k32 => zipQ [i.2.2.1, there18] fun l24 =>
  qLc qb_law_more_right_2 (i.1, i.2.1, i.2.2.1, i.2.2.2, d, there18) l24 [] () fun l27 s29 =>
  oNe (.list l27) (.list []) fun t30 =>
  bT t30 fun b31 =>
  k32 b31) fun b33 =>
  bIf b33
  (K (.bool false) i.1)
  (nx (i.1, i.2.1, i.2.2.1, i.2.2.2) ()))
  (nx (i.1, i.2.1, i.2.2.1, i.2.2.2) ())
def q_law_more_right (pot_here : List PyData) (sale_here : PyData) (told : PyData) (K : PyData → List PyData → Prop) : Prop :=
  oIx sale_here (.int 0) fun gross1 =>
  q_law_take pot_here (.int 9) fun t2 pot_here3 =>
  oAdd (.int 1) t2 fun t4 =>
  oPow (.int 10) (.int 9) fun t5 =>
  q_law_take pot_here3 t5 fun t6 pot_here7 =>
  oPow (.int 10) (.int 12) fun t8 =>
  oSub t8 gross1 fun t9 =>
  itemsQ (.list [(.int 1), t4, t6, t9]) fun l10 =>
  qFor (qb_law_more_right_1 K) (pot_here7, sale_here, told, gross1) l10 () fun s35 =>
  K (.bool true) pot_here7
def q_law_least_right (sale_here : PyData) (told : PyData) (K : PyData → Prop) : Prop :=
  oIx told (.int 3) fun t1 =>
  q_least_gross sale_here t1 fun least2 =>
  oIsN least2 fun t3 =>
  bT t3 fun b4 =>
  tOr b4 (fun k8 => oIx sale_here (.int 0) fun t5 =>
  oGt least2 t5 fun t6 =>
  bT t6 fun b7 =>
  k8 b7) fun b9 =>
  bIf b9
  (K (.bool false))
  (oSl sale_here (some 1) none fun l10 =>
  oAdd (.tuple [least2]) l10 fun other11 =>
  q_purse_of other11 fun there12 =>
  oIx there12 (.int 3) fun t13 =>
  oIx told (.int 3) fun t14 =>
  oLt t13 t14 fun t15 =>
  bT t15 fun b16 =>
  tOr b16 (fun k25 => oGt least2 (.int 0) fun t17 =>
  bT t17 fun b18 =>
  tAnd b18 (fun k23 => oIx there12 (.int 3) fun t19 =>
  oIx told (.int 3) fun t20 =>
  oNe t19 t20 fun t21 =>
  bT t21 fun b22 =>
  k23 b22) fun b24 =>
  k25 b24) fun b26 =>
  bIf b26
  (K (.bool false))
  (oGt least2 (.int 0) fun t27 =>
  bT t27 fun b28 =>
  tAnd b28 (fun k37 => oSub least2 (.int 1) fun t29 =>
  oSl sale_here (some 1) none fun l30 =>
  oAdd (.tuple [t29]) l30 fun t31 =>
  q_purse_of t31 fun p32 =>
  oIx p32 (.int 3) fun t33 =>
  oIx told (.int 3) fun t34 =>
  oGe t33 t34 fun t35 =>
  bT t35 fun b36 =>
  k37 b36) fun b38 =>
  bIf b38
  (K (.bool false))
  (oIx told (.int 3) fun t39 =>
  oAdd t39 (.int 1) fun t40 =>
  q_least_gross sale_here t40 fun more41 =>
  oIx told (.int 3) fun t42 =>
  q_least_gross other11 t42 fun l43 =>
  oEq l43 least2 fun t44 =>
  bT t44 fun b45 =>
  vAnd b45 (fun k52 => oIsN more41 fun t46 =>
  bT t46 fun b47 =>
  vOr b47 (fun k50 => oIx sale_here (.int 0) fun t48 =>
  oGt more41 t48 fun t49 =>
  k50 t49) fun t51 =>
  k52 t51) fun t53 =>
  K t53)))
def qb_law_2 (d : PyData) (i : PyData) (s : List PyData) (sk : PyData → (List PyData) → Prop) (yd : PyData → PyData → (List PyData) → Prop) : Prop :=
  q_law_sale s fun s7 pot_here8 =>
  yd s7 i pot_here8
def qb_law_3 (d : PyData) (i : PyData × List PyData × PyData) (s : Unit) (sk : (PyData × List PyData × PyData) → Unit → Prop) (yd : PyData → (PyData × List PyData × PyData) → Unit → Prop) : Prop :=
  q_purse_of d fun p13 =>
  yd p13 (i.1, i.2.1, i.2.2) ()
def qb_law_4 (K : PyData → Prop) (d : PyData) (i : PyData) (s : List PyData) (nx bk : PyData → (List PyData) → Prop) : Prop :=
  tupQ d fun r20 =>
  consQ r20 fun sale_here21 r22 =>
  consQ r22 fun here23 r24 =>
  nilQ r24 (q_law_least_right sale_here21 here23 fun l25 =>
  bT l25 fun b26 =>
  jn (fun k35 => bIf (!b26) (k35 true s) (q_law_more_right s sale_here21 here23 fun m27 pot_here28 =>
  bT m27 fun b29 =>
  tOr (!b29) (fun k33 => q_purse_of sale_here21 fun p30 =>
  oNe p30 here23 fun t31 =>
  bT t31 fun b32 =>
  k33 b32) fun b34 =>
  k35 b34 pot_here28)) fun b36 pot_here37 =>
  bIf b36
  (K (.bool false))
  (nx i pot_here37))
def qb_law_1 (K : PyData → Prop) (d : PyData) (i : PyData) (s : Unit) (nx bk : PyData → Unit → Prop) : Prop :=
  q_law_pot i d fun pot_here5 =>
  rng1 [(.int 3)] fun l6 =>
  qLc qb_law_2 i l6 [] pot_here5 fun l9 s11 =>
  itemsQ (.list l9) fun l12 =>
  qLc qb_law_3 (i, s11, (.list l9)) l12 [] () fun l14 s16 =>
  oRev (.list l9) fun l17 =>
  oRev (.list l14) fun l18 =>
  zipQ [l17, l18] fun l19 =>
  qFor (qb_law_4 K) i l19 s11 fun s39 =>
  nx i ()
def q_law (script : PyData) (K : PyData → Prop) : Prop :=
  nLen [script] fun t1 =>
  nMin2 [t1, (.int 20)] fun t2 =>
  oAdd t2 (.int 1) fun t3 =>
  rng1 [t3] fun l4 =>
  qFor (qb_law_1 K) script l4 () fun s41 =>
  K (.bool true)
local macro_rules | `(tactic| walk_at "q") => `(tactic| simp only [q_bT, q_add, q_addT, q_addL, q_addS, q_sub, q_mul, q_mulT, q_div, q_mod, q_pow, q_neg, q_lt, q_le, q_gt, q_ge, q_oI, q_eq, q_ne, q_eqS, q_neS, q_isN, q_isNi, q_isNt, q_isNs, q_notN, q_notNi, q_notNt, q_ix, q_ixL, q_ixQ, q_len, q_lenT, q_lenS, q_abs, q_min, q_max, q_tupleOf, q_tupleOfT, q_int, q_intB, q_list, q_listT, q_tup, q_cons, q_nil, q_so, q_lst, q_items, q_itemsT, q_rev, q_zip, q_zipT, q_rng1, q_rng2, q_sumI, q_sumTI, q_allB, q_anyB, q_ap, q_jn, q_same, q_tAnd_k, q_tOr_k, q_vAnd_k, q_vOr_k, q_tAnd_s, q_tOr_s, q_vAnd_s, q_vOr_s, q_vIf_k, q_tAnd_t, q_tAnd_f, q_tOr_t, q_tOr_f, q_vAnd_t, q_vAnd_f, q_vOr_t, q_vOr_f, q_vIf_t, q_vIf_f, at0, at1, at2, at3, at4, at5, at6, atLast, st0, st1, st2, st3, st4, bIf_t, bIf_f, true_and, and_true, Bool.not_true, Bool.not_false, Bool.true_and, Bool.false_and, Bool.and_true, Bool.and_false, Bool.true_or, Bool.or_true, Bool.false_or, Bool.or_false, Bool.not_not, decide_true, decide_false, List.length_cons, List.cons_append, List.nil_append, List.length_nil, List.length_map, List.length_append, isi_non_int, isi_non_bool, isi_non_str, isi_non_list, isi_non_tuple, isi_non_dict, isi_bl_int, isi_bl_bool, isi_bl_str, isi_bl_list, isi_bl_tuple, isi_bl_dict, isi_int_int, isi_int_bool, isi_int_str, isi_int_list, isi_int_tuple, isi_int_dict, isi_str_int, isi_str_bool, isi_str_str, isi_str_list, isi_str_tuple, isi_str_dict, isi_lst_int, isi_lst_bool, isi_lst_str, isi_lst_list, isi_lst_tuple, isi_lst_dict, isi_tup_int, isi_tup_bool, isi_tup_str, isi_tup_list, isi_tup_tuple, isi_tup_dict, isi_dct_int, isi_dct_bool, isi_dct_str, isi_dct_list, isi_dct_tuple, isi_dct_dict])
local macro_rules | `(tactic| walk_at "side") => `(tactic| first | assumption | exact rfl | omega | exact sz_of (by omega) (by omega) | decide | (refine ⟨?_, ?_⟩ <;> walk_at "side"))
local macro_rules | `(tactic| walk_at "sides") => `(tactic| repeat ((with_reducible refine And.intro ?_ ?_); (· walk_at "side"); try walk_at "q"))
local macro_rules | `(tactic| walk_at "go") => `(tactic| ((try walk_at "q"); walk_at "sides"))
def isW : PyData → Bool
  | .int _ => true
  | _ => false
def isIn (a : PyData) (l m : Int) : Bool := match a with
  | .int i => decide (l ≤ i) && decide (i ≤ m)
  | _ => false
def areW (a : PyData) (n : Int) : Bool := match a with
  | .tuple ds => decide ((ds.length : Int) = n) && ds.all isW
  | _ => false
def isFr (a : PyData) : Bool := match a with
  | .tuple [.int p, .int q] => decide (0 < q) && decide (Int.gcd p q = 1)
  | _ => false
def isPart (a : PyData) : Bool := match a with
  | .tuple [.int p, .int q] => isFr a && (decide (0 ≤ p) && decide (p ≤ q))
  | _ => false
structure Sale (g c r h b p q : Int) : Prop where
  g0 : 0 ≤ g
  g1 : g ≤ 10 ^ 12
  c0 : 0 ≤ c
  c1 : c ≤ 10 ^ 12
  r0 : 0 ≤ r
  r1 : r ≤ 10000
  h0 : 0 ≤ h
  h1 : h ≤ 1000
  b0 : 0 ≤ b
  b1 : b ≤ 10 ^ 9
  p0 : 0 ≤ p
  pq : p ≤ q
  q0 : 0 < q
  q1 : q ≤ 10 ^ 40
  co : Int.gcd p q = 1
structure SaleB (g c r h b p q : Int) : Prop where
  g0 : 0 ≤ g
  g1 : g ≤ 10 ^ 70
  c0 : 0 ≤ c
  c1 : c ≤ 10 ^ 12
  r0 : 0 ≤ r
  r1 : r ≤ 10000
  h0 : 0 ≤ h
  h1 : h ≤ 1000
  b0 : 0 ≤ b
  b1 : b ≤ 10 ^ 9
  p0 : 0 ≤ p
  pq : p ≤ q
  q0 : 0 < q
  q1 : q ≤ 10 ^ 40
theorem Sale.B {g c r h b p q : Int} (s : Sale g c r h b p q) : SaleB g c r h b p q := ⟨s.g0, Int.le_trans s.g1 (by decide), s.c0, s.c1, s.r0, s.r1, s.h0, s.h1, s.b0, s.b1, s.p0, s.pq, s.q0, s.q1⟩
def saleD (g c r h b p q : Int) : PyData := .tuple [.int g, .int c, .int r, .int h, .int b, .tuple [.int p, .int q]]
def paid (g c : Int) : Int := if g < c then g else c
def caps (g c p q : Int) : Int := (g - paid g c) * p / q
def pot (g c h b p q : Int) : Int := caps g c p q + h * b
def fee (g c r h b p q : Int) : Int := pot g c h b p q * r / 10000
def purseD (g c r h b p q : Int) : PyData := .tuple [.int (paid g c), .int (g - paid g c - caps g c p q), .int (fee g c r h b p q), .int (pot g c h b p q - fee g c r h b p q)]
def PotOk (n : Int) (xs : List PyData) : Prop := ∃ g s t : Int, xs = [.int g, .int s, .int t] ∧ 0 ≤ s ∧ s ≤ 10 ^ 12 ∧ 0 ≤ t ∧ t ≤ n
theorem PotOk.mono {n m : Int} {xs : List PyData} (h : PotOk n xs) (e : n ≤ m) : PotOk m xs := by
  obtain ⟨g, s, t, h1, h2, h3, h4, h5⟩ := h
  exact ⟨g, s, t, h1, h2, h3, h4, by omega⟩
theorem gcd_step (i j : Int) (h0 : 0 < j) (hi : 0 ≤ i) : Int.gcd j (i % j) = Int.gcd i j := by
  obtain ⟨a, rfl⟩ := Int.eq_ofNat_of_zero_le hi
  obtain ⟨b, rfl⟩ := Int.eq_ofNat_of_zero_le (Int.le_of_lt h0)
  have e : ((a : Int) % (b : Int)) = ((a % b : Nat) : Int) := by simp
  rw [e]
  show Nat.gcd b (a % b) = Nat.gcd a b
  rw [Nat.gcd_comm a b, Nat.gcd_comm b (a % b)]
  exact (Nat.gcd_rec b a).symm
theorem part_true {p q : Int} (h0 : 0 ≤ p) (h1 : p ≤ q) (h2 : 0 < q) (h3 : Int.gcd p q = 1) : isPart (.tuple [.int p, .int q]) = true := by
  simp [isPart, isFr, h0, h1, h2, h3]
theorem caps_le {x p q : Int} (h0 : 0 ≤ x) (h1 : 0 ≤ p) (h2 : p ≤ q) (h3 : 0 < q) : 0 ≤ x * p / q ∧ x * p / q ≤ x := by
  refine ⟨Int.ediv_nonneg (Int.mul_nonneg h0 h1) (by omega), ?_⟩
  have : x * p ≤ x * q := Int.mul_le_mul_of_nonneg_left h2 h0
  exact Int.le_trans (Int.ediv_le_ediv h3 this) (by rw [Int.mul_ediv_cancel _ (by omega)]; exact Int.le_refl x)
theorem paid_in {g c : Int} (h0 : 0 ≤ g) (h1 : 0 ≤ c) : 0 ≤ paid g c ∧ paid g c ≤ g := by
  unfold paid
  split <;> omega
theorem sale_caps {g c r h b p q : Int} (s : Sale g c r h b p q) : 0 ≤ caps g c p q ∧ caps g c p q ≤ 10 ^ 12 := by
  have h1 := paid_in s.g0 s.c0
  have h2 := s.g1
  have h3 := caps_le (x := g - paid g c) (by omega) s.p0 s.pq s.q0
  unfold caps
  constructor
  · exact h3.1
  · exact Int.le_trans h3.2 (by omega)
theorem sale_pot {g c r h b p q : Int} (s : Sale g c r h b p q) : 0 ≤ pot g c h b p q ∧ pot g c h b p q ≤ 10 ^ 13 := by
  have h1 := sale_caps s
  have h2 : 0 ≤ h * b := Int.mul_nonneg s.h0 s.b0
  have h3 : h * b ≤ 1000 * 10 ^ 9 := Int.mul_le_mul s.h1 s.b1 s.b0 (by decide)
  unfold pot
  constructor <;> omega
theorem sale_fee {g c r h b p q : Int} (s : Sale g c r h b p q) : 0 ≤ fee g c r h b p q ∧ fee g c r h b p q ≤ 10 ^ 13 := by
  have h1 := sale_pot s
  have h2 := caps_le (x := pot g c h b p q) h1.1 s.r0 s.r1 (by decide : (0 : Int) < 10000)
  unfold fee
  exact ⟨h2.1, Int.le_trans h2.2 h1.2⟩
theorem B_caps {g c r h b p q : Int} (s : SaleB g c r h b p q) : 0 ≤ caps g c p q ∧ caps g c p q ≤ 10 ^ 70 := by
  have h1 := paid_in s.g0 s.c0
  have h2 := s.g1
  have h3 := caps_le (x := g - paid g c) (by omega) s.p0 s.pq s.q0
  unfold caps
  constructor
  · exact h3.1
  · exact Int.le_trans h3.2 (by omega)
theorem B_pot {g c r h b p q : Int} (s : SaleB g c r h b p q) : 0 ≤ pot g c h b p q ∧ pot g c h b p q ≤ 10 ^ 71 := by
  have h1 := B_caps s
  have h2 : 0 ≤ h * b := Int.mul_nonneg s.h0 s.b0
  have h3 : h * b ≤ 1000 * 10 ^ 9 := Int.mul_le_mul s.h1 s.b1 s.b0 (by decide)
  unfold pot
  constructor <;> omega
theorem B_fee {g c r h b p q : Int} (s : SaleB g c r h b p q) : 0 ≤ fee g c r h b p q ∧ fee g c r h b p q ≤ 10 ^ 71 := by
  have h1 := B_pot s
  have h2 := caps_le (x := pot g c h b p q) h1.1 s.r0 s.r1 (by decide : (0 : Int) < 10000)
  unfold fee
  exact ⟨h2.1, Int.le_trans h2.2 h1.2⟩
theorem mem3 {α : Type} {x a b c : α} (h : x ∈ [a, b, c]) : x = a ∨ x = b ∨ x = c := by simpa using h
theorem mem4 {α : Type} {x a b c d : α} (h : x ∈ [a, b, c, d]) : x = a ∨ x = b ∨ x = c ∨ x = d := by simpa using h
theorem mem5 {α : Type} {x a b c d e : α} (h : x ∈ [a, b, c, d, e]) : x = a ∨ x = b ∨ x = c ∨ x = d ∨ x = e := by simpa using h
theorem gcd_one (p q : Int) (h0 : 0 ≤ p) (h1 : 0 < q) : Int.gcd (p / (Int.gcd p q : Nat)) (q / (Int.gcd p q : Nat)) = 1 := by
  obtain ⟨a, rfl⟩ := Int.eq_ofNat_of_zero_le h0
  obtain ⟨b, rfl⟩ := Int.eq_ofNat_of_zero_le (Int.le_of_lt h1)
  have hb : 0 < b := by omega
  have e1 : ((a : Int) / ((Int.gcd a b : Nat) : Int)) = ((a / Nat.gcd a b : Nat) : Int) := by
    show ((a : Int) / ((Nat.gcd a b : Nat) : Int)) = _
    simp
  have e2 : ((b : Int) / ((Int.gcd a b : Nat) : Int)) = ((b / Nat.gcd a b : Nat) : Int) := by
    show ((b : Int) / ((Nat.gcd a b : Nat) : Int)) = _
    simp
  rw [e1, e2]
  show Nat.gcd (a / Nat.gcd a b) (b / Nat.gcd a b) = 1
  rw [Nat.gcd_div (Nat.gcd_dvd_left a b) (Nat.gcd_dvd_right a b)]
  exact Nat.div_self (Nat.gcd_pos_of_pos_right a hb)
theorem purse_sum {g c r h b p q : Int} : [paid g c, g - paid g c - caps g c p q, fee g c r h b p q, pot g c h b p q - fee g c r h b p q].sum = g + h * b := by
  simp only [List.sum_cons, List.sum_nil]
  unfold pot
  omega
def leastPot (r n : Int) : PyData := if n = 0 then .int 0 else if r = 10000 then .none else .int ((n - 1) * 10000 / (10000 - r) + 1)
def leastGross (c r h b p q n : Int) : PyData := match leastPot r n with
  | .int m => if m - h * b ≤ 0 then .int 0 else if p = 0 then .none else .int (c + ((m - h * b) * q - 1) / p + 1)
  | _ => .none
def sharedOf (g c r h b p q : Int) : Int := pot g c h b p q - fee g c r h b p q
theorem keep_iff {x r n : Int} (h : r < 10000) : n ≤ x - x * r / 10000 ↔ (n - 1) * 10000 / (10000 - r) + 1 ≤ x := by
  have e : x * (10000 - r) = x * 10000 - x * r := by rw [Int.mul_sub]
  have h1 : (n - 1) * 10000 / (10000 - r) < x ↔ (n - 1) * 10000 < x * (10000 - r) := Int.ediv_lt_iff_lt_mul (by omega)
  constructor
  · intro h2
    have : (n - 1) * 10000 < x * (10000 - r) := by omega
    have := h1.mpr this
    omega
  · intro h2
    have := h1.mp (by omega)
    omega
theorem left_iff {x p q k : Int} (hp : 0 < p) (hq : 0 < q) : k ≤ x * p / q ↔ (k * q - 1) / p + 1 ≤ x := by
  have h1 : (k * q - 1) / p < x ↔ k * q - 1 < x * p := Int.ediv_lt_iff_lt_mul hp
  have h2 : k ≤ x * p / q ↔ k * q ≤ x * p := Int.le_ediv_iff_mul_le hq
  rw [h2]
  constructor
  · intro h
    have := h1.mpr (by omega)
    omega
  · intro h
    have := h1.mp (by omega)
    omega
theorem shared_iff {g c r h b p q n m : Int} (s : SaleB g c r h b p q) (n0 : 0 ≤ n) (lp : leastPot r n = .int m) : n ≤ sharedOf g c r h b p q ↔ m ≤ pot g c h b p q := by
  have hp := B_pot s
  have hf : fee g c r h b p q ≤ pot g c h b p q := by
    have := caps_le (x := pot g c h b p q) hp.1 s.r0 s.r1 (by decide : (0 : Int) < 10000)
    exact this.2
  unfold leastPot at lp
  split at lp
  · cases lp
    unfold sharedOf
    constructor <;> intro _ <;> omega
  · split at lp
    · cases lp
    · cases lp
      have hr := s.r1
      have := keep_iff (x := pot g c h b p q) (r := r) (n := n) (by omega)
      exact this
theorem pot_iff {g c h b p q m : Int} (g0 : 0 ≤ g) (c0 : 0 ≤ c) (hp : 0 < p) (hq : 0 < q) (hm : 0 < m - h * b) : m ≤ pot g c h b p q ↔ c + ((m - h * b) * q - 1) / p + 1 ≤ g := by
  have h1 := left_iff (x := g - paid g c) (k := m - h * b) hp hq
  have h2 : m ≤ pot g c h b p q ↔ m - h * b ≤ (g - paid g c) * p / q := by
    unfold pot caps
    constructor <;> intro _ <;> omega
  have h3 : 0 ≤ ((m - h * b) * q - 1) / p := Int.ediv_nonneg (by have := Int.mul_pos hm hq; omega) (by omega)
  have h4 : g - paid g c = if c ≤ g then g - c else 0 := by unfold paid; split <;> split <;> omega
  rw [h2, h1, h4]
  split <;> constructor <;> intro _ <;> omega
theorem right_law {g c r h b p q n : Int} (s : Sale g c r h b p q) (n0 : 0 ≤ n) (n1 : n ≤ 10 ^ 16) :
    (((r = 10000 ∧ 0 < n) ∨ (p = 0 ∧ sharedOf 0 c r h b p q < n)) ∧ leastGross c r h b p q n = .none) ∨
    (¬ (r = 10000 ∧ 0 < n) ∧ ¬ (p = 0 ∧ sharedOf 0 c r h b p q < n) ∧ ∃ t, leastGross c r h b p q n = .int t ∧ 0 ≤ t ∧ t ≤ 10 ^ 65 ∧ n ≤ sharedOf t c r h b p q ∧ (t = 0 ∨ sharedOf (t - 1) c r h b p q < n)) := by
  obtain ⟨g0, g1, c0, c1, r0, r1, e0, e1, b0, b1, p0, pq, q0, q1, co⟩ := id s
  have hb0 : 0 ≤ h * b := Int.mul_nonneg e0 b0
  have B : ∀ t, 0 ≤ t → t ≤ 10 ^ 70 → SaleB t c r h b p q := fun t t0 t1 => ⟨t0, t1, c0, c1, r0, r1, e0, e1, b0, b1, p0, pq, q0, q1⟩
  by_cases hr : r = 10000 ∧ 0 < n
  · refine .inl ⟨.inl hr, ?_⟩
    unfold leastGross leastPot
    rw [if_neg (by omega), if_pos hr.1]
  · have lp : ∃ m, leastPot r n = .int m ∧ 0 ≤ m ∧ m ≤ 10 ^ 21 := by
      unfold leastPot
      split
      · exact ⟨0, rfl, by omega, by omega⟩
      · rw [if_neg (by omega)]
        refine ⟨_, rfl, ?_, ?_⟩
        · have := Int.ediv_nonneg (a := (n - 1) * 10000) (b := 10000 - r) (by omega) (by omega)
          omega
        · have := Int.ediv_le_self (a := (n - 1) * 10000) (10000 - r) (by omega)
          omega
    obtain ⟨m, lp, m0, m1⟩ := lp
    have p00 : pot 0 c h b p q = h * b := by
      have : paid 0 c = 0 := by unfold paid; split <;> omega
      unfold pot caps
      rw [this]
      simp
    have iff0 := shared_iff (B 0 (by omega) (by decide)) n0 lp
    rw [p00] at iff0
    have lg : leastGross c r h b p q n = if m - h * b ≤ 0 then .int 0 else if p = 0 then .none else .int (c + ((m - h * b) * q - 1) / p + 1) := by
      unfold leastGross
      rw [lp]
    rw [lg]
    by_cases hm : m - h * b ≤ 0
    · rw [if_pos hm]
      have : n ≤ sharedOf 0 c r h b p q := iff0.mpr (by omega)
      exact .inr ⟨hr, by omega, 0, rfl, by omega, by decide, this, .inl rfl⟩
    · rw [if_neg hm]
      have h0 : sharedOf 0 c r h b p q < n := by
        have : ¬ n ≤ sharedOf 0 c r h b p q := fun z => by have := iff0.mp z; omega
        omega
      by_cases hp : p = 0
      · rw [if_pos hp]
        exact .inl ⟨.inr ⟨hp, h0⟩, rfl⟩
      · rw [if_neg hp]
        have hq1 : 0 < (m - h * b) * q := Int.mul_pos (by omega) q0
        have hq2 : (m - h * b) * q ≤ 10 ^ 21 * 10 ^ 40 := Int.mul_le_mul (by omega) q1 (by omega) (by decide)
        have hd0 : 0 ≤ ((m - h * b) * q - 1) / p := Int.ediv_nonneg (by omega) p0
        have hd1 := Int.ediv_le_self (a := (m - h * b) * q - 1) p (by omega)
        have ht0 : 0 ≤ c + ((m - h * b) * q - 1) / p + 1 := by omega
        have ht1 : c + ((m - h * b) * q - 1) / p + 1 ≤ 10 ^ 65 := by omega
        have i1 := (shared_iff (B _ ht0 (by omega)) n0 lp).trans (pot_iff ht0 c0 (by omega) q0 (by omega))
        have i2 := (shared_iff (B _ (show 0 ≤ c + ((m - h * b) * q - 1) / p + 1 - 1 by omega) (by omega)) n0 lp).trans (pot_iff (by omega) c0 (by omega) q0 (by omega))
        refine .inr ⟨hr, fun z => hp z.1, _, rfl, ht0, ht1, i1.mpr (Int.le_refl _), .inr ?_⟩
        have : ¬ n ≤ sharedOf (c + ((m - h * b) * q - 1) / p + 1 - 1) c r h b p q := fun z => by have := i2.mp z; omega
        omega
theorem mem7 {α : Type} {x a b c d e f g : α} (h : x ∈ [a, b, c, d, e, f, g]) : x = a ∨ x = b ∨ x = c ∨ x = d ∨ x = e ∨ x = f ∨ x = g := by simpa using h
theorem Sale.sh {g c r h b p q : Int} (s : Sale g c r h b p q) : 0 ≤ sharedOf g c r h b p q ∧ sharedOf g c r h b p q ≤ 10 ^ 13 := by
  have h1 := sale_pot s
  have h2 := caps_le (x := pot g c h b p q) h1.1 s.r0 s.r1 (by decide : (0 : Int) < 10000)
  unfold sharedOf fee
  omega
theorem Sale.zero {g c r h b p q : Int} (s : Sale g c r h b p q) : Sale 0 c r h b p q := ⟨by omega, by omega, s.c0, s.c1, s.r0, s.r1, s.h0, s.h1, s.b0, s.b1, s.p0, s.pq, s.q0, s.q1, s.co⟩
theorem least_iff {c r h b p q n t x : Int} (s : SaleB x c r h b p q) (n0 : 0 ≤ n) (e : leastGross c r h b p q n = .int t) : n ≤ sharedOf x c r h b p q ↔ t ≤ x := by
  unfold leastGross at e
  split at e
  · rename_i m lp
    have i1 := shared_iff s n0 lp
    rw [i1]
    have hb0 : 0 ≤ h * b := Int.mul_nonneg s.h0 s.b0
    have hx := s.g0
    split at e
    · cases e
      have := (B_caps s).1
      unfold pot
      constructor <;> intro _ <;> omega
    · split at e
      · cases e
      · cases e
        have := s.p0
        exact pot_iff s.g0 s.c0 (by omega) s.q0 (by omega)
  · cases e
theorem least_none {c r h b p q n x : Int} (s : SaleB x c r h b p q) (n0 : 0 ≤ n) (e : leastGross c r h b p q n = .none) : sharedOf x c r h b p q < n := by
  unfold leastGross at e
  split at e
  · rename_i m lp
    have i1 := shared_iff s n0 lp
    split at e
    · cases e
    · split at e
      · rename_i hp
        have : pot x c h b p q = h * b := by
          unfold pot caps
          rw [hp, Int.mul_zero, Int.zero_ediv]
          omega
        rw [this] at i1
        have : ¬ n ≤ sharedOf x c r h b p q := fun z => by have := i1.mp z; omega
        omega
      · cases e
  · rename_i lp
    have hr : r = 10000 ∧ n ≠ 0 := by
      unfold leastPot at lp
      split at lp
      · exact absurd rfl (lp 0)
      · split at lp
        · rename_i h1 h2
          exact ⟨h2, h1⟩
        · exact absurd rfl (lp _)
    have : sharedOf x c r h b p q = 0 := by
      unfold sharedOf fee
      rw [hr.1, Int.mul_ediv_cancel _ (by decide)]
      omega
    omega
theorem least_kind {c r h b p q n : Int} : leastGross c r h b p q n = .none ∨ ∃ t, leastGross c r h b p q n = .int t := by
  unfold leastGross
  split
  · split
    · exact .inr ⟨_, rfl⟩
    · split
      · exact .inl rfl
      · exact .inr ⟨_, rfl⟩
  · exact .inl rfl
theorem parts_rise {g k c r h b p q : Int} (s : SaleB g c r h b p q) (s2 : SaleB k c r h b p q) (hk : g ≤ k) :
    paid g c ≤ paid k c ∧ g - paid g c - caps g c p q ≤ k - paid k c - caps k c p q ∧ fee g c r h b p q ≤ fee k c r h b p q ∧ pot g c h b p q - fee g c r h b p q ≤ pot k c h b p q - fee k c r h b p q := by
  have rise : ∀ x y p q : Int, x ≤ y → 0 ≤ p → 0 < q → x * p / q ≤ y * p / q := fun x y p q h0 h1 h2 => Int.ediv_le_ediv h2 (Int.mul_le_mul_of_nonneg_right h0 h1)
  have slow : ∀ x y p q : Int, x ≤ y → 0 ≤ p → p ≤ q → 0 < q → x - x * p / q ≤ y - y * p / q := fun x y p q h0 h1 h2 h3 => by
    have e : y * p = x * p + (y - x) * p := by rw [Int.sub_mul]; omega
    have l : (y - x) * p ≤ (y - x) * q := Int.mul_le_mul_of_nonneg_left h2 (by omega)
    have : y * p / q ≤ (x * p + (y - x) * q) / q := Int.ediv_le_ediv h3 (by omega)
    rw [Int.add_mul_ediv_right _ _ (by omega)] at this
    omega
  have hl : g - paid g c ≤ k - paid k c := by unfold paid; split <;> split <;> omega
  have hc := rise _ _ p q hl s.p0 s.q0
  have hq : pot g c h b p q ≤ pot k c h b p q := by unfold pot caps; omega
  refine ⟨by unfold paid; split <;> split <;> omega, ?_, rise _ _ r 10000 hq s.r0 (by decide), slow _ _ r 10000 hq s.r0 s.r1 (by decide)⟩
  exact slow _ _ p q hl s.p0 s.pq s.q0
theorem is_whole_q (a : PyData) (K : PyData → Prop) : q_is_whole a K = K (.bool (isW a)) := by cases a <;> rfl
theorem is_within_q (a : PyData) (l m : Int) (K : PyData → Prop) : q_is_within a (.int l) (.int m) K = K (.bool (isIn a l m)) := by
  unfold q_is_within
  simp only [is_whole_q]
  cases a <;> simp only [isW, isIn] <;> walk_at "q"
def isFrom (a : PyData) (l : Int) : Bool := match a with
  | .int i => decide (l ≤ i)
  | _ => false
theorem is_from_q (a : PyData) (l : Int) (K : PyData → Prop) : q_is_from a (.int l) K = K (.bool (isFrom a l)) := by
  unfold q_is_from
  simp only [is_whole_q]
  cases a <;> simp only [isW, isFrom] <;> walk_at "q"
theorem need_number_q (n : Int) (h : 0 ≤ n) (K : PyData → Prop) : q_need_number (.int n) K = K .none := by
  unfold q_need_number
  simp only [is_from_q, isFrom, decide_eq_true h]
  walk_at "q"
def short (a : PyData) : Prop := match a with
  | .tuple ds => ds.length ≤ 100000
  | _ => True
theorem are_wholes_q (a : PyData) (n : Int) (hs : short a) (K : PyData → Prop) (h : K (.bool (areW a n))) : q_are_wholes a (.int n) K := by
  unfold q_are_wholes
  cases a with
  | tuple ds =>
    walk_at "q"
    by_cases hn : (ds.length : Int) = n
    · rw [decide_eq_true hn]
      walk_at "q"
      refine qLc_map (fun d => .bool (isW d)) hs (fun d hd sk yd hy => ?_) ?_
      · unfold qb_are_wholes_1
        rw [is_whole_q]
        exact hy
      · walk_at "q"
        have e : areW (.tuple ds) n = ds.all isW := by simp only [areW, hn, decide_true, Bool.true_and]
        rw [e] at h
        exact h
    · rw [decide_eq_false hn]
      walk_at "q"
      have e : areW (.tuple ds) n = false := by simp only [areW, hn, decide_false, Bool.false_and]
      rw [e] at h
      exact h
  | _ => walk_at "q"; exact h
theorem divisor_of_q (i j : Int) (K : PyData → Prop) (h : K (.int (Int.gcd i j : Nat))) : q_divisor_of (.int i) (.int j) K := by
  unfold q_divisor_of
  walk_at "q"
  have ea : (if i < 0 then -i else i) = (i.natAbs : Int) := by split <;> omega
  have eb : (if j < 0 then -j else j) = (j.natAbs : Int) := by split <;> omega
  rw [ea, eb]
  refine qWhile_ind (m := j.natAbs) (fun m s => ∃ a b : Int, s = (.int a, .int b) ∧ 0 ≤ a ∧ 0 ≤ b ∧ b.toNat = m ∧ Int.gcd a b = Int.gcd i j) ⟨_, _, rfl, by omega, by omega, by omega, by simp [Int.gcd]⟩ ?_
  rintro m _ nx ⟨a, b, rfl, ha, hb, hm, hg⟩ hn
  unfold qb_divisor_of_1
  walk_at "q"
  refine bIf_d (fun h0 => ?_) fun h0 => ?_
  · walk_at "go"
    have hm1 := Int.emod_lt_of_pos a h0
    have hm0 := Int.emod_nonneg a (by omega : b ≠ 0)
    exact hn (a % b).toNat _ (by omega) ⟨b, a % b, rfl, by omega, hm0, rfl, by rw [gcd_step a b h0 ha]; exact hg⟩
  · have e : b = 0 := by omega
    subst e
    have : Int.gcd a 0 = a.natAbs := Int.gcd_zero_right a
    rw [← hg, this] at h
    have e2 : ((a.natAbs : Nat) : Int) = a := by omega
    rw [e2] at h
    exact h
theorem is_fraction_q (a : PyData) (hs : short a) (K : PyData → Prop) (h : K (.bool (isFr a))) : q_is_fraction a K := by
  unfold q_is_fraction
  refine are_wholes_q a 2 hs _ ?_
  walk_at "q"
  cases e : areW a 2 with
  | false =>
    have : isFr a = false := by
      unfold isFr
      split
      · exact absurd e (by simp [areW, isW])
      · rfl
    rw [this] at h
    exact h
  | true =>
    obtain ⟨p, q, rfl⟩ : ∃ p q, a = .tuple [.int p, .int q] := by
      unfold areW at e
      split at e
      · rename_i ds
        simp only [Bool.and_eq_true, decide_eq_true_eq] at e
        obtain ⟨h1, h2⟩ := e
        match ds, h1, h2 with
        | [x, y], _, h2 =>
          simp only [List.all_cons, List.all_nil, Bool.and_true, Bool.and_eq_true] at h2
          cases x <;> cases y <;> first | exact ⟨_, _, rfl⟩ | (exfalso; have := h2.1; have := h2.2; simp [isW] at *)
        | [], h1, _ => simp at h1
        | [_], h1, _ => simp at h1
        | _ :: _ :: _ :: _, h1, _ => simp at h1; omega
      · cases e
    walk_at "q"
    by_cases h1 : 0 < q
    · rw [decide_eq_true h1]
      walk_at "q"
      refine divisor_of_q p q _ ?_
      walk_at "q"
      have e2 : isFr (.tuple [.int p, .int q]) = decide ((Int.gcd p q : Int) = 1) := by
        simp only [isFr, h1, decide_true, Bool.true_and]
        exact decide_eq_decide.mpr ⟨fun h => by omega, fun h => by omega⟩
      rw [e2] at h
      exact h
    · rw [decide_eq_false h1]
      walk_at "q"
      have e2 : isFr (.tuple [.int p, .int q]) = false := by simp only [isFr, h1, decide_false, Bool.false_and]
      rw [e2] at h
      exact h
theorem cut1 {a : PyData} {l : List PyData} : DL.cutD (a :: l) (some 1) none = l := by
  unfold DL.cutD HT.sIx
  simp
theorem is_part_q {p q : Int} (h0 : 0 ≤ p) (h1 : p ≤ q) (h2 : 0 < q) (h3 : Int.gcd p q = 1) (K : PyData → Prop) (h : K (.bool true)) : q_is_part (.tuple [.int p, .int q]) K := by
  unfold q_is_part
  refine is_fraction_q _ (show short (.tuple [.int p, .int q]) from (by decide : 2 ≤ 100000)) _ ?_
  have : isFr (.tuple [.int p, .int q]) = true := by simp only [isFr, decide_eq_true h2, decide_eq_true h3]; rfl
  rw [this]
  walk_at "q"
  rw [decide_eq_true h0, decide_eq_true h1]
  exact h
theorem within_t {x m : Int} (h0 : 0 ≤ x) (h1 : x ≤ m) : isIn (.int x) 0 m = true := by simp only [isIn, decide_eq_true h0, decide_eq_true h1]; rfl
theorem is_sale_q {g c r h b p q : Int} (s : Sale g c r h b p q) (K : PyData → Prop) (hK : K (.bool true)) : q_is_sale (saleD g c r h b p q) K := by
  unfold q_is_sale saleD
  walk_at "q"
  rw [decide_eq_true (show (((0 + 1 + 1 + 1 + 1 + 1 + 1 : Nat) : Int) = 6) by rfl)]
  walk_at "q"
  refine is_part_q s.p0 s.pq s.q0 s.co _ ?_
  walk_at "q"
  refine qLc_map (fun _ => .bool true) (by simp [zipD]) (fun d hd sk yd hy => ?_) ?_
  · have in_ : ∀ x m : Int, 0 ≤ x → x ≤ m → qb_is_sale_1 (.tuple [.int x, .int m]) (saleD g c r h b p q, .tuple [.int 1000000000000, .int 1000000000000, .int 10000, .int 1000, .int 1000000000]) () sk yd := fun x m h0 h1 => by
      unfold qb_is_sale_1
      walk_at "q"
      rw [is_within_q, within_t h0 h1]
      exact hy
    simp only [zipD, List.mem_cons, List.not_mem_nil, or_false] at hd
    rcases hd with rfl | rfl | rfl | rfl | rfl
    · exact in_ _ _ s.g0 s.g1
    · exact in_ _ _ s.c0 s.c1
    · exact in_ _ _ s.r0 s.r1
    · exact in_ _ _ s.h0 s.h1
    · exact in_ _ _ s.b0 s.b1
  · exact hK
theorem need_sale_q {g c r h b p q : Int} (s : Sale g c r h b p q) (K : PyData → Prop) (hK : K .none) : q_need_sale (saleD g c r h b p q) K := by
  unfold q_need_sale
  refine is_sale_q s _ ?_
  walk_at "q"
  exact hK
theorem purse_of_q {g c r h b p q : Int} (s : Sale g c r h b p q) (K : PyData → Prop) (hK : K (purseD g c r h b p q)) : q_purse_of (saleD g c r h b p q) K := by
  unfold q_purse_of
  refine need_sale_q s _ ?_
  unfold saleD
  have k1 := paid_in s.g0 s.c0
  have k2 := sale_caps s
  have k3 := sale_pot s
  obtain ⟨g0, g1, c0, c1, r0, r1, e0, e1, b0, b1, p0, pq, q0, q1, co⟩ := id s
  walk_at "q"
  have e : (if g < c then g else c) = paid g c := rfl
  have e2 : (g - paid g c) * p / q = caps g c p q := rfl
  have e3 : caps g c p q + h * b = pot g c h b p q := rfl
  rw [e, e2, e3]
  walk_at "sides"
  exact hK
theorem least_pot_q {r n : Int} (r0 : 0 ≤ r) (r1 : r ≤ 10000) (n0 : 0 ≤ n) (n1 : n ≤ 10 ^ 16) (K : PyData → Prop) (hK : K (leastPot r n)) : q_least_pot (.int r) (.int n) K := by
  unfold q_least_pot
  walk_at "q"
  unfold leastPot at hK
  by_cases h1 : n = 0
  · rw [decide_eq_true h1]
    rw [if_pos h1] at hK
    exact hK
  · rw [decide_eq_false h1]
    rw [if_neg h1] at hK
    walk_at "q"
    by_cases h2 : r = 10000
    · rw [decide_eq_true h2]
      rw [if_pos h2] at hK
      exact hK
    · rw [decide_eq_false h2]
      rw [if_neg h2] at hK
      walk_at "go"
      exact hK
theorem least_gross_q {g c r h b p q n : Int} (s : Sale g c r h b p q) (n0 : 0 ≤ n) (n1 : n ≤ 10 ^ 16) (K : PyData → Prop) (hK : K (leastGross c r h b p q n)) : q_least_gross (saleD g c r h b p q) (.int n) K := by
  unfold q_least_gross
  refine need_sale_q s _ ?_
  rw [need_number_q n n0]
  unfold saleD
  walk_at "q"
  obtain ⟨g0, g1, c0, c1, r0, r1, e0, e1, b0, b1, p0, pq, q0, q1, co⟩ := id s
  refine least_pot_q r0 r1 n0 n1 _ ?_
  unfold leastGross at hK
  have lp : leastPot r n = .none ∨ ∃ m, leastPot r n = .int m ∧ 0 ≤ m ∧ m ≤ 10 ^ 21 := by
    unfold leastPot
    split
    · exact .inr ⟨0, rfl, by omega, by omega⟩
    · split
      · exact .inl rfl
      · refine .inr ⟨_, rfl, ?_, ?_⟩
        · have := Int.ediv_nonneg (a := (n - 1) * 10000) (b := 10000 - r) (by omega) (by omega)
          omega
        · have := Int.ediv_le_self (a := (n - 1) * 10000) (10000 - r) (by omega)
          omega
  have hb0 : 0 ≤ h * b := Int.mul_nonneg e0 b0
  have hb1 : h * b ≤ 1000 * 10 ^ 9 := Int.mul_le_mul e1 b1 b0 (by decide)
  rcases lp with lp | ⟨m, lp, m0, m1⟩
  · rw [lp] at hK ⊢
    walk_at "q"
    exact hK
  · rw [lp] at hK ⊢
    dsimp only at hK
    walk_at "go"
    by_cases h1 : m - h * b ≤ 0
    · rw [decide_eq_true h1]
      rw [if_pos h1] at hK
      exact hK
    · rw [decide_eq_false h1]
      rw [if_neg h1] at hK
      walk_at "q"
      by_cases h2 : p = 0
      · rw [decide_eq_true h2]
        rw [if_pos h2] at hK
        exact hK
      · rw [decide_eq_false h2]
        rw [if_neg h2] at hK
        walk_at "go"
        exact hK
theorem law_pot_q (ns : List Int) (hn : ns.length ≤ 63) (k : Int) (k0 : 0 ≤ k) (k1 : k ≤ 1000) (K : List PyData → Prop) (h : ∀ xs, PotOk 0 xs → K xs) : q_law_pot (.list (ns.map .int)) (.int k) K := by
  unfold q_law_pot
  walk_at "q"
  refine ⟨by walk_at "side", ?_⟩
  have fin : ∀ c : Int, ((Sz 10 ∧ 0 ≤ (18 : Int) ∧ (18 : Int) ≤ 10000) ∧ (Sz 10 ∧ 0 ≤ (60 : Int) ∧ (60 : Int) ≤ 10000) ∧ (Sz (10 ^ Int.toNat 60) ∧ 0 ≤ (10 : Int) ∧ (10 : Int) ≤ 10000) ∧ (0 : Int) < (10 ^ Int.toNat 60) ^ Int.toNat 10 ∧
      (0 : Int) < 2147483629 ∧ (Sz 9973 ∧ Sz k) ∧ K [.int ((if c - 10 ^ Int.toNat 18 > 0 then c - 10 ^ Int.toNat 18 else 0) % (10 ^ Int.toNat 60) ^ Int.toNat 10), .int (c % 2147483629 + 9973 * k), .int 0]) := fun c => by
    have z := sz_of (i := 10) (by decide) (by decide)
    have b1 := Int.emod_nonneg c (by decide : (2147483629 : Int) ≠ 0)
    have b2 := Int.emod_lt_of_pos c (by decide : (0 : Int) < 2147483629)
    refine ⟨⟨z, by decide, by decide⟩, ⟨z, by decide, by decide⟩, ⟨sz_of (by decide) (by decide), by decide, by decide⟩, by decide +kernel, by decide, ⟨sz_of (by decide) (by decide), sz_of (by omega) (by omega)⟩, ?_⟩
    exact h _ ⟨_, _, _, rfl, by omega, by omega, by decide, by decide⟩
  refine bIf_d (fun hk => ?_) fun hk => fin _
  refine pick_mem k0 (by simpa using hk) fun d mem => ?_
  obtain ⟨c, _, rfl⟩ := List.mem_map.mp mem
  exact fin c
theorem law_take_q {n m : Int} {xs : List PyData} (hp : PotOk n xs) (hn : n ≤ 10 ^ 6) (m0 : 0 < m) (m1 : m ≤ 10 ^ 50) (K : PyData → List PyData → Prop) (h : ∀ r xs', 0 ≤ r → r < m → PotOk (n + 1) xs' → K (.int r) xs') : q_law_take xs (.int m) K := by
  obtain ⟨g, s, t, rfl, s0, s1, t0, t1⟩ := hp
  unfold q_law_take
  walk_at "q"
  refine bIf_d (fun h0 => ?_) fun h0 => ?_
  · walk_at "sides"
    exact h _ _ (Int.emod_nonneg _ (by omega)) (Int.emod_lt_of_pos _ m0) ⟨_, s, t, rfl, s0, s1, t0, by omega⟩
  · have b1 := Int.emod_nonneg ((s + 104729 * (t + 1) + 11) ^ Int.toNat 5) (by decide : (2147483647 : Int) ≠ 0)
    have b2 := Int.emod_lt_of_pos ((s + 104729 * (t + 1) + 11) ^ Int.toNat 5) (by decide : (0 : Int) < 2147483647)
    generalize (s + 104729 * (t + 1) + 11) ^ Int.toNat 5 % 2147483647 = A at b1 b2 ⊢
    have q1 : (7919 * (t + 1)) * (t + 1) ≤ (7919 * (10 ^ 6 + 1)) * (10 ^ 6 + 1) := Int.mul_le_mul (by omega) (by omega) (by omega) (by decide)
    have q0 : 0 ≤ (7919 * (t + 1)) * (t + 1) := Int.mul_nonneg (by omega) (by omega)
    have b3 := Int.emod_nonneg ((A / 8 + 7919 * (t + 1) * (t + 1) + 3) ^ Int.toNat 3) (by decide : (2147483587 : Int) ≠ 0)
    have b4 := Int.emod_lt_of_pos ((A / 8 + 7919 * (t + 1) * (t + 1) + 3) ^ Int.toNat 3) (by decide : (0 : Int) < 2147483587)
    generalize 7919 * (t + 1) * (t + 1) = B at q0 q1 b3 b4 ⊢
    generalize (A / 8 + B + 3) ^ Int.toNat 3 % 2147483587 = C at b3 b4 ⊢
    walk_at "sides"
    exact h _ _ (Int.emod_nonneg _ (by omega)) (Int.emod_lt_of_pos _ m0) ⟨g, s, t + 1, rfl, s0, s1, by omega, by omega⟩
theorem law_fraction_q {p q : Int} (p0 : 0 ≤ p) (q0 : 0 < q) (q1 : q ≤ 10 ^ 50) (K : PyData → Prop) (h : K (.tuple [.int (p / (Int.gcd p q : Nat)), .int (q / (Int.gcd p q : Nat))])) : q_law_fraction (.int p) (.int q) K := by
  unfold q_law_fraction
  walk_at "q"
  rw [if_neg (show ¬ p < 0 by omega)]
  refine qWhile_ind (m := q.toNat) (fun m s => ∃ a b : Int, s = (.int a, .int b) ∧ 0 ≤ a ∧ 0 ≤ b ∧ b.toNat = m ∧ Int.gcd a b = Int.gcd p q) ⟨_, _, rfl, p0, by omega, rfl, rfl⟩ ?_
  rintro m _ nx ⟨a, b, rfl, ha, hb, hm, hg⟩ hn
  unfold qb_law_fraction_1
  walk_at "q"
  refine bIf_d (fun h0 => ?_) fun h0 => ?_
  · walk_at "go"
    have hm1 := Int.emod_lt_of_pos a h0
    have hm0 := Int.emod_nonneg a (by omega : b ≠ 0)
    exact hn (a % b).toNat _ (by omega) ⟨b, a % b, rfl, by omega, hm0, rfl, by rw [gcd_step a b h0 ha]; exact hg⟩
  · have e : b = 0 := by omega
    subst e
    have e1 : Int.gcd a 0 = a.natAbs := Int.gcd_zero_right a
    have e2 : ((a.natAbs : Nat) : Int) = a := by omega
    have e3 : a = (Int.gcd p q : Nat) := by rw [← hg, e1, e2]
    have g0 : 0 < Int.gcd p q := Int.gcd_pos_of_ne_zero_right p (by omega)
    have g1 : (Int.gcd p q : Int) ≤ q := Int.le_of_dvd q0 (Int.gcd_dvd_right p q)
    rw [e3]
    walk_at "go"
    exact h
theorem law_number_q {n m : Int} {xs : List PyData} (hp : PotOk n xs) (hn : n ≤ 10 ^ 5) (m0 : 0 ≤ m) (m1 : m ≤ 10 ^ 40) (K : PyData → List PyData → Prop) (h : ∀ r xs', 0 ≤ r → r ≤ m → PotOk (n + 3) xs' → K (.int r) xs') : q_law_number xs (.int m) K := by
  unfold q_law_number
  walk_at "q"
  refine law_take_q hp (by omega) (by decide) (by decide) _ fun way xs1 w0 w1 hp => ?_
  refine law_take_q hp (by omega) (by decide) (by decide) _ fun few xs2 f0 f1 hp => ?_
  walk_at "q"
  refine law_take_q hp (by omega) (by omega) (by omega) _ fun r xs3 r0 r1 hp => ?_
  have b0 := Int.emod_nonneg few (by decide : (3 : Int) ≠ 0)
  have b1 := Int.emod_lt_of_pos few (by decide : (0 : Int) < 3)
  have c0 := Int.emod_nonneg few (by decide : (7 : Int) ≠ 0)
  have c1 := Int.emod_lt_of_pos few (by decide : (0 : Int) < 7)
  have z := sz_of (i := 10) (by decide) (by decide)
  have hp2 : PotOk (n + 3) xs3 := hp.mono (by omega)
  have fin : ∀ a : Int, 0 ≤ a → a ≤ m → K (.int a) xs3 := fun a a0 a1 => h a xs3 a0 a1 hp2
  walk_at "go"
  refine pick_mem c0 (by simpa using c1) fun d hd => ?_
  obtain ⟨c, rfl, k0⟩ : ∃ c : Int, d = .int c ∧ 0 ≤ c := by
    rcases mem7 hd with rfl | rfl | rfl | rfl | rfl | rfl | rfl <;> exact ⟨_, rfl, by decide⟩
  walk_at "q"
  refine pick_mem w0 (by simpa using w1) fun d hd => ?_
  rcases mem5 hd with rfl | rfl | rfl | rfl | rfl
  · exact fin _ (by decide) m0
  · exact fin _ (by split <;> omega) (by split <;> omega)
  · exact fin _ r0 (by omega)
  · exact fin _ (by split <;> omega) (by split <;> omega)
  · exact fin _ (by split <;> omega) (by split <;> omega)
theorem law_sale_q {n : Int} {xs : List PyData} (hp : PotOk n xs) (hn : n ≤ 10 ^ 4) (K : PyData → List PyData → Prop) (h : ∀ g c r h b p q xs', Sale g c r h b p q → PotOk (n + 30) xs' → K (saleD g c r h b p q) xs') : q_law_sale xs K := by
  unfold q_law_sale
  have z := sz_of (i := 10) (by decide) (by decide)
  walk_at "go"
  refine law_number_q hp (by omega) (by decide) (by decide) _ fun g xs g0 g1 hp => ?_
  have g2 : g ≤ (10 : Int) ^ 12 := g1
  walk_at "go"
  refine law_number_q hp (by omega) (by decide) (by decide) _ fun c1 xs c10 c11 hp => ?_
  have c12 : c1 ≤ (10 : Int) ^ 12 := c11
  walk_at "go"
  refine law_take_q hp (by omega) (by decide) (by decide) _ fun w xs w0 w1 hp => ?_
  walk_at "q"
  refine pick_mem w0 (by simpa using w1) fun d hd => ?_
  obtain ⟨c, rfl, c0, c1⟩ : ∃ c : Int, d = .int c ∧ 0 ≤ c ∧ c ≤ 10 ^ 12 := by
    rcases mem4 hd with rfl | rfl | rfl | rfl <;> exact ⟨_, rfl, by omega, by omega⟩
  clear hd
  refine law_take_q hp (by omega) (by decide) (by decide) _ fun r1 xs r10 r11 hp => ?_
  refine law_take_q hp (by omega) (by decide) (by decide) _ fun w xs w0 w1 hp => ?_
  walk_at "q"
  refine pick_mem w0 (by simpa using w1) fun d hd => ?_
  obtain ⟨r, rfl, r0, r1⟩ : ∃ c : Int, d = .int c ∧ 0 ≤ c ∧ c ≤ 10000 := by
    rcases mem5 hd with rfl | rfl | rfl | rfl | rfl <;> exact ⟨_, rfl, by omega, by omega⟩
  clear hd
  walk_at "go"
  refine law_take_q hp (by omega) (by decide) (by decide) _ fun w xs w0 w1 hp => ?_
  walk_at "q"
  refine pick_mem w0 (by simpa using w1) fun d hd => ?_
  obtain ⟨k, rfl, k0, k1⟩ : ∃ c : Int, d = .int c ∧ 0 ≤ c ∧ c ≤ 10 ^ 30 := by
    rcases mem3 hd with rfl | rfl | rfl <;> exact ⟨_, rfl, by decide, by decide⟩
  clear hd
  refine law_number_q hp (by omega) (by omega) (by omega) _ fun bt xs bt0 bt1 hp => ?_
  walk_at "q"
  refine law_take_q hp (by omega) (by omega) (by omega) _ fun t1 xs t10 t11 hp => ?_
  refine law_take_q hp (by omega) (by decide) (by decide) _ fun w xs w0 w1 hp => ?_
  walk_at "q"
  refine pick_mem w0 (by simpa using w1) fun d hd => ?_
  obtain ⟨t, rfl, t0, t1⟩ : ∃ c : Int, d = .int c ∧ 0 ≤ c ∧ c ≤ 1 + bt := by
    rcases mem4 hd with rfl | rfl | rfl | rfl <;> exact ⟨_, rfl, by omega, by omega⟩
  clear hd
  refine law_number_q hp (by omega) (by decide) (by decide) _ fun e xs e0 e1 hp => ?_
  walk_at "go"
  refine law_number_q hp (by omega) (by decide) (by decide) _ fun b xs b0 b1 hp => ?_
  refine law_fraction_q t0 (by omega) (by omega) _ ?_
  have gp : 0 < Int.gcd t (1 + bt) := Int.gcd_pos_of_ne_zero_right t (by omega)
  have gp' : (0 : Int) < (Int.gcd t (1 + bt) : Nat) := by omega
  refine h g c r e b (t / (Int.gcd t (1 + bt) : Nat)) ((1 + bt) / (Int.gcd t (1 + bt) : Nat)) xs ⟨g0, g2, c0, c1, r0, r1, e0, e1, b0, b1, Int.ediv_nonneg t0 (by omega), Int.ediv_le_ediv gp' t1, ?_, ?_, gcd_one t (1 + bt) t0 (by omega)⟩ (hp.mono (by omega))
  · have := Int.ediv_pos_of_pos_of_dvd (a := 1 + bt) (b := (Int.gcd t (1 + bt) : Nat)) (by omega) (by omega) (Int.gcd_dvd_right t (1 + bt))
    exact this
  · exact Int.le_trans (Int.ediv_le_self _ (by omega)) (by omega)
theorem law_least_right_q {g c r e b p q : Int} (s : Sale g c r e b p q) (K : PyData → Prop) (hK : K (.bool true)) : q_law_least_right (saleD g c r e b p q) (purseD g c r e b p q) K := by
  obtain ⟨g0, g1, c0, c1, r0, r1, e0, e1, b0, b1, p0, pq, q0, q1, co⟩ := id s
  have B : ∀ t, 0 ≤ t → t ≤ 10 ^ 70 → SaleB t c r e b p q := fun t t0 t1 => ⟨t0, t1, c0, c1, r0, r1, e0, e1, b0, b1, p0, pq, q0, q1⟩
  obtain ⟨z0, z1⟩ := s.sh
  generalize hn : sharedOf g c r e b p q = n at z0 z1
  have hn2 : pot g c e b p q - fee g c r e b p q = n := hn
  rcases right_law s z0 (by omega) with ⟨_, h2⟩ | ⟨_, _, t, h3, t0, t1, h4, h5⟩
  · have := least_none s.B z0 h2
    omega
  · have tg : t ≤ g := (least_iff s.B z0 h3).mp (by omega)
    have ht : 0 < t → sharedOf t c r e b p q = n ∧ sharedOf (t - 1) c r e b p q < n := fun hp => ⟨by
      have h6 : ¬ n + 1 ≤ sharedOf t c r e b p q := fun z => by
        rcases @least_kind c r e b p q (n + 1) with k | ⟨t2, k⟩
        · have := least_none (B t t0 (by omega)) (by omega) k
          omega
        · have k1 := (least_iff (B t t0 (by omega)) (by omega) k).mp z
          have k2 := (least_iff s.B (by omega) k).mpr (by omega)
          omega
      omega, h5.resolve_left (by omega)⟩
    have mk : leastGross c r e b p q (n + 1) = .none ∨ ∃ t2, leastGross c r e b p q (n + 1) = .int t2 ∧ g < t2 := by
      rcases @least_kind c r e b p q (n + 1) with k | ⟨t2, k⟩
      · exact .inl k
      · refine .inr ⟨t2, k, ?_⟩
        have k1 : ¬ t2 ≤ g := fun z => by have := (least_iff s.B (by omega) k).mpr z; omega
        omega
    have st : ∀ x, 0 ≤ x → x ≤ g → Sale x c r e b p q := fun x x0 x1 => ⟨x0, by omega, c0, c1, r0, r1, e0, e1, b0, b1, p0, pq, q0, q1, co⟩
    have shd : ∀ x, pot x c e b p q - fee x c r e b p q = sharedOf x c r e b p q := fun _ => rfl
    unfold q_law_least_right
    conv in (purseD g c r e b p q) => unfold purseD
    rw [hn2]
    walk_at "q"
    refine least_gross_q s z0 (by omega) _ ?_
    rw [h3]
    have e1 : oIx (saleD g c r e b p q) (.int 0) = fun K => K (.int g) := by
      funext K
      unfold saleD
      walk_at "q"
    have e2 : ∀ K, oSl (saleD g c r e b p q) (some 1) none K = K (.tuple [.int c, .int r, .int e, .int b, .tuple [.int p, .int q]]) := fun K => by
      unfold saleD oSl
      simp only [cut1]
    simp only [e1, e2]
    walk_at "q"
    rw [decide_eq_false (show ¬ g < t by omega)]
    walk_at "go"
    refine purse_of_q (st t t0 tg) _ ?_
    unfold purseD
    simp only [shd, hn]
    walk_at "q"
    rw [decide_eq_false (show ¬ sharedOf t c r e b p q < n by omega)]
    have e3 : (decide (0 < t) && !decide (sharedOf t c r e b p q = n)) = false := by
      by_cases hp : 0 < t
      · rw [decide_eq_true (ht hp).1]; simp
      · rw [decide_eq_false hp]; rfl
    rw [e3]
    walk_at "q"
    have fin : ∀ K2 : Prop, K (.bool true) → (q_least_gross (saleD g c r e b p q) (.int (n + 1)) fun more41 => q_least_gross (saleD t c r e b p q) (.int n) fun l43 => oEq l43 (.int t) fun t44 => bT t44 fun b45 =>
        vAnd b45 (fun k52 => oIsN more41 fun t46 => bT t46 fun b47 => vOr b47 (fun k50 => oGt more41 (.int g) fun t49 => k50 t49) fun t51 => k52 t51) fun t53 => K t53) := fun _ _ => by
      refine least_gross_q s (by omega) (by omega) _ ?_
      refine least_gross_q (st t t0 tg) z0 (by omega) _ ?_
      rw [h3]
      walk_at "q"
      rcases mk with mk | ⟨t2, mk, mg⟩
      · rw [mk]
        walk_at "q"
        exact hK
      · rw [mk]
        walk_at "q"
        rw [decide_eq_true mg]
        exact hK
    by_cases hp : 0 < t
    · rw [decide_eq_true hp]
      walk_at "go"
      refine purse_of_q (st (t - 1) (by omega) (by omega)) _ ?_
      unfold purseD
      simp only [shd, hn]
      walk_at "q"
      rw [decide_eq_false (show ¬ n ≤ sharedOf (t - 1) c r e b p q by have := (ht hp).2; omega)]
      exact fin True hK
    · rw [decide_eq_false hp]
      walk_at "q"
      exact fin True hK
theorem law_more_right_q {n g c r e b p q : Int} {xs : List PyData} (s : Sale g c r e b p q) (hp : PotOk n xs) (hn : n ≤ 10 ^ 5) (K : PyData → List PyData → Prop) (hK : ∀ xs', PotOk (n + 2) xs' → K (.bool true) xs') :
    q_law_more_right xs (saleD g c r e b p q) (purseD g c r e b p q) K := by
  obtain ⟨g0, g1, c0, c1, r0, r1, e0, e1, b0, b1, p0, pq, q0, q1, co⟩ := id s
  unfold q_law_more_right
  have ei : oIx (saleD g c r e b p q) (.int 0) = fun K => K (.int g) := by
    funext K
    unfold saleD
    walk_at "q"
  rw [ei]
  have z := sz_of (i := 10) (by decide) (by decide)
  refine law_take_q hp (by omega) (by decide) (by decide) _ fun t xs t0 t1 hp => ?_
  walk_at "go"
  refine law_take_q hp (by omega) (by decide) (by decide) _ fun u xs u0 u1 hp => ?_
  have u2 : u < (10 : Int) ^ 9 := u1
  walk_at "go"
  refine qFor_all (fun _ => True) trivial (fun d s' nx hd _ hnx => ?_) fun _ _ => hK _ (hp.mono (by omega))
  obtain ⟨k, rfl, k0, k1⟩ : ∃ k : Int, d = .int k ∧ 0 ≤ k ∧ k ≤ 10 ^ 12 := by
    rcases mem4 hd with rfl | rfl | rfl | rfl
    · exact ⟨_, rfl, by omega, by omega⟩
    · exact ⟨_, rfl, by omega, by omega⟩
    · exact ⟨_, rfl, by omega, by omega⟩
    · exact ⟨_, rfl, by show 0 ≤ (10 : Int) ^ 12 - g; omega, by show (10 : Int) ^ 12 - g ≤ _; omega⟩
  unfold qb_law_more_right_1
  walk_at "go"
  refine bIf_d (fun hk => ?_) fun hk => hnx _ trivial
  have hk : g + k ≤ (10 : Int) ^ 12 := hk
  have e2 : ∀ K, oSl (saleD g c r e b p q) (some 1) none K = K (.tuple [.int c, .int r, .int e, .int b, .tuple [.int p, .int q]]) := fun K => by
    unfold saleD oSl
    simp only [cut1]
  rw [e2]
  walk_at "go"
  have s2 : Sale (g + k) c r e b p q := ⟨by omega, by omega, c0, c1, r0, r1, e0, e1, b0, b1, p0, pq, q0, q1, co⟩
  refine purse_of_q s2 _ ?_
  obtain ⟨w1, w2, w3, w4⟩ := parts_rise s.B s2.B (show g ≤ g + k by omega)
  have i1 := @purse_sum g c r e b p q
  have i2 := @purse_sum (g + k) c r e b p q
  have sm : ∀ g, nSum [purseD g c r e b p q] = fun K => K (.int (g + e * b)) := fun g => by
    funext K
    rw [← @purse_sum g c r e b p q]
    rfl
  simp only [sm]
  walk_at "q"
  rw [decide_eq_true (show g + k + e * b = g + e * b + k by omega)]
  walk_at "q"
  unfold purseD
  walk_at "q"
  refine qLc_fmap (fun _ => none) (by simp [zipD]) (fun d hd sk yd _ hs => ?_) ?_
  · have up : ∀ x y i, x ≤ y → sk i () → (∀ j, i = j → sk j ()) → qb_law_more_right_2 (.tuple [.int x, .int y]) i () sk yd := fun x y i h h1 h2 => by
      unfold qb_law_more_right_2
      walk_at "q"
      rw [decide_eq_false (show ¬ y < x by omega)]
      exact h1
    simp only [zipD, List.mem_cons, List.not_mem_nil, or_false] at hd
    have hs := hs rfl
    rcases hd with rfl | rfl | rfl | rfl
    · exact up _ _ _ w1 hs fun j e => e ▸ hs
    · exact up _ _ _ w2 hs fun j e => e ▸ hs
    · exact up _ _ _ w3 hs fun j e => e ▸ hs
    · exact up _ _ _ w4 hs fun j e => e ▸ hs
  · have e0 : List.filterMap (fun _ => (none : Option PyData)) (zipD [.int (paid g c), .int (g - paid g c - caps g c p q), .int (fee g c r e b p q), .int (pot g c e b p q - fee g c r e b p q)] [.int (paid (g + k) c), .int (g + k - paid (g + k) c - caps (g + k) c p q), .int (fee (g + k) c r e b p q), .int (pot (g + k) c e b p q - fee (g + k) c r e b p q)]) = [] := rfl
    rw [e0]
    refine ne_same rfl rfl (by simp [PyData.eqv, PyData.eqvAll]) ?_
    walk_at "q"
    exact hnx _ trivial
theorem the_law (ns : List Int) (hn : ns.length ≤ 63) (K : PyData → Prop) (hK : K (.bool true)) : q_law (.list (ns.map .int)) K := by
  unfold q_law
  walk_at "q"
  have hb : (if (20 : Int) < (ns.length : Nat) then (20 : Int) else (ns.length : Nat)) + 1 ≤ 21 ∧ 0 ≤ (if (20 : Int) < (ns.length : Nat) then (20 : Int) else (ns.length : Nat)) + 1 := by split <;> omega
  generalize (if (20 : Int) < (ns.length : Nat) then (20 : Int) else (ns.length : Nat)) + 1 = m at hb
  refine ⟨by omega, ?_⟩
  refine qFor_range (fun _ _ => True) trivial (fun k s nx hk _ hnx => ?_) fun _ _ => hK
  unfold qb_law_1
  refine law_pot_q ns hn _ (by omega) (by omega) _ fun xs hp => ?_
  walk_at "go"
  rw [show rangeD 0 (Int.toNat 3) = [.int 0, .int 1, .int 2] from rfl]
  simp only [qLc, qb_law_2, q_same, List.nil_append, List.cons_append]
  refine law_sale_q hp (by omega) _ fun g c r e b p q xs s1 hp => ?_
  walk_at "go"
  refine law_sale_q hp (by omega) _ fun g2 c2 r2 e2 b2 p2 q2 xs s2 hp => ?_
  walk_at "go"
  refine law_sale_q hp (by omega) _ fun g3 c3 r3 e3 b3 p3 q3 xs s3 hp => ?_
  walk_at "go"
  simp only [qLc, qb_law_3, q_same, List.nil_append, List.cons_append]
  refine purse_of_q s1 _ ?_
  walk_at "go"
  refine purse_of_q s2 _ ?_
  walk_at "go"
  refine purse_of_q s3 _ ?_
  walk_at "go"
  simp only [List.reverse_cons, List.reverse_nil, List.nil_append, List.cons_append, zipD]
  refine qFor_ind (fun k s => PotOk (0 + 30 + 30 + 30 + 2 * k) s) (by simpa using hp) (fun k d s nx hd hp hnx2 => ?_) fun _ _ => hnx _ trivial
  have hk : k < 3 := (List.getElem?_eq_some_iff.mp hd).1
  have each : ∀ {g c r e b p q : Int}, Sale g c r e b p q → qb_law_4 K (.tuple [saleD g c r e b p q, purseD g c r e b p q]) (.list (ns.map .int)) s nx (same (.list (ns.map .int)) fun s39 => nx (.list (ns.map .int)) s) := fun {g c r e b p q} s1 => by
    unfold qb_law_4
    walk_at "q"
    refine law_least_right_q s1 _ ?_
    walk_at "q"
    refine law_more_right_q s1 hp (by omega) _ fun xs' hp' => ?_
    walk_at "q"
    refine purse_of_q s1 _ ?_
    refine ne_same rfl rfl (by simp [purseD, PyData.eqv, PyData.eqvAll]) ?_
    walk_at "q"
    exact hnx2 _ (hp'.mono (by omega))
  have hd := List.mem_of_getElem? hd
  rcases mem3 hd with rfl | rfl | rfl
  · exact each s3
  · exact each s2
  · exact each s1
abbrev prg : Program := PySem.Challenge.pw_prizelog_k47_whole_purses
def top (i : Nat) : Stmt := prg.main.body.getD i (.Pass ⟨0, 0, 0, 0⟩)
def fa : List He.Fa := [.free "isinstance", .free "int", .free "bool", .free "tuple", .free "len", .free "all", .free "abs", .free "zip", .free "min", .free "max", .free "sum", .free "range", .int "MOST_GROSS" 1000000000000, .int "MOST_RATE" 10000, .int "MOST_HEADS" 1000, .int "MOST_BOUNTY" 1000000000, .glo "is_whole", .glo "is_within", .glo "is_from", .glo "are_wholes", .glo "divisor_of", .glo "is_fraction", .glo "need_number", .glo "is_part", .glo "is_sale", .glo "need_sale", .glo "purse_of", .glo "least_pot", .glo "least_gross", .glo "_law_pot", .glo "_law_take", .glo "_law_fraction", .glo "_law_number", .glo "_law_sale", .glo "_law_more_right", .glo "_law_least_right", .glo "law", .keep "is_whole", .keep "is_within", .keep "is_from", .keep "are_wholes", .keep "divisor_of", .keep "is_fraction", .keep "need_number", .keep "is_part", .keep "is_sale", .keep "need_sale", .keep "purse_of", .keep "least_pot", .keep "least_gross", .keep "_law_pot", .keep "_law_take", .keep "_law_fraction", .keep "_law_number", .keep "_law_sale", .keep "_law_more_right", .keep "_law_least_right", .keep "law"]
def dD (x : Str) (i : Nat) : He.FnD := ⟨(x, none), x, x, defArgs (top i), defBody (top i), defScope (top i)⟩
def fn : List He.FnD := [dD "is_whole" 1, dD "is_within" 2, dD "is_from" 3, dD "are_wholes" 4, dD "divisor_of" 5, dD "is_fraction" 6, dD "need_number" 12, dD "is_part" 18, dD "is_sale" 19, dD "need_sale" 20, dD "purse_of" 21, dD "least_pot" 22, dD "least_gross" 23, dD "_law_pot" 25, dD "_law_take" 26, dD "_law_fraction" 27, dD "_law_number" 28, dD "_law_sale" 29, dD "_law_more_right" 30, dD "_law_least_right" 31, dD "law" 32]
abbrev Tp (K : PySem.W.Frag) (mg : Str → Option Value) : Prop := Top fa fn K mg
section
variable {K : PySem.W.Frag} {mg : Str → Option Value}
theorem m_isinstance (T : Tp K mg) : mg "isinstance" = none := T.free "isinstance" 0
theorem m_int (T : Tp K mg) : mg "int" = none := T.free "int" 1
theorem m_bool (T : Tp K mg) : mg "bool" = none := T.free "bool" 2
theorem m_tuple (T : Tp K mg) : mg "tuple" = none := T.free "tuple" 3
theorem m_len (T : Tp K mg) : mg "len" = none := T.free "len" 4
theorem m_all (T : Tp K mg) : mg "all" = none := T.free "all" 5
theorem m_abs (T : Tp K mg) : mg "abs" = none := T.free "abs" 6
theorem m_zip (T : Tp K mg) : mg "zip" = none := T.free "zip" 7
theorem m_min (T : Tp K mg) : mg "min" = none := T.free "min" 8
theorem m_max (T : Tp K mg) : mg "max" = none := T.free "max" 9
theorem m_sum (T : Tp K mg) : mg "sum" = none := T.free "sum" 10
theorem m_range (T : Tp K mg) : mg "range" = none := T.free "range" 11
theorem c_MOST_GROSS (T : Tp K mg) : ∃ t, mg "MOST_GROSS" = some (.int 1000000000000 t) := T.int "MOST_GROSS" 1000000000000 12
theorem c_MOST_RATE (T : Tp K mg) : ∃ t, mg "MOST_RATE" = some (.int 10000 t) := T.int "MOST_RATE" 10000 13
theorem c_MOST_HEADS (T : Tp K mg) : ∃ t, mg "MOST_HEADS" = some (.int 1000 t) := T.int "MOST_HEADS" 1000 14
theorem c_MOST_BOUNTY (T : Tp K mg) : ∃ t, mg "MOST_BOUNTY" = some (.int 1000000000 t) := T.int "MOST_BOUNTY" 1000000000 15
end
section
variable {P : Program} {w : World} {K : PySem.W.Frag} {mg : Str → Option Value} {base : Heap}
def kk_is_whole : RT → (PyData → Prop) := fun R v => R (.dat v) []
def S_is_whole : DSp := fun as Q => match as with
  | [.dat x0] => q_is_whole x0 (kk_is_whole Q)
  | _ => False
theorem len_is_whole (as : List SD) (Q : SD → List SD → Prop) (h : S_is_whole as Q) : as.length = 1 := by
  unfold S_is_whole at h
  split at h
  · rfl
  · exact h.elim
theorem cels_is_whole : CelsIn 0 S_is_whole := by
  intro as Q h i p xs e
  unfold S_is_whole at h
  split at h
  · exact absurd e (no_cel (ds := [_]) i p xs)
  · exact h.elim
def N_is_whole : List Str := ["thing"]
theorem sc_is_whole : FnScope N_is_whole ["thing"] (defScope (top 1)) := ⟨rfl, rfl, rfl, by decide +kernel, rfl, by decide +kernel, by decide +kernel⟩
theorem fg_is_whole (T : Tp K mg)  {fd : FuncData} (Fn : Fun K "is_whole" "is_whole" (top 1) (He.ga K "is_whole") fd) : FnG P w K mg base 1 (He.ga K "is_whole") fd ["thing"] S_is_whole := by
  refine dfn 0 Fn sc_is_whole len_is_whole cels_is_whole fun cdv A outer s H hr hA => ⟨_, (sone (sret (m := 0) (dx (dandV (disi "int" "int" (m_isinstance T) (m_int T) (by decide +kernel) (by simp) (dv 0)) (done (dnotV (disi "bool" "bool" (m_isinstance T) (m_bool T) (by decide +kernel) (by simp) (dv 0)))))))), fun as Q h => ?_⟩
  unfold S_is_whole at h
  split at h
  · exact Eq.mp (by kernel_rfl) h
  · exact h.elim
theorem ok_is_whole (T : Tp K mg)  : Dn P w K mg base "is_whole" 1 ["thing"] S_is_whole := by
  obtain ⟨kV, doc, pm, an, cdv, ct, Fn⟩ := T.fun_ "is_whole" (top 1) 0 37
  exact ⟨⟨_, fg_is_whole T  Fn, Fn.binds (ps := ["thing"]) fun _ _ _ _ _ _ us hl => match us, hl with | [_], _ => rfl⟩, T.glo "is_whole" 16, T.keep "is_whole" 37⟩
def kk_is_within : RT → (PyData → Prop) := fun R v => R (.dat v) []
def S_is_within : DSp := fun as Q => match as with
  | [.dat x0, .dat x1, .dat x2] => q_is_within x0 x1 x2 (kk_is_within Q)
  | _ => False
theorem len_is_within (as : List SD) (Q : SD → List SD → Prop) (h : S_is_within as Q) : as.length = 3 := by
  unfold S_is_within at h
  split at h
  · rfl
  · exact h.elim
theorem cels_is_within : CelsIn 0 S_is_within := by
  intro as Q h i p xs e
  unfold S_is_within at h
  split at h
  · exact absurd e (no_cel (ds := [_, _, _]) i p xs)
  · exact h.elim
def N_is_within : List Str := ["thing", "least", "most"]
theorem sc_is_within : FnScope N_is_within ["thing", "least", "most"] (defScope (top 2)) := ⟨rfl, rfl, rfl, by decide +kernel, rfl, by decide +kernel, by decide +kernel⟩
theorem fg_is_within (T : Tp K mg) (D_is_whole : Dn P w K mg base "is_whole" 1 ["thing"] S_is_whole) {fd : FuncData} (Fn : Fun K "is_within" "is_within" (top 2) (He.ga K "is_within") fd) : FnG P w K mg base 2 (He.ga K "is_within") fd ["thing", "least", "most"] S_is_within := by
  refine dfn 0 Fn sc_is_within len_is_within cels_is_within fun cdv A outer s H hr hA => ⟨_, (sone (sret (m := 0) (dx (dandV (dfrz (dcn D_is_whole (hr.mono (by decide)) hA (acons (dv 0) anil))) (done (dchain op_le op_le opr_le opr_le (dv 1) (dv 0) (dv 2))))))), fun as Q h => ?_⟩
  unfold S_is_within at h
  split at h
  · exact Eq.mp (by kernel_rfl) h
  · exact h.elim
theorem ok_is_within (T : Tp K mg) (D_is_whole : Dn P w K mg base "is_whole" 1 ["thing"] S_is_whole) : Dn P w K mg base "is_within" 2 ["thing", "least", "most"] S_is_within := by
  obtain ⟨kV, doc, pm, an, cdv, ct, Fn⟩ := T.fun_ "is_within" (top 2) 1 38
  exact ⟨⟨_, fg_is_within T D_is_whole Fn, Fn.binds (ps := ["thing", "least", "most"]) fun _ _ _ _ _ _ us hl => match us, hl with | [_, _, _], _ => rfl⟩, T.glo "is_within" 17, T.keep "is_within" 38⟩
def kk_is_from : RT → (PyData → Prop) := fun R v => R (.dat v) []
def S_is_from : DSp := fun as Q => match as with
  | [.dat x0, .dat x1] => q_is_from x0 x1 (kk_is_from Q)
  | _ => False
theorem len_is_from (as : List SD) (Q : SD → List SD → Prop) (h : S_is_from as Q) : as.length = 2 := by
  unfold S_is_from at h
  split at h
  · rfl
  · exact h.elim
theorem cels_is_from : CelsIn 0 S_is_from := by
  intro as Q h i p xs e
  unfold S_is_from at h
  split at h
  · exact absurd e (no_cel (ds := [_, _]) i p xs)
  · exact h.elim
def N_is_from : List Str := ["thing", "least"]
theorem sc_is_from : FnScope N_is_from ["thing", "least"] (defScope (top 3)) := ⟨rfl, rfl, rfl, by decide +kernel, rfl, by decide +kernel, by decide +kernel⟩
theorem fg_is_from (T : Tp K mg) (D_is_whole : Dn P w K mg base "is_whole" 1 ["thing"] S_is_whole) {fd : FuncData} (Fn : Fun K "is_from" "is_from" (top 3) (He.ga K "is_from") fd) : FnG P w K mg base 2 (He.ga K "is_from") fd ["thing", "least"] S_is_from := by
  refine dfn 0 Fn sc_is_from len_is_from cels_is_from fun cdv A outer s H hr hA => ⟨_, (sone (sret (m := 0) (dx (dandV (dfrz (dcn D_is_whole (hr.mono (by decide)) hA (acons (dv 0) anil))) (done (dcmp op_le opr_le (dv 1) (dv 0) (nomark _))))))), fun as Q h => ?_⟩
  unfold S_is_from at h
  split at h
  · exact Eq.mp (by kernel_rfl) h
  · exact h.elim
theorem ok_is_from (T : Tp K mg) (D_is_whole : Dn P w K mg base "is_whole" 1 ["thing"] S_is_whole) : Dn P w K mg base "is_from" 2 ["thing", "least"] S_is_from := by
  obtain ⟨kV, doc, pm, an, cdv, ct, Fn⟩ := T.fun_ "is_from" (top 3) 2 39
  exact ⟨⟨_, fg_is_from T D_is_whole Fn, Fn.binds (ps := ["thing", "least"]) fun _ _ _ _ _ _ us hl => match us, hl with | [_, _], _ => rfl⟩, T.glo "is_from" 18, T.keep "is_from" 39⟩
def kk_are_wholes : RT → (PyData → Prop) := fun R v => R (.dat v) []
def em_are_wholes_1 (i : PyData × PyData) (s : Unit) : List SD := [.dat i.1, .dat i.2, .un]
def de_are_wholes_1 : List SD → Option ((PyData × PyData) × (Unit))
  | [.dat x0, .dat x1, .un] => some ((x0, x1), ())
  | _ => none
theorem hde_are_wholes_1 : ∀ env i s, de_are_wholes_1 env = some (i, s) → env = em_are_wholes_1 i s := by
  intro env i s h
  unfold de_are_wholes_1 at h
  split at h
  · cases h; rfl
  · cases h
def S_are_wholes : DSp := fun as Q => match as with
  | [.dat x0, .dat x1] => q_are_wholes x0 x1 (kk_are_wholes Q)
  | _ => False
theorem len_are_wholes (as : List SD) (Q : SD → List SD → Prop) (h : S_are_wholes as Q) : as.length = 2 := by
  unfold S_are_wholes at h
  split at h
  · rfl
  · exact h.elim
theorem cels_are_wholes : CelsIn 0 S_are_wholes := by
  intro as Q h i p xs e
  unfold S_are_wholes at h
  split at h
  · exact absurd e (no_cel (ds := [_, _]) i p xs)
  · exact h.elim
def N_are_wholes : List Str := ["thing", "many", "number"]
theorem sc_are_wholes : FnScope N_are_wholes ["thing", "many"] (defScope (top 4)) := ⟨rfl, rfl, rfl, by decide +kernel, rfl, by decide +kernel, by decide +kernel⟩
theorem fg_are_wholes (T : Tp K mg) (D_is_whole : Dn P w K mg base "is_whole" 1 ["thing"] S_is_whole) {fd : FuncData} (Fn : Fun K "are_wholes" "are_wholes" (top 4) (He.ga K "are_wholes") fd) : FnG P w K mg base 2 (He.ga K "are_wholes") fd ["thing", "many"] S_are_wholes := by
  refine dfn 0 Fn sc_are_wholes len_are_wholes cels_are_wholes fun cdv A outer s H hr hA => ⟨_, (sone (sret (m := 0) (dx (dandV (disi "tuple" "tuple" (m_isinstance T) (m_tuple T) (by decide +kernel) (by simp) (dv 0)) (dandV (dcmp (op_eqE hr.units) opd_eq (dlen (m_len T) (acons (dv 0) anil)) (dv 1) (nomark _)) (done (dall (m_all T) rfl (acons (dfrz (dlc (dec := de_are_wholes_1) (emb := em_are_wholes_1) (qb := qb_are_wholes_1) [("number", 2)] (.one 2) hde_are_wholes_1 rfl sc_are_wholes.nd (iseq (dv 0)) (blkOk_by (own := [("number", 2)]) (N := N_are_wholes) (sc := defScope (top 4)) (by decide +kernel)) (fun _ _ _ _ _ => pg_name (i := 2) sc_are_wholes.nd rfl (Or.inl rfl)) (fun _ _ _ _ _ => tyes) (fun _ _ _ _ _ => (dfrz (dcn D_is_whole (hr.mono (by decide)) hA (acons (dv 2) anil)))) (fun d i s sk yd h => Eq.mp (by kernel_rfl) h))) anil)))))))), fun as Q h => ?_⟩
  unfold S_are_wholes at h
  split at h
  · exact Eq.mp (by kernel_rfl) h
  · exact h.elim
theorem ok_are_wholes (T : Tp K mg) (D_is_whole : Dn P w K mg base "is_whole" 1 ["thing"] S_is_whole) : Dn P w K mg base "are_wholes" 2 ["thing", "many"] S_are_wholes := by
  obtain ⟨kV, doc, pm, an, cdv, ct, Fn⟩ := T.fun_ "are_wholes" (top 4) 3 40
  exact ⟨⟨_, fg_are_wholes T D_is_whole Fn, Fn.binds (ps := ["thing", "many"]) fun _ _ _ _ _ _ us hl => match us, hl with | [_, _], _ => rfl⟩, T.glo "are_wholes" 19, T.keep "are_wholes" 40⟩
def kk_divisor_of : RT → (PyData → Prop) := fun R v => R (.dat v) []
def em_divisor_of_1 (i : Unit) (s : PyData × PyData) : List SD := [.dat s.1, .dat s.2]
def de_divisor_of_1 : List SD → Option ((Unit) × (PyData × PyData))
  | [.dat x0, .dat x1] => some ((), (x0, x1))
  | _ => none
theorem hde_divisor_of_1 : ∀ env i s, de_divisor_of_1 env = some (i, s) → env = em_divisor_of_1 i s := by
  intro env i s h
  unfold de_divisor_of_1 at h
  split at h
  · cases h; rfl
  · cases h
def S_divisor_of : DSp := fun as Q => match as with
  | [.dat x0, .dat x1] => q_divisor_of x0 x1 (kk_divisor_of Q)
  | _ => False
theorem len_divisor_of (as : List SD) (Q : SD → List SD → Prop) (h : S_divisor_of as Q) : as.length = 2 := by
  unfold S_divisor_of at h
  split at h
  · rfl
  · exact h.elim
theorem cels_divisor_of : CelsIn 0 S_divisor_of := by
  intro as Q h i p xs e
  unfold S_divisor_of at h
  split at h
  · exact absurd e (no_cel (ds := [_, _]) i p xs)
  · exact h.elim
def N_divisor_of : List Str := ["one", "other"]
theorem sc_divisor_of : FnScope N_divisor_of ["one", "other"] (defScope (top 5)) := ⟨rfl, rfl, rfl, by decide +kernel, rfl, by decide +kernel, by decide +kernel⟩
theorem fg_divisor_of (T : Tp K mg)  {fd : FuncData} (Fn : Fun K "divisor_of" "divisor_of" (top 5) (He.ga K "divisor_of") fd) : FnG P w K mg base 1 (He.ga K "divisor_of") fd ["one", "other"] S_divisor_of := by
  refine dfn 0 Fn sc_divisor_of len_divisor_of cels_divisor_of fun cdv A outer s H hr hA => ⟨_, (scons (spar 0 1 rfl sc_divisor_of.nd (acons (dabs (m_abs T) (acons (dv 0) anil)) (acons (dabs (m_abs T) (acons (dv 1) anil)) anil))) (scons (swhileQ [] de_divisor_of_1 em_divisor_of_1 kk_divisor_of qb_divisor_of_1 hde_divisor_of_1 PassesOwn.never (dcmpT op_gt opr_gt (dv 1) di (nomark _)) (sone (spar 0 1 rfl sc_divisor_of.nd (acons (dv 1) (acons (dmod (dv 0) (dv 1)) anil)))) (fun R i s nx bk h => Eq.mp (by kernel_rfl) h)) (sone (sret (m := 0) (dx (dv 0)))))), fun as Q h => ?_⟩
  unfold S_divisor_of at h
  split at h
  · exact Eq.mp (by kernel_rfl) h
  · exact h.elim
theorem ok_divisor_of (T : Tp K mg)  : Dn P w K mg base "divisor_of" 1 ["one", "other"] S_divisor_of := by
  obtain ⟨kV, doc, pm, an, cdv, ct, Fn⟩ := T.fun_ "divisor_of" (top 5) 4 41
  exact ⟨⟨_, fg_divisor_of T  Fn, Fn.binds (ps := ["one", "other"]) fun _ _ _ _ _ _ us hl => match us, hl with | [_, _], _ => rfl⟩, T.glo "divisor_of" 20, T.keep "divisor_of" 41⟩
def kk_is_fraction : RT → (PyData → Prop) := fun R v => R (.dat v) []
def S_is_fraction : DSp := fun as Q => match as with
  | [.dat x0] => q_is_fraction x0 (kk_is_fraction Q)
  | _ => False
theorem len_is_fraction (as : List SD) (Q : SD → List SD → Prop) (h : S_is_fraction as Q) : as.length = 1 := by
  unfold S_is_fraction at h
  split at h
  · rfl
  · exact h.elim
theorem cels_is_fraction : CelsIn 0 S_is_fraction := by
  intro as Q h i p xs e
  unfold S_is_fraction at h
  split at h
  · exact absurd e (no_cel (ds := [_]) i p xs)
  · exact h.elim
def N_is_fraction : List Str := ["thing"]
theorem sc_is_fraction : FnScope N_is_fraction ["thing"] (defScope (top 6)) := ⟨rfl, rfl, rfl, by decide +kernel, rfl, by decide +kernel, by decide +kernel⟩
theorem fg_is_fraction (T : Tp K mg) (D_are_wholes : Dn P w K mg base "are_wholes" 2 ["thing", "many"] S_are_wholes) (D_divisor_of : Dn P w K mg base "divisor_of" 1 ["one", "other"] S_divisor_of) {fd : FuncData} (Fn : Fun K "is_fraction" "is_fraction" (top 6) (He.ga K "is_fraction") fd) : FnG P w K mg base 3 (He.ga K "is_fraction") fd ["thing"] S_is_fraction := by
  refine dfn 0 Fn sc_is_fraction len_is_fraction cels_is_fraction fun cdv A outer s H hr hA => ⟨_, (sone (sret (m := 0) (dx (dandV (dfrz (dcn D_are_wholes (hr.mono (by decide)) hA (acons (dv 0) (acons di anil)))) (dandV (dcmp op_gt opr_gt (dixP (dv 0) di) di (nomark _)) (done (dcmp (op_eqE hr.units) opd_eq (dfrz (dcn D_divisor_of (hr.mono (by decide)) hA (acons (dixP (dv 0) di) (acons (dixP (dv 0) di) anil)))) di (nomark _)))))))), fun as Q h => ?_⟩
  unfold S_is_fraction at h
  split at h
  · exact Eq.mp (by kernel_rfl) h
  · exact h.elim
theorem ok_is_fraction (T : Tp K mg) (D_are_wholes : Dn P w K mg base "are_wholes" 2 ["thing", "many"] S_are_wholes) (D_divisor_of : Dn P w K mg base "divisor_of" 1 ["one", "other"] S_divisor_of) : Dn P w K mg base "is_fraction" 3 ["thing"] S_is_fraction := by
  obtain ⟨kV, doc, pm, an, cdv, ct, Fn⟩ := T.fun_ "is_fraction" (top 6) 5 42
  exact ⟨⟨_, fg_is_fraction T D_are_wholes D_divisor_of Fn, Fn.binds (ps := ["thing"]) fun _ _ _ _ _ _ us hl => match us, hl with | [_], _ => rfl⟩, T.glo "is_fraction" 21, T.keep "is_fraction" 42⟩
def kk_need_number : RT → (PyData → Prop) := fun R v => R (.dat v) []
def S_need_number : DSp := fun as Q => match as with
  | [.dat x0] => q_need_number x0 (kk_need_number Q)
  | _ => False
theorem len_need_number (as : List SD) (Q : SD → List SD → Prop) (h : S_need_number as Q) : as.length = 1 := by
  unfold S_need_number at h
  split at h
  · rfl
  · exact h.elim
theorem cels_need_number : CelsIn 0 S_need_number := by
  intro as Q h i p xs e
  unfold S_need_number at h
  split at h
  · exact absurd e (no_cel (ds := [_]) i p xs)
  · exact h.elim
def N_need_number : List Str := ["thing"]
theorem sc_need_number : FnScope N_need_number ["thing"] (defScope (top 12)) := ⟨rfl, rfl, rfl, by decide +kernel, rfl, by decide +kernel, by decide +kernel⟩
theorem fg_need_number (T : Tp K mg) (D_is_from : Dn P w K mg base "is_from" 2 ["thing", "least"] S_is_from) {fd : FuncData} (Fn : Fun K "need_number" "need_number" (top 12) (He.ga K "need_number") fd) : FnG P w K mg base 3 (He.ga K "need_number") fd ["thing"] S_need_number := by
  refine dfn 0 Fn sc_need_number len_need_number cels_need_number fun cdv A outer s H hr hA => ⟨_, (sone (sif (tnot (dtest (dfrz (dcn D_is_from (hr.mono (by decide)) hA (acons (dv 0) (acons di anil)))))) (sone snever) snil)), fun as Q h => ?_⟩
  unfold S_need_number at h
  split at h
  · exact Eq.mp (by kernel_rfl) h
  · exact h.elim
theorem ok_need_number (T : Tp K mg) (D_is_from : Dn P w K mg base "is_from" 2 ["thing", "least"] S_is_from) : Dn P w K mg base "need_number" 3 ["thing"] S_need_number := by
  obtain ⟨kV, doc, pm, an, cdv, ct, Fn⟩ := T.fun_ "need_number" (top 12) 6 43
  exact ⟨⟨_, fg_need_number T D_is_from Fn, Fn.binds (ps := ["thing"]) fun _ _ _ _ _ _ us hl => match us, hl with | [_], _ => rfl⟩, T.glo "need_number" 22, T.keep "need_number" 43⟩
def kk_is_part : RT → (PyData → Prop) := fun R v => R (.dat v) []
def S_is_part : DSp := fun as Q => match as with
  | [.dat x0] => q_is_part x0 (kk_is_part Q)
  | _ => False
theorem len_is_part (as : List SD) (Q : SD → List SD → Prop) (h : S_is_part as Q) : as.length = 1 := by
  unfold S_is_part at h
  split at h
  · rfl
  · exact h.elim
theorem cels_is_part : CelsIn 0 S_is_part := by
  intro as Q h i p xs e
  unfold S_is_part at h
  split at h
  · exact absurd e (no_cel (ds := [_]) i p xs)
  · exact h.elim
def N_is_part : List Str := ["thing"]
theorem sc_is_part : FnScope N_is_part ["thing"] (defScope (top 18)) := ⟨rfl, rfl, rfl, by decide +kernel, rfl, by decide +kernel, by decide +kernel⟩
theorem fg_is_part (T : Tp K mg) (D_is_fraction : Dn P w K mg base "is_fraction" 3 ["thing"] S_is_fraction) {fd : FuncData} (Fn : Fun K "is_part" "is_part" (top 18) (He.ga K "is_part") fd) : FnG P w K mg base 4 (He.ga K "is_part") fd ["thing"] S_is_part := by
  refine dfn 0 Fn sc_is_part len_is_part cels_is_part fun cdv A outer s H hr hA => ⟨_, (sone (sret (m := 0) (dx (dandV (dfrz (dcn D_is_fraction (hr.mono (by decide)) hA (acons (dv 0) anil))) (done (dchain op_le op_le opr_le opr_le di (dixP (dv 0) di) (dixP (dv 0) di))))))), fun as Q h => ?_⟩
  unfold S_is_part at h
  split at h
  · exact Eq.mp (by kernel_rfl) h
  · exact h.elim
theorem ok_is_part (T : Tp K mg) (D_is_fraction : Dn P w K mg base "is_fraction" 3 ["thing"] S_is_fraction) : Dn P w K mg base "is_part" 4 ["thing"] S_is_part := by
  obtain ⟨kV, doc, pm, an, cdv, ct, Fn⟩ := T.fun_ "is_part" (top 18) 7 44
  exact ⟨⟨_, fg_is_part T D_is_fraction Fn, Fn.binds (ps := ["thing"]) fun _ _ _ _ _ _ us hl => match us, hl with | [_], _ => rfl⟩, T.glo "is_part" 23, T.keep "is_part" 44⟩
def kk_is_sale : RT → (PyData → Prop) := fun R v => R (.dat v) []
def em_is_sale_1 (i : PyData × PyData) (s : Unit) : List SD := [.dat i.1, .dat i.2, .un, .un]
def de_is_sale_1 : List SD → Option ((PyData × PyData) × (Unit))
  | [.dat x0, .dat x1, .un, .un] => some ((x0, x1), ())
  | _ => none
theorem hde_is_sale_1 : ∀ env i s, de_is_sale_1 env = some (i, s) → env = em_is_sale_1 i s := by
  intro env i s h
  unfold de_is_sale_1 at h
  split at h
  · cases h; rfl
  · cases h
def S_is_sale : DSp := fun as Q => match as with
  | [.dat x0] => q_is_sale x0 (kk_is_sale Q)
  | _ => False
theorem len_is_sale (as : List SD) (Q : SD → List SD → Prop) (h : S_is_sale as Q) : as.length = 1 := by
  unfold S_is_sale at h
  split at h
  · rfl
  · exact h.elim
theorem cels_is_sale : CelsIn 0 S_is_sale := by
  intro as Q h i p xs e
  unfold S_is_sale at h
  split at h
  · exact absurd e (no_cel (ds := [_]) i p xs)
  · exact h.elim
def N_is_sale : List Str := ["thing", "most", "number", "bound"]
theorem sc_is_sale : FnScope N_is_sale ["thing"] (defScope (top 19)) := ⟨rfl, rfl, rfl, by decide +kernel, rfl, by decide +kernel, by decide +kernel⟩
theorem fg_is_sale (T : Tp K mg) (D_is_part : Dn P w K mg base "is_part" 4 ["thing"] S_is_part) (D_is_within : Dn P w K mg base "is_within" 2 ["thing", "least", "most"] S_is_within) {fd : FuncData} (Fn : Fun K "is_sale" "is_sale" (top 19) (He.ga K "is_sale") fd) : FnG P w K mg base 5 (He.ga K "is_sale") fd ["thing"] S_is_sale := by
  refine dfn 0 Fn sc_is_sale len_is_sale cels_is_sale fun cdv A outer s H hr hA => ⟨_, (scons (sif (tor (tnot (dtest (disi "tuple" "tuple" (m_isinstance T) (m_tuple T) (by decide +kernel) (by simp) (dv 0)))) (tor (dcmpT (op_neE hr.units) opd_ne (dlen (m_len T) (acons (dv 0) anil)) di (nomark _)) (tor1 (tnot (dtest (dfrz (dcn D_is_part (hr.mono (by decide)) hA (acons (dixP (dv 0) di) anil)))))))).pt (sone (sret (m := 0) (dx db))) snil) (scons (sset 1 sc_is_sale.nd (dx (dtup (acons (dnum (c_MOST_GROSS T)) (acons (dnum (c_MOST_GROSS T)) (acons (dnum (c_MOST_RATE T)) (acons (dnum (c_MOST_HEADS T)) (acons (dnum (c_MOST_BOUNTY T)) anil)))))))) (sone (sret (m := 0) (dx (dall (m_all T) rfl (acons (dfrz (dlc (dec := de_is_sale_1) (emb := em_is_sale_1) (qb := qb_is_sale_1) [("number", 2), ("bound", 3)] (.tup [2, 3]) hde_is_sale_1 rfl sc_is_sale.nd (izip (m_zip T) (acons (dv 0) (acons (dv 1) anil))) (blkOk_by (own := [("number", 2), ("bound", 3)]) (N := N_is_sale) (sc := defScope (top 19)) (by decide +kernel)) (fun _ _ _ _ _ => pg_tup rfl (pgs_cons (pg_name (i := 2) sc_is_sale.nd rfl (Or.inl rfl)) (pgs_cons (pg_name (i := 3) sc_is_sale.nd rfl (Or.inl rfl)) pgs_nil))) (fun _ _ _ _ _ => tyes) (fun _ _ _ _ _ => (dfrz (dcn D_is_within (hr.mono (by decide)) hA (acons (dv 2) (acons di (acons (dv 3) anil)))))) (fun d i s sk yd h => Eq.mp (by kernel_rfl) h))) anil))))))), fun as Q h => ?_⟩
  unfold S_is_sale at h
  split at h
  · exact Eq.mp (by kernel_rfl) h
  · exact h.elim
theorem ok_is_sale (T : Tp K mg) (D_is_part : Dn P w K mg base "is_part" 4 ["thing"] S_is_part) (D_is_within : Dn P w K mg base "is_within" 2 ["thing", "least", "most"] S_is_within) : Dn P w K mg base "is_sale" 5 ["thing"] S_is_sale := by
  obtain ⟨kV, doc, pm, an, cdv, ct, Fn⟩ := T.fun_ "is_sale" (top 19) 8 45
  exact ⟨⟨_, fg_is_sale T D_is_part D_is_within Fn, Fn.binds (ps := ["thing"]) fun _ _ _ _ _ _ us hl => match us, hl with | [_], _ => rfl⟩, T.glo "is_sale" 24, T.keep "is_sale" 45⟩
def kk_need_sale : RT → (PyData → Prop) := fun R v => R (.dat v) []
def S_need_sale : DSp := fun as Q => match as with
  | [.dat x0] => q_need_sale x0 (kk_need_sale Q)
  | _ => False
theorem len_need_sale (as : List SD) (Q : SD → List SD → Prop) (h : S_need_sale as Q) : as.length = 1 := by
  unfold S_need_sale at h
  split at h
  · rfl
  · exact h.elim
theorem cels_need_sale : CelsIn 0 S_need_sale := by
  intro as Q h i p xs e
  unfold S_need_sale at h
  split at h
  · exact absurd e (no_cel (ds := [_]) i p xs)
  · exact h.elim
def N_need_sale : List Str := ["thing"]
theorem sc_need_sale : FnScope N_need_sale ["thing"] (defScope (top 20)) := ⟨rfl, rfl, rfl, by decide +kernel, rfl, by decide +kernel, by decide +kernel⟩
theorem fg_need_sale (T : Tp K mg) (D_is_sale : Dn P w K mg base "is_sale" 5 ["thing"] S_is_sale) {fd : FuncData} (Fn : Fun K "need_sale" "need_sale" (top 20) (He.ga K "need_sale") fd) : FnG P w K mg base 6 (He.ga K "need_sale") fd ["thing"] S_need_sale := by
  refine dfn 0 Fn sc_need_sale len_need_sale cels_need_sale fun cdv A outer s H hr hA => ⟨_, (sone (sif (tnot (dtest (dfrz (dcn D_is_sale (hr.mono (by decide)) hA (acons (dv 0) anil))))) (sone snever) snil)), fun as Q h => ?_⟩
  unfold S_need_sale at h
  split at h
  · exact Eq.mp (by kernel_rfl) h
  · exact h.elim
theorem ok_need_sale (T : Tp K mg) (D_is_sale : Dn P w K mg base "is_sale" 5 ["thing"] S_is_sale) : Dn P w K mg base "need_sale" 6 ["thing"] S_need_sale := by
  obtain ⟨kV, doc, pm, an, cdv, ct, Fn⟩ := T.fun_ "need_sale" (top 20) 9 46
  exact ⟨⟨_, fg_need_sale T D_is_sale Fn, Fn.binds (ps := ["thing"]) fun _ _ _ _ _ _ us hl => match us, hl with | [_], _ => rfl⟩, T.glo "need_sale" 25, T.keep "need_sale" 46⟩
def kk_purse_of : RT → (PyData → Prop) := fun R v => R (.dat v) []
def S_purse_of : DSp := fun as Q => match as with
  | [.dat x0] => q_purse_of x0 (kk_purse_of Q)
  | _ => False
theorem len_purse_of (as : List SD) (Q : SD → List SD → Prop) (h : S_purse_of as Q) : as.length = 1 := by
  unfold S_purse_of at h
  split at h
  · rfl
  · exact h.elim
theorem cels_purse_of : CelsIn 0 S_purse_of := by
  intro as Q h i p xs e
  unfold S_purse_of at h
  split at h
  · exact absurd e (no_cel (ds := [_]) i p xs)
  · exact h.elim
def N_purse_of : List Str := ["sale", "gross", "charges", "rate", "heads", "bounty", "part", "paid", "captors", "pot", "fee"]
theorem sc_purse_of : FnScope N_purse_of ["sale"] (defScope (top 21)) := ⟨rfl, rfl, rfl, by decide +kernel, rfl, by decide +kernel, by decide +kernel⟩
theorem fg_purse_of (T : Tp K mg) (D_need_sale : Dn P w K mg base "need_sale" 6 ["thing"] S_need_sale) {fd : FuncData} (Fn : Fun K "purse_of" "purse_of" (top 21) (He.ga K "purse_of") fd) : FnG P w K mg base 7 (He.ga K "purse_of") fd ["sale"] S_purse_of := by
  refine dfn 0 Fn sc_purse_of len_purse_of cels_purse_of fun cdv A outer s H hr hA => ⟨_, (scons (sexpr (dcn D_need_sale (hr.mono (by decide)) hA (acons (dv 0) anil))) (scons (sasg (dv 0) (gtup (gl_cons gok_n (gl_cons gok_n (gl_cons gok_n (gl_cons gok_n (gl_cons gok_n (gl_cons gok_n gl_nil)))))) rfl (gcons (gn 1 sc_purse_of.nd) (gcons (gn 2 sc_purse_of.nd) (gcons (gn 3 sc_purse_of.nd) (gcons (gn 4 sc_purse_of.nd) (gcons (gn 5 sc_purse_of.nd) (gcons (gn 6 sc_purse_of.nd) gnil)))))))) (scons (sset 7 sc_purse_of.nd (dx (dmin2 (m_min T) rfl (acons (dv 2) (acons (dv 1) anil))))) (scons (sset 8 sc_purse_of.nd (dx (ddiv (dmul (dsub (dv 1) (dv 7)) (dixP (dv 6) di)) (dixP (dv 6) di)))) (scons (sset 9 sc_purse_of.nd (dx (dadd (dv 8) (dmul (dv 4) (dv 5))))) (scons (sset 10 sc_purse_of.nd (dx (ddiv (dmul (dv 9) (dv 3)) (dnum (c_MOST_RATE T))))) (sone (sret (m := 0) (dx (dtup (acons (dv 7) (acons (dsub (dsub (dv 1) (dv 7)) (dv 8)) (acons (dv 10) (acons (dsub (dv 9) (dv 10)) anil)))))))))))))), fun as Q h => ?_⟩
  unfold S_purse_of at h
  split at h
  · exact Eq.mp (by kernel_rfl) h
  · exact h.elim
theorem ok_purse_of (T : Tp K mg) (D_need_sale : Dn P w K mg base "need_sale" 6 ["thing"] S_need_sale) : Dn P w K mg base "purse_of" 7 ["sale"] S_purse_of := by
  obtain ⟨kV, doc, pm, an, cdv, ct, Fn⟩ := T.fun_ "purse_of" (top 21) 10 47
  exact ⟨⟨_, fg_purse_of T D_need_sale Fn, Fn.binds (ps := ["sale"]) fun _ _ _ _ _ _ us hl => match us, hl with | [_], _ => rfl⟩, T.glo "purse_of" 26, T.keep "purse_of" 47⟩
def kk_least_pot : RT → (PyData → Prop) := fun R v => R (.dat v) []
def S_least_pot : DSp := fun as Q => match as with
  | [.dat x0, .dat x1] => q_least_pot x0 x1 (kk_least_pot Q)
  | _ => False
theorem len_least_pot (as : List SD) (Q : SD → List SD → Prop) (h : S_least_pot as Q) : as.length = 2 := by
  unfold S_least_pot at h
  split at h
  · rfl
  · exact h.elim
theorem cels_least_pot : CelsIn 0 S_least_pot := by
  intro as Q h i p xs e
  unfold S_least_pot at h
  split at h
  · exact absurd e (no_cel (ds := [_, _]) i p xs)
  · exact h.elim
def N_least_pot : List Str := ["rate", "n"]
theorem sc_least_pot : FnScope N_least_pot ["rate", "n"] (defScope (top 22)) := ⟨rfl, rfl, rfl, by decide +kernel, rfl, by decide +kernel, by decide +kernel⟩
theorem fg_least_pot (T : Tp K mg)  {fd : FuncData} (Fn : Fun K "least_pot" "least_pot" (top 22) (He.ga K "least_pot") fd) : FnG P w K mg base 1 (He.ga K "least_pot") fd ["rate", "n"] S_least_pot := by
  refine dfn 0 Fn sc_least_pot len_least_pot cels_least_pot fun cdv A outer s H hr hA => ⟨_, (scons (sif (dcmpT (op_eqE hr.units) opd_eq (dv 1) di (nomark _)) (sone (sret (m := 0) (dx di))) snil) (scons (sif (dcmpT (op_eqE hr.units) opd_eq (dv 0) (dnum (c_MOST_RATE T)) (nomark _)) (sone (sret (m := 0) (dx dn))) snil) (sone (sret (m := 0) (dx (dadd (ddiv (dmul (dsub (dv 1) di) (dnum (c_MOST_RATE T))) (dsub (dnum (c_MOST_RATE T)) (dv 0))) di)))))), fun as Q h => ?_⟩
  unfold S_least_pot at h
  split at h
  · exact Eq.mp (by kernel_rfl) h
  · exact h.elim
theorem ok_least_pot (T : Tp K mg)  : Dn P w K mg base "least_pot" 1 ["rate", "n"] S_least_pot := by
  obtain ⟨kV, doc, pm, an, cdv, ct, Fn⟩ := T.fun_ "least_pot" (top 22) 11 48
  exact ⟨⟨_, fg_least_pot T  Fn, Fn.binds (ps := ["rate", "n"]) fun _ _ _ _ _ _ us hl => match us, hl with | [_, _], _ => rfl⟩, T.glo "least_pot" 27, T.keep "least_pot" 48⟩
def kk_least_gross : RT → (PyData → Prop) := fun R v => R (.dat v) []
def S_least_gross : DSp := fun as Q => match as with
  | [.dat x0, .dat x1] => q_least_gross x0 x1 (kk_least_gross Q)
  | _ => False
theorem len_least_gross (as : List SD) (Q : SD → List SD → Prop) (h : S_least_gross as Q) : as.length = 2 := by
  unfold S_least_gross at h
  split at h
  · rfl
  · exact h.elim
theorem cels_least_gross : CelsIn 0 S_least_gross := by
  intro as Q h i p xs e
  unfold S_least_gross at h
  split at h
  · exact absurd e (no_cel (ds := [_, _]) i p xs)
  · exact h.elim
def N_least_gross : List Str := ["sale", "n", "gross", "charges", "rate", "heads", "bounty", "part", "pot", "captors"]
theorem sc_least_gross : FnScope N_least_gross ["sale", "n"] (defScope (top 23)) := ⟨rfl, rfl, rfl, by decide +kernel, rfl, by decide +kernel, by decide +kernel⟩
theorem fg_least_gross (T : Tp K mg) (D_least_pot : Dn P w K mg base "least_pot" 1 ["rate", "n"] S_least_pot) (D_need_number : Dn P w K mg base "need_number" 3 ["thing"] S_need_number) (D_need_sale : Dn P w K mg base "need_sale" 6 ["thing"] S_need_sale) {fd : FuncData} (Fn : Fun K "least_gross" "least_gross" (top 23) (He.ga K "least_gross") fd) : FnG P w K mg base 7 (He.ga K "least_gross") fd ["sale", "n"] S_least_gross := by
  refine dfn 0 Fn sc_least_gross len_least_gross cels_least_gross fun cdv A outer s H hr hA => ⟨_, (scons (sexpr (dcn D_need_sale (hr.mono (by decide)) hA (acons (dv 0) anil))) (scons (sexpr (dcn D_need_number (hr.mono (by decide)) hA (acons (dv 1) anil))) (scons (sasg (dv 0) (gtup (gl_cons gok_n (gl_cons gok_n (gl_cons gok_n (gl_cons gok_n (gl_cons gok_n (gl_cons gok_n gl_nil)))))) rfl (gcons (gn 2 sc_least_gross.nd) (gcons (gn 3 sc_least_gross.nd) (gcons (gn 4 sc_least_gross.nd) (gcons (gn 5 sc_least_gross.nd) (gcons (gn 6 sc_least_gross.nd) (gcons (gn 7 sc_least_gross.nd) gnil)))))))) (scons (sset 8 sc_least_gross.nd (dcn D_least_pot (hr.mono (by decide)) hA (acons (dv 4) (acons (dv 1) anil)))) (ssforget [0, 1, 2, 4] (scons (sif (tisN (dv 8)) (sone (sret (m := 0) (dx dn))) snil) (scons (sset 9 sc_least_gross.nd (dx (dsub (dv 8) (dmul (dv 5) (dv 6))))) (ssforget [5, 6, 8] (scons (sif (dcmpT op_le opr_le (dv 9) di (nomark _)) (sone (sret (m := 0) (dx di))) snil) (scons (sif (dcmpT (op_eqE hr.units) opd_eq (dixP (dv 7) di) di (nomark _)) (sone (sret (m := 0) (dx dn))) snil) (sone (sret (m := 0) (dx (dadd (dadd (dv 3) (ddiv (dsub (dmul (dv 9) (dixP (dv 7) di)) di) (dixP (dv 7) di))) di)))))))))))))), fun as Q h => ?_⟩
  unfold S_least_gross at h
  split at h
  · exact Eq.mp (by kernel_rfl) h
  · exact h.elim
theorem ok_least_gross (T : Tp K mg) (D_least_pot : Dn P w K mg base "least_pot" 1 ["rate", "n"] S_least_pot) (D_need_number : Dn P w K mg base "need_number" 3 ["thing"] S_need_number) (D_need_sale : Dn P w K mg base "need_sale" 6 ["thing"] S_need_sale) : Dn P w K mg base "least_gross" 7 ["sale", "n"] S_least_gross := by
  obtain ⟨kV, doc, pm, an, cdv, ct, Fn⟩ := T.fun_ "least_gross" (top 23) 12 49
  exact ⟨⟨_, fg_least_gross T D_least_pot D_need_number D_need_sale Fn, Fn.binds (ps := ["sale", "n"]) fun _ _ _ _ _ _ us hl => match us, hl with | [_, _], _ => rfl⟩, T.glo "least_gross" 28, T.keep "least_gross" 49⟩
def kk_law_pot : RT → (List PyData → Prop) := fun R v => R (.cel false v) []
def S_law_pot : DSp := fun as Q => match as with
  | [.dat x0, .dat x1] => q_law_pot x0 x1 (kk_law_pot Q)
  | _ => False
theorem len_law_pot (as : List SD) (Q : SD → List SD → Prop) (h : S_law_pot as Q) : as.length = 2 := by
  unfold S_law_pot at h
  split at h
  · rfl
  · exact h.elim
theorem cels_law_pot : CelsIn 0 S_law_pot := by
  intro as Q h i p xs e
  unfold S_law_pot at h
  split at h
  · exact absurd e (no_cel (ds := [_, _]) i p xs)
  · exact h.elim
def N_law_pot : List Str := ["_law_script", "_law_k", "_law_cell"]
theorem sc_law_pot : FnScope N_law_pot ["_law_script", "_law_k"] (defScope (top 25)) := ⟨rfl, rfl, rfl, by decide +kernel, rfl, by decide +kernel, by decide +kernel⟩
theorem fg_law_pot (T : Tp K mg)  {fd : FuncData} (Fn : Fun K "_law_pot" "_law_pot" (top 25) (He.ga K "_law_pot") fd) : FnG P w K mg base 1 (He.ga K "_law_pot") fd ["_law_script", "_law_k"] S_law_pot := by
  refine dfn 0 Fn sc_law_pot len_law_pot cels_law_pot fun cdv A outer s H hr hA => ⟨_, (scons (sset 2 sc_law_pot.nd (dx (dadd (dmul di (dv 1)) di))) (scons (sif (dcmpT op_lt opr_lt (dv 1) (dlen (m_len T) (acons (dv 0) anil)) (nomark _)) (sone (sset 2 sc_law_pot.nd (dx (dixP (dv 0) (dv 1))))) snil) (sone (sret (m := 0) (dlst (acons (dmod (dmax2 (m_max T) rfl (acons di (acons (dsub (dv 2) (dpow di di)) anil))) (dpow (dpow di di) di)) (acons (dadd (dmod (dv 2) di) (dmul di (dv 1))) (acons di anil)))))))), fun as Q h => ?_⟩
  unfold S_law_pot at h
  split at h
  · exact Eq.mp (by kernel_rfl) h
  · exact h.elim
theorem ok_law_pot (T : Tp K mg)  : Dn P w K mg base "_law_pot" 1 ["_law_script", "_law_k"] S_law_pot := by
  obtain ⟨kV, doc, pm, an, cdv, ct, Fn⟩ := T.fun_ "_law_pot" (top 25) 13 50
  exact ⟨⟨_, fg_law_pot T  Fn, Fn.binds (ps := ["_law_script", "_law_k"]) fun _ _ _ _ _ _ us hl => match us, hl with | [_, _], _ => rfl⟩, T.glo "_law_pot" 29, T.keep "_law_pot" 50⟩
def kk_law_take : RT → (PyData → List PyData → Prop) := fun R v c => R (.dat v) [.cel true c]
def S_law_take : DSp := fun as Q => match as with
  | [.cel true x0, .dat x1] => q_law_take x0 x1 (kk_law_take Q)
  | _ => False
theorem len_law_take (as : List SD) (Q : SD → List SD → Prop) (h : S_law_take as Q) : as.length = 2 := by
  unfold S_law_take at h
  split at h
  · rfl
  · exact h.elim
theorem cels_law_take : CelsIn 1 S_law_take := by
  intro as Q h i p xs e
  unfold S_law_take at h
  split at h
  · exact cels1 (ds := [_]) e
  · exact h.elim
def N_law_take : List Str := ["_law_pot_here", "_law_many", "_law_digit", "_law_one", "_law_other"]
theorem sc_law_take : FnScope N_law_take ["_law_pot_here", "_law_many"] (defScope (top 26)) := ⟨rfl, rfl, rfl, by decide +kernel, rfl, by decide +kernel, by decide +kernel⟩
theorem fg_law_take (T : Tp K mg)  {fd : FuncData} (Fn : Fun K "_law_take" "_law_take" (top 26) (He.ga K "_law_take") fd) : FnG P w K mg base 1 (He.ga K "_law_take") fd ["_law_pot_here", "_law_many"] S_law_take := by
  refine dfn 1 Fn sc_law_take len_law_take cels_law_take fun cdv A outer s H hr hA => ⟨_, (scons (sif (dcmpT op_gt opr_gt (dixC 0 di) di (nomark _)) (scons (sset 2 sc_law_take.nd (dx (dmod (dixC 0 di) (dv 1)))) (scons (ssetC 0 (ddiv (dixC 0 di) (dv 1)) di) (sone (sret (m := 1) (dx (dv 2)))))) snil) (scons (ssetC 0 (dadd (dixC 0 di) di) di) (scons (sset 3 sc_law_take.nd (dx (dmod (dpow (dadd (dadd (dixC 0 di) (dmul di (dixC 0 di))) di) di) di))) (scons (sset 4 sc_law_take.nd (dx (dmod (dpow (dadd (dadd (ddiv (dv 3) di) (dmul (dmul di (dixC 0 di)) (dixC 0 di))) di) di) di))) (sone (sret (m := 1) (dx (dmod (dadd (ddiv (dv 3) di) (dmul di (ddiv (dv 4) di))) (dv 1))))))))), fun as Q h => ?_⟩
  unfold S_law_take at h
  split at h
  · exact Eq.mp (by kernel_rfl) h
  · exact h.elim
theorem ok_law_take (T : Tp K mg)  : Dn P w K mg base "_law_take" 1 ["_law_pot_here", "_law_many"] S_law_take := by
  obtain ⟨kV, doc, pm, an, cdv, ct, Fn⟩ := T.fun_ "_law_take" (top 26) 14 51
  exact ⟨⟨_, fg_law_take T  Fn, Fn.binds (ps := ["_law_pot_here", "_law_many"]) fun _ _ _ _ _ _ us hl => match us, hl with | [_, _], _ => rfl⟩, T.glo "_law_take" 30, T.keep "_law_take" 51⟩
def kk_law_fraction : RT → (PyData → Prop) := fun R v => R (.dat v) []
def em_law_fraction_1 (i : PyData × PyData) (s : PyData × PyData) : List SD := [.dat i.1, .dat i.2, .dat s.1, .dat s.2]
def de_law_fraction_1 : List SD → Option ((PyData × PyData) × (PyData × PyData))
  | [.dat x0, .dat x1, .dat x2, .dat x3] => some ((x0, x1), (x2, x3))
  | _ => none
theorem hde_law_fraction_1 : ∀ env i s, de_law_fraction_1 env = some (i, s) → env = em_law_fraction_1 i s := by
  intro env i s h
  unfold de_law_fraction_1 at h
  split at h
  · cases h; rfl
  · cases h
def S_law_fraction : DSp := fun as Q => match as with
  | [.dat x0, .dat x1] => q_law_fraction x0 x1 (kk_law_fraction Q)
  | _ => False
theorem len_law_fraction (as : List SD) (Q : SD → List SD → Prop) (h : S_law_fraction as Q) : as.length = 2 := by
  unfold S_law_fraction at h
  split at h
  · rfl
  · exact h.elim
theorem cels_law_fraction : CelsIn 0 S_law_fraction := by
  intro as Q h i p xs e
  unfold S_law_fraction at h
  split at h
  · exact absurd e (no_cel (ds := [_, _]) i p xs)
  · exact h.elim
def N_law_fraction : List Str := ["_law_p", "_law_q", "_law_one", "_law_other"]
theorem sc_law_fraction : FnScope N_law_fraction ["_law_p", "_law_q"] (defScope (top 27)) := ⟨rfl, rfl, rfl, by decide +kernel, rfl, by decide +kernel, by decide +kernel⟩
theorem fg_law_fraction (T : Tp K mg)  {fd : FuncData} (Fn : Fun K "_law_fraction" "_law_fraction" (top 27) (He.ga K "_law_fraction") fd) : FnG P w K mg base 1 (He.ga K "_law_fraction") fd ["_law_p", "_law_q"] S_law_fraction := by
  refine dfn 0 Fn sc_law_fraction len_law_fraction cels_law_fraction fun cdv A outer s H hr hA => ⟨_, (scons (spar 2 3 rfl sc_law_fraction.nd (acons (dabs (m_abs T) (acons (dv 0) anil)) (acons (dv 1) anil))) (scons (swhileQ [] de_law_fraction_1 em_law_fraction_1 kk_law_fraction qb_law_fraction_1 hde_law_fraction_1 PassesOwn.never (dcmpT op_gt opr_gt (dv 3) di (nomark _)) (sone (spar 2 3 rfl sc_law_fraction.nd (acons (dv 3) (acons (dmod (dv 2) (dv 3)) anil)))) (fun R i s nx bk h => Eq.mp (by kernel_rfl) h)) (sone (sret (m := 0) (dx (dtup (acons (ddiv (dv 0) (dv 2)) (acons (ddiv (dv 1) (dv 2)) anil)))))))), fun as Q h => ?_⟩
  unfold S_law_fraction at h
  split at h
  · exact Eq.mp (by kernel_rfl) h
  · exact h.elim
theorem ok_law_fraction (T : Tp K mg)  : Dn P w K mg base "_law_fraction" 1 ["_law_p", "_law_q"] S_law_fraction := by
  obtain ⟨kV, doc, pm, an, cdv, ct, Fn⟩ := T.fun_ "_law_fraction" (top 27) 15 52
  exact ⟨⟨_, fg_law_fraction T  Fn, Fn.binds (ps := ["_law_p", "_law_q"]) fun _ _ _ _ _ _ us hl => match us, hl with | [_, _], _ => rfl⟩, T.glo "_law_fraction" 31, T.keep "_law_fraction" 52⟩
def kk_law_number : RT → (PyData → List PyData → Prop) := fun R v c => R (.dat v) [.cel true c]
def S_law_number : DSp := fun as Q => match as with
  | [.cel true x0, .dat x1] => q_law_number x0 x1 (kk_law_number Q)
  | _ => False
theorem len_law_number (as : List SD) (Q : SD → List SD → Prop) (h : S_law_number as Q) : as.length = 2 := by
  unfold S_law_number at h
  split at h
  · rfl
  · exact h.elim
theorem cels_law_number : CelsIn 1 S_law_number := by
  intro as Q h i p xs e
  unfold S_law_number at h
  split at h
  · exact cels1 (ds := [_]) e
  · exact h.elim
def N_law_number : List Str := ["_law_pot_here", "_law_most", "_law_way", "_law_few"]
theorem sc_law_number : FnScope N_law_number ["_law_pot_here", "_law_most"] (defScope (top 28)) := ⟨rfl, rfl, rfl, by decide +kernel, rfl, by decide +kernel, by decide +kernel⟩
theorem fg_law_number (T : Tp K mg) (D_law_take : Dn P w K mg base "_law_take" 1 ["_law_pot_here", "_law_many"] S_law_take) {fd : FuncData} (Fn : Fun K "_law_number" "_law_number" (top 28) (He.ga K "_law_number") fd) : FnG P w K mg base 2 (He.ga K "_law_number") fd ["_law_pot_here", "_law_most"] S_law_number := by
  refine dfn 1 Fn sc_law_number len_law_number cels_law_number fun cdv A outer s H hr hA => ⟨_, (scons (sset 2 sc_law_number.nd (dcnC 0 D_law_take (hr.mono (by decide)) hA (acons di anil))) (scons (sset 3 sc_law_number.nd (dcnC 0 D_law_take (hr.mono (by decide)) hA (acons di anil))) (sone (sret (m := 1) (dx (dixP (dfrz (dlst (acons di (acons (dmin2 (m_min T) rfl (acons (dv 1) (acons (dv 3) anil))) (acons (dfrz (dcnC 0 D_law_take (hr.mono (by decide)) hA (acons (dadd (dv 1) di) anil))) (acons (dsub (dv 1) (dmin2 (m_min T) rfl (acons (dv 1) (acons (dmod (dv 3) di) anil)))) (acons (dmin2 (m_min T) rfl (acons (dv 1) (acons (dixP (dfrz (dlst (acons di (acons di (acons di (acons di (acons (dpow di di) (acons (dpow di di) (acons (dpow di di) anil))))))))) (dmod (dv 3) di)) anil))) anil))))))) (dv 2))))))), fun as Q h => ?_⟩
  unfold S_law_number at h
  split at h
  · exact Eq.mp (by kernel_rfl) h
  · exact h.elim
theorem ok_law_number (T : Tp K mg) (D_law_take : Dn P w K mg base "_law_take" 1 ["_law_pot_here", "_law_many"] S_law_take) : Dn P w K mg base "_law_number" 2 ["_law_pot_here", "_law_most"] S_law_number := by
  obtain ⟨kV, doc, pm, an, cdv, ct, Fn⟩ := T.fun_ "_law_number" (top 28) 16 53
  exact ⟨⟨_, fg_law_number T D_law_take Fn, Fn.binds (ps := ["_law_pot_here", "_law_most"]) fun _ _ _ _ _ _ us hl => match us, hl with | [_, _], _ => rfl⟩, T.glo "_law_number" 32, T.keep "_law_number" 53⟩
def kk_law_sale : RT → (PyData → List PyData → Prop) := fun R v c => R (.dat v) [.cel true c]
def S_law_sale : DSp := fun as Q => match as with
  | [.cel true x0] => q_law_sale x0 (kk_law_sale Q)
  | _ => False
theorem len_law_sale (as : List SD) (Q : SD → List SD → Prop) (h : S_law_sale as Q) : as.length = 1 := by
  unfold S_law_sale at h
  split at h
  · rfl
  · exact h.elim
theorem cels_law_sale : CelsIn 1 S_law_sale := by
  intro as Q h i p xs e
  unfold S_law_sale at h
  split at h
  · exact cels1 (ds := []) e
  · exact h.elim
def N_law_sale : List Str := ["_law_pot_here", "_law_gross", "_law_charges", "_law_rate", "_law_bottom", "_law_top", "_law_heads"]
theorem sc_law_sale : FnScope N_law_sale ["_law_pot_here"] (defScope (top 29)) := ⟨rfl, rfl, rfl, by decide +kernel, rfl, by decide +kernel, by decide +kernel⟩
theorem fg_law_sale (T : Tp K mg) (D_law_fraction : Dn P w K mg base "_law_fraction" 1 ["_law_p", "_law_q"] S_law_fraction) (D_law_number : Dn P w K mg base "_law_number" 2 ["_law_pot_here", "_law_most"] S_law_number) (D_law_take : Dn P w K mg base "_law_take" 1 ["_law_pot_here", "_law_many"] S_law_take) {fd : FuncData} (Fn : Fun K "_law_sale" "_law_sale" (top 29) (He.ga K "_law_sale") fd) : FnG P w K mg base 3 (He.ga K "_law_sale") fd ["_law_pot_here"] S_law_sale := by
  refine dfn 1 Fn sc_law_sale len_law_sale cels_law_sale fun cdv A outer s H hr hA => ⟨_, (scons (sset 1 sc_law_sale.nd (dcnC 0 D_law_number (hr.mono (by decide)) hA (acons (dpow di di) anil))) (scons (sset 2 sc_law_sale.nd (dx (dixP (dfrz (dlst (acons (dfrz (dcnC 0 D_law_number (hr.mono (by decide)) hA (acons (dpow di di) anil))) (acons (dv 1) (acons (ddiv (dv 1) di) (acons di anil)))))) (dfrz (dcnC 0 D_law_take (hr.mono (by decide)) hA (acons di anil)))))) (scons (sset 3 sc_law_sale.nd (dx (dixP (dfrz (dlst (acons (dfrz (dcnC 0 D_law_take (hr.mono (by decide)) hA (acons di anil))) (acons di (acons di (acons di (acons di anil))))))) (dfrz (dcnC 0 D_law_take (hr.mono (by decide)) hA (acons di anil)))))) (scons (sset 4 sc_law_sale.nd (dx (dadd di (dfrz (dcnC 0 D_law_number (hr.mono (by decide)) hA (acons (dixP (dfrz (dlst (acons di (acons (dpow di di) (acons (dpow di di) anil))))) (dfrz (dcnC 0 D_law_take (hr.mono (by decide)) hA (acons di anil)))) anil)))))) (scons (sset 5 sc_law_sale.nd (dx (dixP (dfrz (dlst (acons (dfrz (dcnC 0 D_law_take (hr.mono (by decide)) hA (acons (dadd (dv 4) di) anil))) (acons di (acons (dv 4) (acons di anil)))))) (dfrz (dcnC 0 D_law_take (hr.mono (by decide)) hA (acons di anil)))))) (scons (sset 6 sc_law_sale.nd (dcnC 0 D_law_number (hr.mono (by decide)) hA (acons di anil))) (sone (sret (m := 1) (dx (dtup (acons (dv 1) (acons (dv 2) (acons (dv 3) (acons (dv 6) (acons (dfrz (dcnC 0 D_law_number (hr.mono (by decide)) hA (acons (dpow di di) anil))) (acons (dfrz (dcn D_law_fraction (hr.mono (by decide)) hA (acons (dv 5) (acons (dv 4) anil)))) anil)))))))))))))))), fun as Q h => ?_⟩
  unfold S_law_sale at h
  split at h
  · exact Eq.mp (by kernel_rfl) h
  · exact h.elim
theorem ok_law_sale (T : Tp K mg) (D_law_fraction : Dn P w K mg base "_law_fraction" 1 ["_law_p", "_law_q"] S_law_fraction) (D_law_number : Dn P w K mg base "_law_number" 2 ["_law_pot_here", "_law_most"] S_law_number) (D_law_take : Dn P w K mg base "_law_take" 1 ["_law_pot_here", "_law_many"] S_law_take) : Dn P w K mg base "_law_sale" 3 ["_law_pot_here"] S_law_sale := by
  obtain ⟨kV, doc, pm, an, cdv, ct, Fn⟩ := T.fun_ "_law_sale" (top 29) 17 54
  exact ⟨⟨_, fg_law_sale T D_law_fraction D_law_number D_law_take Fn, Fn.binds (ps := ["_law_pot_here"]) fun _ _ _ _ _ _ us hl => match us, hl with | [_], _ => rfl⟩, T.glo "_law_sale" 33, T.keep "_law_sale" 54⟩
def kk_law_more_right : RT → (PyData → List PyData → Prop) := fun R v c => R (.dat v) [.cel true c]
def em_law_more_right_1 (i : List PyData × PyData × PyData × PyData) (s : Unit) : List SD := [.cel true i.1, .dat i.2.1, .dat i.2.2.1, .dat i.2.2.2, .un, .un, .un, .un]
def de_law_more_right_1 : List SD → Option ((List PyData × PyData × PyData × PyData) × (Unit))
  | [.cel true x0, .dat x1, .dat x2, .dat x3, .un, .un, .un, .un] => some ((x0, x1, x2, x3), ())
  | _ => none
theorem hde_law_more_right_1 : ∀ env i s, de_law_more_right_1 env = some (i, s) → env = em_law_more_right_1 i s := by
  intro env i s h
  unfold de_law_more_right_1 at h
  split at h
  · cases h; rfl
  · cases h
def em_law_more_right_2 (i : List PyData × PyData × PyData × PyData × PyData × PyData) (s : Unit) : List SD := [.cel true i.1, .dat i.2.1, .dat i.2.2.1, .dat i.2.2.2.1, .dat i.2.2.2.2.1, .dat i.2.2.2.2.2, .un, .un]
def de_law_more_right_2 : List SD → Option ((List PyData × PyData × PyData × PyData × PyData × PyData) × (Unit))
  | [.cel true x0, .dat x1, .dat x2, .dat x3, .dat x4, .dat x5, .un, .un] => some ((x0, x1, x2, x3, x4, x5), ())
  | _ => none
theorem hde_law_more_right_2 : ∀ env i s, de_law_more_right_2 env = some (i, s) → env = em_law_more_right_2 i s := by
  intro env i s h
  unfold de_law_more_right_2 at h
  split at h
  · cases h; rfl
  · cases h
def S_law_more_right : DSp := fun as Q => match as with
  | [.cel true x0, .dat x1, .dat x2] => q_law_more_right x0 x1 x2 (kk_law_more_right Q)
  | _ => False
theorem len_law_more_right (as : List SD) (Q : SD → List SD → Prop) (h : S_law_more_right as Q) : as.length = 3 := by
  unfold S_law_more_right at h
  split at h
  · rfl
  · exact h.elim
theorem cels_law_more_right : CelsIn 1 S_law_more_right := by
  intro as Q h i p xs e
  unfold S_law_more_right at h
  split at h
  · exact cels1 (ds := [_, _]) e
  · exact h.elim
def N_law_more_right : List Str := ["_law_pot_here", "_law_sale_here", "_law_told", "_law_gross", "_law_by", "_law_there", "_law_here", "_law_more"]
theorem sc_law_more_right : FnScope N_law_more_right ["_law_pot_here", "_law_sale_here", "_law_told"] (defScope (top 30)) := ⟨rfl, rfl, rfl, by decide +kernel, rfl, by decide +kernel, by decide +kernel⟩
theorem fg_law_more_right (T : Tp K mg) (D_law_take : Dn P w K mg base "_law_take" 1 ["_law_pot_here", "_law_many"] S_law_take) (D_purse_of : Dn P w K mg base "purse_of" 7 ["sale"] S_purse_of) {fd : FuncData} (Fn : Fun K "_law_more_right" "_law_more_right" (top 30) (He.ga K "_law_more_right") fd) : FnG P w K mg base 8 (He.ga K "_law_more_right") fd ["_law_pot_here", "_law_sale_here", "_law_told"] S_law_more_right := by
  refine dfn 1 Fn sc_law_more_right len_law_more_right cels_law_more_right fun cdv A outer s H hr hA => ⟨_, (scons (sset 3 sc_law_more_right.nd (dx (dixP (dv 1) di))) (scons (sforQ [4, 5] de_law_more_right_1 em_law_more_right_1 kk_law_more_right qb_law_more_right_1 hde_law_more_right_1 PassesOwn.never rfl (iseq (dfrz (dlst (acons di (acons (dadd di (dfrz (dcnC 0 D_law_take (hr.mono (by decide)) hA (acons di anil)))) (acons (dfrz (dcnC 0 D_law_take (hr.mono (by decide)) hA (acons (dpow di di) anil))) (acons (dsub (dpow di di) (dv 3)) anil))))))) (gn 4 sc_law_more_right.nd) (sone (sif (dcmpT op_le opr_le (dadd (dv 3) (dv 4)) (dpow di di) (nomark _)) (scons (sset 5 sc_law_more_right.nd (dcn D_purse_of (hr.mono (by decide)) hA (acons (dadd (dtup (acons (dadd (dv 3) (dv 4)) anil)) (dsl (dv 1) (so_some di) so_none)) anil))) (sone (sif (tor (dcmpT (op_neE hr.units) opd_ne (dsum (m_sum T) rfl (acons (dv 5) anil)) (dadd (dsum (m_sum T) rfl (acons (dv 2) anil)) (dv 4)) (nomark _)) (tor1 (dcmpT (op_neE hr.units) opd_ne (dfrz (dlc (dec := de_law_more_right_2) (emb := em_law_more_right_2) (qb := qb_law_more_right_2) [("_law_here", 6), ("_law_more", 7)] (.tup [6, 7]) hde_law_more_right_2 rfl sc_law_more_right.nd (izip (m_zip T) (acons (dv 2) (acons (dv 5) anil))) (blkOk_by (own := [("_law_here", 6), ("_law_more", 7)]) (N := N_law_more_right) (sc := defScope (top 30)) (by decide +kernel)) (fun _ _ _ _ _ => pg_tup rfl (pgs_cons (pg_name (i := 6) sc_law_more_right.nd rfl (Or.inl rfl)) (pgs_cons (pg_name (i := 7) sc_law_more_right.nd rfl (Or.inl rfl)) pgs_nil))) (fun _ _ _ _ _ => tif1 (dcmpT op_lt opr_lt (dv 7) (dv 6) (nomark _))) (fun _ _ _ _ _ => di) (fun d i s sk yd h => Eq.mp (by kernel_rfl) h))) (dfrz (dlst anil)) (nomark _)))).pt (sone (sret (m := 1) (dx db))) snil))) snil)) (fun R d i s nx bk h => Eq.mp (by kernel_rfl) h)) (sone (sret (m := 1) (dx db))))), fun as Q h => ?_⟩
  unfold S_law_more_right at h
  split at h
  · exact Eq.mp (by kernel_rfl) h
  · exact h.elim
theorem ok_law_more_right (T : Tp K mg) (D_law_take : Dn P w K mg base "_law_take" 1 ["_law_pot_here", "_law_many"] S_law_take) (D_purse_of : Dn P w K mg base "purse_of" 7 ["sale"] S_purse_of) : Dn P w K mg base "_law_more_right" 8 ["_law_pot_here", "_law_sale_here", "_law_told"] S_law_more_right := by
  obtain ⟨kV, doc, pm, an, cdv, ct, Fn⟩ := T.fun_ "_law_more_right" (top 30) 18 55
  exact ⟨⟨_, fg_law_more_right T D_law_take D_purse_of Fn, Fn.binds (ps := ["_law_pot_here", "_law_sale_here", "_law_told"]) fun _ _ _ _ _ _ us hl => match us, hl with | [_, _, _], _ => rfl⟩, T.glo "_law_more_right" 34, T.keep "_law_more_right" 55⟩
def kk_law_least_right : RT → (PyData → Prop) := fun R v => R (.dat v) []
def S_law_least_right : DSp := fun as Q => match as with
  | [.dat x0, .dat x1] => q_law_least_right x0 x1 (kk_law_least_right Q)
  | _ => False
theorem len_law_least_right (as : List SD) (Q : SD → List SD → Prop) (h : S_law_least_right as Q) : as.length = 2 := by
  unfold S_law_least_right at h
  split at h
  · rfl
  · exact h.elim
theorem cels_law_least_right : CelsIn 0 S_law_least_right := by
  intro as Q h i p xs e
  unfold S_law_least_right at h
  split at h
  · exact absurd e (no_cel (ds := [_, _]) i p xs)
  · exact h.elim
def N_law_least_right : List Str := ["_law_sale_here", "_law_told", "_law_least", "_law_other", "_law_there", "_law_more"]
theorem sc_law_least_right : FnScope N_law_least_right ["_law_sale_here", "_law_told"] (defScope (top 31)) := ⟨rfl, rfl, rfl, by decide +kernel, rfl, by decide +kernel, by decide +kernel⟩
theorem fg_law_least_right (T : Tp K mg) (D_least_gross : Dn P w K mg base "least_gross" 7 ["sale", "n"] S_least_gross) (D_purse_of : Dn P w K mg base "purse_of" 7 ["sale"] S_purse_of) {fd : FuncData} (Fn : Fun K "_law_least_right" "_law_least_right" (top 31) (He.ga K "_law_least_right") fd) : FnG P w K mg base 8 (He.ga K "_law_least_right") fd ["_law_sale_here", "_law_told"] S_law_least_right := by
  refine dfn 0 Fn sc_law_least_right len_law_least_right cels_law_least_right fun cdv A outer s H hr hA => ⟨_, (scons (sset 2 sc_law_least_right.nd (dcn D_least_gross (hr.mono (by decide)) hA (acons (dv 0) (acons (dixP (dv 1) di) anil)))) (scons (sif (tor (tisN (dv 2)) (tor1 (dcmpT op_gt opr_gt (dv 2) (dixP (dv 0) di) (nomark _)))).pt (sone (sret (m := 0) (dx db))) snil) (scons (sset 3 sc_law_least_right.nd (dx (dadd (dtup (acons (dv 2) anil)) (dsl (dv 0) (so_some di) so_none)))) (scons (sset 4 sc_law_least_right.nd (dcn D_purse_of (hr.mono (by decide)) hA (acons (dv 3) anil))) (scons (sif (tor (dcmpT op_lt opr_lt (dixP (dv 4) di) (dixP (dv 1) di) (nomark _)) (tor1 (tand (dcmpT op_gt opr_gt (dv 2) di (nomark _)) (tand1 (dcmpT (op_neE hr.units) opd_ne (dixP (dv 4) di) (dixP (dv 1) di) (nomark _)))).pt)).pt (sone (sret (m := 0) (dx db))) snil) (ssforget [4] (scons (sif (tand (dcmpT op_gt opr_gt (dv 2) di (nomark _)) (tand1 (dcmpT op_ge opr_ge (dixP (dfrz (dcn D_purse_of (hr.mono (by decide)) hA (acons (dadd (dtup (acons (dsub (dv 2) di) anil)) (dsl (dv 0) (so_some di) so_none)) anil))) di) (dixP (dv 1) di) (nomark _)))).pt (sone (sret (m := 0) (dx db))) snil) (scons (sset 5 sc_law_least_right.nd (dcn D_least_gross (hr.mono (by decide)) hA (acons (dv 0) (acons (dadd (dixP (dv 1) di) di) anil)))) (sone (sret (m := 0) (dx (dandV (dcmp (op_eqE hr.units) opd_eq (dfrz (dcn D_least_gross (hr.mono (by decide)) hA (acons (dv 3) (acons (dixP (dv 1) di) anil)))) (dv 2) (nomark _)) (done (dorV (disN (dv 5)) (done (dcmp op_gt opr_gt (dv 5) (dixP (dv 0) di) (nomark _))))))))))))))))), fun as Q h => ?_⟩
  unfold S_law_least_right at h
  split at h
  · exact Eq.mp (by kernel_rfl) h
  · exact h.elim
theorem ok_law_least_right (T : Tp K mg) (D_least_gross : Dn P w K mg base "least_gross" 7 ["sale", "n"] S_least_gross) (D_purse_of : Dn P w K mg base "purse_of" 7 ["sale"] S_purse_of) : Dn P w K mg base "_law_least_right" 8 ["_law_sale_here", "_law_told"] S_law_least_right := by
  obtain ⟨kV, doc, pm, an, cdv, ct, Fn⟩ := T.fun_ "_law_least_right" (top 31) 19 56
  exact ⟨⟨_, fg_law_least_right T D_least_gross D_purse_of Fn, Fn.binds (ps := ["_law_sale_here", "_law_told"]) fun _ _ _ _ _ _ us hl => match us, hl with | [_, _], _ => rfl⟩, T.glo "_law_least_right" 35, T.keep "_law_least_right" 56⟩
def kk_law : RT → (PyData → Prop) := fun R v => R (.dat v) []
def em_law_1 (i : PyData) (s : Unit) : List SD := [.dat i, .un, .un, .un, .un, .un, .un, .un]
def de_law_1 : List SD → Option ((PyData) × (Unit))
  | [.dat x0, .un, .un, .un, .un, .un, .un, .un] => some (x0, ())
  | _ => none
theorem hde_law_1 : ∀ env i s, de_law_1 env = some (i, s) → env = em_law_1 i s := by
  intro env i s h
  unfold de_law_1 at h
  split at h
  · cases h; rfl
  · cases h
def em_law_2 (i : PyData) (s : List PyData) : List SD := [.dat i, .un, .cel false s, .un, .un, .un, .un, .un]
def de_law_2 : List SD → Option ((PyData) × (List PyData))
  | [.dat x0, .un, .cel false x2, .un, .un, .un, .un, .un] => some (x0, x2)
  | _ => none
theorem hde_law_2 : ∀ env i s, de_law_2 env = some (i, s) → env = em_law_2 i s := by
  intro env i s h
  unfold de_law_2 at h
  split at h
  · cases h; rfl
  · cases h
def em_law_3 (i : PyData × List PyData × PyData) (s : Unit) : List SD := [.dat i.1, .un, .cel false i.2.1, .dat i.2.2, .un, .un, .un, .un]
def de_law_3 : List SD → Option ((PyData × List PyData × PyData) × (Unit))
  | [.dat x0, .un, .cel false x2, .dat x3, .un, .un, .un, .un] => some ((x0, x2, x3), ())
  | _ => none
theorem hde_law_3 : ∀ env i s, de_law_3 env = some (i, s) → env = em_law_3 i s := by
  intro env i s h
  unfold de_law_3 at h
  split at h
  · cases h; rfl
  · cases h
def em_law_4 (i : PyData) (s : List PyData) : List SD := [.dat i, .un, .cel false s, .un, .un, .un, .un, .un]
def de_law_4 : List SD → Option ((PyData) × (List PyData))
  | [.dat x0, .un, .cel false x2, .un, .un, .un, .un, .un] => some (x0, x2)
  | _ => none
theorem hde_law_4 : ∀ env i s, de_law_4 env = some (i, s) → env = em_law_4 i s := by
  intro env i s h
  unfold de_law_4 at h
  split at h
  · cases h; rfl
  · cases h
def S_law : DSp := fun as Q => match as with
  | [.dat x0] => q_law x0 (kk_law Q)
  | _ => False
theorem len_law (as : List SD) (Q : SD → List SD → Prop) (h : S_law as Q) : as.length = 1 := by
  unfold S_law at h
  split at h
  · rfl
  · exact h.elim
theorem cels_law : CelsIn 0 S_law := by
  intro as Q h i p xs e
  unfold S_law at h
  split at h
  · exact absurd e (no_cel (ds := [_]) i p xs)
  · exact h.elim
def N_law : List Str := ["_law_script", "_law_k", "_law_pot_here", "_law_sales", "_law_told", "_law_sale_here", "_law_here", "_law_turn"]
theorem sc_law : FnScope N_law ["_law_script"] (defScope (top 32)) := ⟨rfl, rfl, rfl, by decide +kernel, rfl, by decide +kernel, by decide +kernel⟩
theorem fg_law (T : Tp K mg) (D_law_least_right : Dn P w K mg base "_law_least_right" 8 ["_law_sale_here", "_law_told"] S_law_least_right) (D_law_more_right : Dn P w K mg base "_law_more_right" 8 ["_law_pot_here", "_law_sale_here", "_law_told"] S_law_more_right) (D_law_pot : Dn P w K mg base "_law_pot" 1 ["_law_script", "_law_k"] S_law_pot) (D_law_sale : Dn P w K mg base "_law_sale" 3 ["_law_pot_here"] S_law_sale) (D_purse_of : Dn P w K mg base "purse_of" 7 ["sale"] S_purse_of) {fd : FuncData} (Fn : Fun K "law" "law" (top 32) (He.ga K "law") fd) : FnG P w K mg base 9 (He.ga K "law") fd ["_law_script"] S_law := by
  refine dfn 0 Fn sc_law len_law cels_law fun cdv A outer s H hr hA => ⟨_, (scons (sforQ [1, 2, 3, 4, 5, 6] de_law_1 em_law_1 kk_law qb_law_1 hde_law_1 PassesOwn.never rfl (irange1 (m_range T) (acons (dadd (dmin2 (m_min T) rfl (acons (dlen (m_len T) (acons (dv 0) anil)) (acons di anil))) di) anil)) (gn 1 sc_law.nd) (scons (sset 2 sc_law.nd (dcn D_law_pot (hr.mono (by decide)) hA (acons (dv 0) (acons (dv 1) anil)))) (ssforget [1] (scons (ssetLc (dec := de_law_2) (emb := em_law_2) (qb := qb_law_2) 3 [("_law_turn", 7)] (.one 7) hde_law_2 rfl sc_law.nd (irange1 (m_range T) (acons di anil)) (blkOk_by (own := [("_law_turn", 7)]) (N := N_law) (sc := defScope (top 32)) (by decide +kernel)) (fun _ _ _ _ _ => pg_name (i := 7) sc_law.nd rfl (Or.inl rfl)) (fun _ _ _ _ _ => tyes) (fun _ _ _ _ _ => (dfrz (dcnC 2 D_law_sale (hr.mono (by decide)) hA anil))) (fun d i s sk yd h => Eq.mp (by kernel_rfl) h) (sw_true rfl rfl rfl (by decide +kernel))) (ssfreeze2 3 (scons (ssetLc (dec := de_law_3) (emb := em_law_3) (qb := qb_law_3) 4 [("_law_sale_here", 5)] (.one 5) hde_law_3 rfl sc_law.nd (iseq (dv 3)) (blkOk_by (own := [("_law_sale_here", 5)]) (N := N_law) (sc := defScope (top 32)) (by decide +kernel)) (fun _ _ _ _ _ => pg_name (i := 5) sc_law.nd rfl (Or.inl rfl)) (fun _ _ _ _ _ => tyes) (fun _ _ _ _ _ => (dfrz (dcn D_purse_of (hr.mono (by decide)) hA (acons (dv 5) anil)))) (fun d i s sk yd h => Eq.mp (by kernel_rfl) h) (sw_true rfl rfl rfl (by decide +kernel))) (ssfreeze2 4 (sone (sforQ [3, 4, 5, 6] de_law_4 em_law_4 kk_law qb_law_4 hde_law_4 PassesOwn.never rfl (izip (m_zip T) (acons (drev (dv 3)) (acons (drev (dv 4)) anil))) (gtup (gl_cons gok_n (gl_cons gok_n gl_nil)) rfl (gcons (gn 5 sc_law.nd) (gcons (gn 6 sc_law.nd) gnil))) (sone (sif (tor (tnot (dtest (dfrz (dcn D_law_least_right (hr.mono (by decide)) hA (acons (dv 5) (acons (dv 6) anil)))))) (tor (tnot (dtest (dfrz (dcnC 2 D_law_more_right (hr.mono (by decide)) hA (acons (dv 5) (acons (dv 6) anil)))))) (tor1 (dcmpT (op_neE hr.units) opd_ne (dfrz (dcn D_purse_of (hr.mono (by decide)) hA (acons (dv 5) anil))) (dv 6) (nomark _))))).pt (sone (sret (m := 0) (dx db))) snil)) (fun R d i s nx bk h => Eq.mp (by kernel_rfl) h))))))))) (fun R d i s nx bk h => Eq.mp (by kernel_rfl) h)) (sone (sret (m := 0) (dx db)))), fun as Q h => ?_⟩
  unfold S_law at h
  split at h
  · exact Eq.mp (by kernel_rfl) h
  · exact h.elim
theorem ok_law (T : Tp K mg) (D_law_least_right : Dn P w K mg base "_law_least_right" 8 ["_law_sale_here", "_law_told"] S_law_least_right) (D_law_more_right : Dn P w K mg base "_law_more_right" 8 ["_law_pot_here", "_law_sale_here", "_law_told"] S_law_more_right) (D_law_pot : Dn P w K mg base "_law_pot" 1 ["_law_script", "_law_k"] S_law_pot) (D_law_sale : Dn P w K mg base "_law_sale" 3 ["_law_pot_here"] S_law_sale) (D_purse_of : Dn P w K mg base "purse_of" 7 ["sale"] S_purse_of) : Dn P w K mg base "law" 9 ["_law_script"] S_law := by
  obtain ⟨kV, doc, pm, an, cdv, ct, Fn⟩ := T.fun_ "law" (top 32) 20 57
  exact ⟨⟨_, fg_law T D_law_least_right D_law_more_right D_law_pot D_law_sale D_purse_of Fn, Fn.binds (ps := ["_law_script"]) fun _ _ _ _ _ _ us hl => match us, hl with | [_], _ => rfl⟩, T.glo "law" 36, T.keep "law" 57⟩
theorem law_imp (as : List SD) (Q : SD → List SD → Prop) (h : lawS 63 as Q) : S_law as Q := by
  unfold lawS at h
  split at h
  · obtain ⟨⟨ns, rfl, hn⟩, h⟩ := h
    exact the_law ns hn _ (h [])
  · exact h.elim

end
theorem facts {P : Program} {w : World} {K : PySem.W.Frag} {h : Heap} {mg : Str → Option Value} {f : Addr} (X : K.In h) (G : h.Ns mainGlobals mg) (hfa : mg ("law" : Str) = some (.ref f)) (c : He.SaysE fa fn K) :
    ∃ fd : FuncData, (∀ (s : Shared) (v : Value), BindsTo s fd ⟨[v], []⟩ [("_law_script", v)]) ∧ ∀ base : Heap, K.In base → base.Ns mainGlobals mg → FnG P w K mg base 9 f fd ["_law_script"] (lawS 63) := by
  have T : Tp K mg := ⟨c, h, X, G⟩
  have e := hfa.symm.trans (T.glo "law" 36)
  cases e
  obtain ⟨kV, doc, pm, an, cdv, ct, Fn⟩ := T.fun_ "law" (top 32) 20 57
  refine ⟨PySem.W.fnOf "law" "law" (defArgs (top 32)) (defBody (top 32)) (defScope (top 32)) .none kV doc pm an cdv ct, fun s v => .of_eq rfl, fun base _ _ => ?_⟩
  have D_is_whole : Dn P w K mg base "is_whole" 1 ["thing"] S_is_whole := ok_is_whole T 
  have D_is_within : Dn P w K mg base "is_within" 2 ["thing", "least", "most"] S_is_within := ok_is_within T D_is_whole
  have D_is_from : Dn P w K mg base "is_from" 2 ["thing", "least"] S_is_from := ok_is_from T D_is_whole
  have D_are_wholes : Dn P w K mg base "are_wholes" 2 ["thing", "many"] S_are_wholes := ok_are_wholes T D_is_whole
  have D_divisor_of : Dn P w K mg base "divisor_of" 1 ["one", "other"] S_divisor_of := ok_divisor_of T 
  have D_is_fraction : Dn P w K mg base "is_fraction" 3 ["thing"] S_is_fraction := ok_is_fraction T D_are_wholes D_divisor_of
  have D_need_number : Dn P w K mg base "need_number" 3 ["thing"] S_need_number := ok_need_number T D_is_from
  have D_is_part : Dn P w K mg base "is_part" 4 ["thing"] S_is_part := ok_is_part T D_is_fraction
  have D_is_sale : Dn P w K mg base "is_sale" 5 ["thing"] S_is_sale := ok_is_sale T D_is_part D_is_within
  have D_need_sale : Dn P w K mg base "need_sale" 6 ["thing"] S_need_sale := ok_need_sale T D_is_sale
  have D_purse_of : Dn P w K mg base "purse_of" 7 ["sale"] S_purse_of := ok_purse_of T D_need_sale
  have D_least_pot : Dn P w K mg base "least_pot" 1 ["rate", "n"] S_least_pot := ok_least_pot T 
  have D_least_gross : Dn P w K mg base "least_gross" 7 ["sale", "n"] S_least_gross := ok_least_gross T D_least_pot D_need_number D_need_sale
  have D_law_pot : Dn P w K mg base "_law_pot" 1 ["_law_script", "_law_k"] S_law_pot := ok_law_pot T 
  have D_law_take : Dn P w K mg base "_law_take" 1 ["_law_pot_here", "_law_many"] S_law_take := ok_law_take T 
  have D_law_fraction : Dn P w K mg base "_law_fraction" 1 ["_law_p", "_law_q"] S_law_fraction := ok_law_fraction T 
  have D_law_number : Dn P w K mg base "_law_number" 2 ["_law_pot_here", "_law_most"] S_law_number := ok_law_number T D_law_take
  have D_law_sale : Dn P w K mg base "_law_sale" 3 ["_law_pot_here"] S_law_sale := ok_law_sale T D_law_fraction D_law_number D_law_take
  have D_law_more_right : Dn P w K mg base "_law_more_right" 8 ["_law_pot_here", "_law_sale_here", "_law_told"] S_law_more_right := ok_law_more_right T D_law_take D_purse_of
  have D_law_least_right : Dn P w K mg base "_law_least_right" 8 ["_law_sale_here", "_law_told"] S_law_least_right := ok_law_least_right T D_least_gross D_purse_of
  exact (fg_law T D_law_least_right D_law_more_right D_law_pot D_law_sale D_purse_of Fn).imp law_imp
/-! ### the head -/
abbrev R : PySem.W.OpenRow := PySem.W.OpenLaw.row PySem.Challenge.rw_prizelog_k47_whole_purses
abbrev hk : PySem.W.Hook := He.hookE 5 fa fn
def ob (s : PySem.W.SharedT) : He.Al := He.obsG 5 fa fn (HandSHeadRun.getT s)
theorem ob_eq (s : PySem.W.SharedT) : ob s = hk.obs s.abs := He.obsG_eq (HandSHeadRun.getT_eq s)
def loose : List Str := ["is_whole", "is_within", "is_from", "are_wholes", "divisor_of", "is_fraction", "PrizeError", "NoNumber", "NoSale", "need_number", "MOST_GROSS", "MOST_RATE", "MOST_HEADS", "MOST_BOUNTY", "is_part", "is_sale", "need_sale", "purse_of", "least_pot", "least_gross", "_law_pot", "_law_take", "_law_fraction", "_law_number", "_law_sale", "_law_more_right", "_law_least_right"]
theorem run (w : World) : HandSHeadRun.RunEq R (PySem.W.view R.prog [32]) hk ob 4000 loose w := by
  intro os
  kernel_rfl
end K47
open PySem PySem.W PySem.Calls PyProof.Rows
set_option maxHeartbeats 0 in
theorem PySem.Challenge.cw_prizelog_k47_whole_purses_holds : PySem.Challenge.rw_prizelog_k47_whole_purses.Holds := by
  w_on; o_law
  refine HandSHeadRun.head_any (r := K47.R) (q := view K47.R.prog [32]) (H := K47.hk) (ob := K47.ob) (M := 4000) (loose := K47.loose) (d := HandSHeadRun.topDef K47.R.prog 32) (kwd := []) K47.ob_eq
    (by kernel_rfl) (fun s => by kernel_rfl) K47.run (by kernel_rfl) (by kernel_rfl) (by kernel_rfl) (by rfl) (by first | assumption | decide +kernel) (by decide +kernel) ⟨rfl, rfl, rfl, rfl, rfl, by decide +kernel⟩ ?hw ?hc
  case hw => w_witness2
  case hc =>
    refine DL.walk_dataE (l := PySem.Challenge.rw_prizelog_k47_whole_purses) (n := 63) (k := 9) (x := "_law_script") rfl (by decide) (by kernel_rfl) ⟨rfl, by decide, by decide⟩ ?F
    intro w mg fa h Y G hmg0
    obtain ⟨K, KX, c⟩ := Y
    have hmg : mg ("law" : PySem.Str) = some (.ref fa) := by
      have e : (HandSHeadRun.topDef K47.R.prog 32).name = ("law" : PySem.Str) := by kernel_rfl
      rw [← e]
      exact hmg0
    obtain ⟨fd, hb, hF⟩ := K47.facts (P := (PySem.Challenge.rw_prizelog_k47_whole_purses).prog) (w := w) KX G hmg c
    exact ⟨K, fd, KX, hb, hF⟩
