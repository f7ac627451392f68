import PyProof.Rows.All
import Wide.All
import OpenK.AllK
import Wide.FinOn
import HandS.ForMost
import HandS.Exc
import HandS.ExcOwn
import HandS.TryOnly
import HandS.WordsExc
import HandS.Wide
import HandS.IsInst
import HandS.Walk
import HandS.Zip
import HandS.Evl
import HandS.TupAny
import HandS.ExcIs
import HandS.HeadHook1
import HandS.TupMul
import HandS.Head0
import HandS.Head1
import HandS.Head2
import HandS.HeadEnd
import PyProof.ReprBulk
import KE.KTupSum
import HandS.Deep
import HandS.Conv
import HandS.Style
import HandS.Dict
import KE.GoesEnum
import HandS.Flt
import KE.DatumOrd
import PyProof.P3In
import HandS.SetFor
import HandS.Strs
import HandS.More
import HandS.HotCalls
import PySem.Challenge.RW_prizelog_k17_whole_chases_parted
set_option Elab.async false
set_option linter.all false
set_option maxRecDepth 100000
set_option maxHeartbeats 4000000
/-! The data layer: programs read as functions of plain data. A name holds nothing, a datum, or a list cell of its own. -/
namespace DL
open PySem PySem.Spec PyProof.Rows L2
open Evl (Ex)

/-- a list that stays as it is: tracked, known, or written at the top -/
def RdL (K : PySem.W.Frag) (F : Hp) (a : Addr) (xs : List V) : Prop :=
  Rd F a (.lst xs) ∨ ∃ (its : List Value) (n : Nat), K.lookup a = some { cls := .type "list", data := .seq its.toArray n } ∧ Vals xs its ∧ its.length ≤ sizeLine
theorem RdL.mono {K : PySem.W.Frag} {F F' : Hp} {a : Addr} {xs : List V} (e : Ex F F') (h : RdL K F a xs) : RdL K F' a xs := h.imp (Evl.ex_rd e) id
theorem RdL.of {K : PySem.W.Frag} {F : Hp} {a : Addr} {xs : List V} (h : F a = some (.lst xs)) : RdL K F a xs := .inl (.inl h)
theorem RdL.sq {K : PySem.W.Frag} {F : Hp} {a : Addr} {xs : List V} (h : RdL K F a xs) : SqL K F a xs := by
  rcases h with h | ⟨its, n, h1, h2, h3⟩
  · exact .inl h
  · exact .inr ⟨_, its.toArray, n, h1, rfl, rfl, rfl, by simpa using h3, by simpa using h2⟩
theorem RdL.obj {X : Cx} {pins : List (Addr × Obj)} {σ : L2.St} {H : Hp} {s : Shared} {a : Addr} {xs : List V} (h : RdL X.K H a xs) (I : Inv X pins σ H s) : xs.length ≤ sizeLine ∧ ∃ (its : List Value) (n : Nat), Vals xs its ∧ s.heap.get? a = some { cls := .type "list", data := .seq its.toArray n } := by
  rcases h with h | ⟨its, n, h1, h2, h3⟩
  · exact h.ok I.hok
  · exact ⟨by rw [h2.length]; exact h3, its, n, h2, I.kIn a _ h1⟩
/-- the classes of refusals -/
def exNames : List Str := "PrizeError" :: "NoWeights" :: "NoPart" :: "NoNumber" :: "NoLog" :: "NoChase" :: "NoMiles" :: "NoLogs" :: "NoTable" :: "NoSights" :: "NoSet" :: "NoRoll" :: "NoName" :: "NoHour" :: "NoScheme" :: "NoCrew" :: "NoMan" :: "NoSale" :: "NoCrews" :: "NoPages" :: "NoPage" :: "NoPrize" :: "NoBalances" :: "NoMoney" :: "NoChange" :: "TooMany" :: "NoText" :: "NoRow" :: []
def exBases : List Value := [.type "ValueError", .type "Exception", .type "BaseException", .type "object"]
def exTypes : List String := ["int", "bool", "str", "tuple", "dict"]
/-- whether the one is the other or of it -/
def exSub (c d : Str) : Bool := decide (c = d) || decide (d = "PrizeError")
/-- what a class of refusals must say -/
def xcB (K : PySem.W.Frag) (c : Str) : Bool :=
  decide (PySem.W.findIn K (.ref (He.ga K c)) "__getattribute__" = some (some (.builtin "BaseException.__getattribute__"))) &&
  (decide (PySem.W.findIn K (.ref (He.ga K c)) "__getattr__" = some none) &&
  (decide (PySem.W.subIn K (.ref (He.ga K c)) (.type "BaseException") = some true) &&
  (PySem.W.hasDictIn K (He.ga K c) &&
  (decide (PySem.W.findIn K (.ref (He.ga K c)) "__class__" = some (some (.builtin "object.__class__"))) &&
  (decide (PySem.W.specialIn K (.builtin "object.__class__") "__get__" = some (some (.builtin "getset_descriptor.__get__"))) &&
  (decide (PySem.W.takesIn K (.builtin "object.__class__") = some true) &&
  (decide (PySem.W.mroIn K (He.ga K c) (.type "object") = some true) &&
  (PySem.W.excIn K (He.ga K c) exBases "ValueError.__new__" &&
  (PySem.W.keepIn K (.ref (He.ga K c)) &&
  (decide (PySem.W.typeIn K (.ref (He.ga K c)) = some (.type "type")) &&
  (decide (PySem.W.exmOne K (.ref (He.ga K c)) (.ref (He.ga K "PrizeError")) = some true) &&
  (decide (PySem.W.kitOne K (.ref (He.ga K c)) (.type "ValueError") = some true) &&
  (exTypes.all (fun T => decide (PySem.W.kitOne K (.ref (He.ga K c)) (.type T) = some false)) &&
  exNames.all (fun d => decide (PySem.W.kitOne K (.ref (He.ga K c)) (.ref (He.ga K d)) = some (exSub c d))))))))))))))))
structure XcF (K : PySem.W.Frag) (c : Str) : Prop where
  cls : ExcC K (He.ga K c)
  made : PySem.W.excIn K (He.ga K c) exBases "ValueError.__new__" = true
  kp : PySem.W.keepIn K (.ref (He.ga K c)) = true
  ty : PySem.W.typeIn K (.ref (He.ga K c)) = some (.type "type")
  exm : PySem.W.exmOne K (.ref (He.ga K c)) (.ref (He.ga K "PrizeError")) = some true
  ve : PySem.W.kitOne K (.ref (He.ga K c)) (.type "ValueError") = some true
  six : ∀ T ∈ exTypes, PySem.W.kitOne K (.ref (He.ga K c)) (.type T) = some false
  own : ∀ d ∈ exNames, PySem.W.kitOne K (.ref (He.ga K c)) (.ref (He.ga K d)) = some (exSub c d)
theorem xcB_ok {K : PySem.W.Frag} {c : Str} (h : xcB K c = true) : XcF K c := by
  unfold xcB at h
  simp only [Bool.and_eq_true, decide_eq_true_eq, List.all_eq_true] at h
  obtain ⟨a1, a2, a3, a4, a5, a6, a7, a8, a9, b1, b2, b3, b4, b5, b6⟩ := h
  exact ⟨⟨a1, a2, a3, a4, a5, a6, a7, a8⟩, a9, b1, b2, b3, b4, b5, b6⟩
/-- an exception's object -/
def ExcAt (C a : Addr) : Heap → Prop := fun h => ∃ oe vs, h.get? a = some oe ∧ oe.cls = .ref C ∧ oe.dict = none ∧ oe.data = .fields vs
mutual
inductive DR (K : PySem.W.Frag) (F : Hp) : V → PyData → Prop
  | non : DR K F .non .none
  | bl (b : Bool) : DR K F (.bl b) (.bool b)
  | int (i : Int) : DR K F (.int i) (.int i)
  | str (x : Str) : DR K F (.str x) (.str x)
  | lst {a : Addr} {xs : List V} {ds : List PyData} : RdL K F a xs → DRs K F xs ds → DR K F (.ref a) (.list ds)
  | tup {a : Addr} {xs : List V} {ds : List PyData} : SqT K F a xs → DRs K F xs ds → DR K F (.ref a) (.tuple ds)
  | dct {a : Addr} : F a = some (.dK []) → DR K F (.ref a) (.dict [])
  /-- a list that a def made and may still change -/
  | row {a : Addr} {xs : List V} {ds : List PyData} : F a = some (.lst xs) → DRs K F xs ds → DR K F (.ref a) (.dict [(.none, .list ds)])
  /-- a caught refusal of the class c -/
  | exc {a : Addr} {c : Str} : F a = some (.ext (ExcAt (He.ga K c) a)) → XcF K c → DR K F (.ref a) (.dict [(.none, .str c)])
inductive DRs (K : PySem.W.Frag) (F : Hp) : List V → List PyData → Prop
  | nil : DRs K F [] []
  | cons {v : V} {vs : List V} {d : PyData} {ds : List PyData} : DR K F v d → DRs K F vs ds → DRs K F (v :: vs) (d :: ds)
end

section
variable {K : PySem.W.Frag} {F F' H H' : Hp}
mutual
theorem DR.mono (e : Ex F F') : ∀ {v : V} {d : PyData}, DR K F v d → DR K F' v d
  | _, _, .non => .non
  | _, _, .bl b => .bl b
  | _, _, .int i => .int i
  | _, _, .str x => .str x
  | _, _, .lst h r => .lst (h.mono e) (DRs.mono e r)
  | _, _, .tup h r => .tup (Evl.ex_t e h) (DRs.mono e r)
  | _, _, .dct h => .dct (e _ _ h)
  | _, _, .row h r => .row (e _ _ h) (DRs.mono e r)
  | _, _, .exc h x => .exc (e _ _ h) x
theorem DRs.mono (e : Ex F F') : ∀ {v : List V} {d : List PyData}, DRs K F v d → DRs K F' v d
  | _, _, .nil => .nil
  | _, _, .cons a b => .cons (DR.mono e a) (DRs.mono e b)
end
theorem DRs.length : ∀ {vs : List V} {ds : List PyData}, DRs K F vs ds → vs.length = ds.length
  | _, _, .nil => rfl
  | _, _, .cons _ b => congrArg (· + 1) b.length
theorem DRs.get : ∀ {vs : List V} {ds : List PyData} {i : Nat} {d : PyData}, DRs K F vs ds → ds[i]? = some d → ∃ v, vs[i]? = some v ∧ DR K F v d
  | _, _, _, _, .nil, h => by simp at h
  | _, _, 0, _, .cons a b, h => by simp at h; subst h; exact ⟨_, rfl, a⟩
  | _, _, i + 1, d, .cons a b, h => by
    obtain ⟨v, h1, h2⟩ := b.get (i := i) (d := d) (by simpa using h)
    exact ⟨v, by simpa using h1, h2⟩
theorem DRs.append : ∀ {vs ws : List V} {ds es : List PyData}, DRs K F vs ds → DRs K F ws es → DRs K F (vs ++ ws) (ds ++ es)
  | _, _, _, _, .nil, h => h
  | _, _, _, _, .cons a b, h => .cons a (b.append h)
theorem DRs.take : ∀ {vs : List V} {ds : List PyData} (n : Nat), DRs K F vs ds → DRs K F (vs.take n) (ds.take n)
  | _, _, 0, _ => .nil
  | _, _, _ + 1, .nil => .nil
  | _, _, n + 1, .cons a b => .cons a (b.take n)
theorem DRs.drop : ∀ {vs : List V} {ds : List PyData} (n : Nat), DRs K F vs ds → DRs K F (vs.drop n) (ds.drop n)
  | _, _, 0, h => h
  | _, _, _ + 1, .nil => .nil
  | _, _, n + 1, .cons a b => b.drop n
theorem DRs.set : ∀ {vs : List V} {ds : List PyData} (n : Nat) {v : V} {d : PyData}, DR K F v d → DRs K F vs ds → DRs K F (vs.set n v) (ds.set n d)
  | _, _, _, _, _, _, .nil => .nil
  | _, _, 0, _, _, h, .cons a b => .cons h b
  | _, _, n + 1, _, _, h, .cons a b => .cons a (b.set n h)
theorem DRs.one {v : V} {d : PyData} (h : DR K F v d) : DRs K F [v] [d] := .cons h .nil
theorem DRs.inv_nil {vs : List V} (h : DRs K F vs []) : vs = [] := by cases h; rfl
theorem DRs.inv1 {vs : List V} {d : PyData} (h : DRs K F vs [d]) : ∃ v, vs = [v] ∧ DR K F v d := by
  cases h with
  | cons a b => cases b; exact ⟨_, rfl, a⟩
theorem DRs.inv2 {vs : List V} {d e : PyData} (h : DRs K F vs [d, e]) : ∃ v w, vs = [v, w] ∧ DR K F v d ∧ DR K F w e := by
  cases h with
  | cons a b =>
    obtain ⟨w, rfl, r⟩ := b.inv1
    exact ⟨_, w, rfl, a, r⟩
theorem DR.inv_int {v : V} {i : Int} (h : DR K F v (.int i)) : v = .int i := by cases h; rfl
theorem DR.inv_bool {v : V} {i : Bool} (h : DR K F v (.bool i)) : v = .bl i := by cases h; rfl
theorem DR.inv_str {v : V} {i : Str} (h : DR K F v (.str i)) : v = .str i := by cases h; rfl
theorem DR.inv_none {v : V} (h : DR K F v .none) : v = .non := by cases h; rfl
theorem DR.inv_tup {v : V} {ds : List PyData} (h : DR K F v (.tuple ds)) : ∃ a xs, v = .ref a ∧ SqT K F a xs ∧ DRs K F xs ds := by cases h with | tup a b => exact ⟨_, _, rfl, a, b⟩
theorem DR.inv_lst {v : V} {ds : List PyData} (h : DR K F v (.list ds)) : ∃ a xs, v = .ref a ∧ RdL K F a xs ∧ DRs K F xs ds := by cases h with | lst a b => exact ⟨_, _, rfl, a, b⟩
end

/-! ### what a name holds -/
inductive SD where
  | un
  | dat (d : PyData)
  | cel (p : Bool) (xs : List PyData)

/-- what is fixed for a def's whole run -/
structure Zx where
  F0 : Hp
  H0 : Hp
  A0 : Nat → Option Addr
  Pr0 : Hp
structure Gx (Z : Zx) where
  Pr : Hp
  px : Ex Z.Pr0 Pr
variable {Z : Zx}
def Gx.hid (g : Gx Z) (D : Addr) (vs : List V) (h : g.Pr D = none) : Gx Z := ⟨upd g.Pr D (.lst vs), fun a o e => by
  have q := g.px a o e
  have ne : a ≠ D := fun z => by rw [z, h] at q; cases q
  rw [upd_ne ne]
  exact q⟩
abbrev Gx.F0 (_ : Gx Z) : Hp := Z.F0
abbrev Gx.H0 (_ : Gx Z) : Hp := Z.H0
abbrev Gx.A0 (_ : Gx Z) : Nat → Option Addr := Z.A0

structure Ok (K : PySem.W.Frag) (g : Gx Z) (F : Hp) (env : List SD) (σ : L2.St) (H : Hp) : Prop where
  len : env.length = σ.length
  fh : Ex F H
  dat : ∀ (i : Nat) (d : PyData), env[i]? = some (.dat d) → ∃ v, σ[i]? = some (some v) ∧ DR K F v d
  cel : ∀ (i : Nat) (p : Bool) (xs : List PyData), env[i]? = some (.cel p xs) → ∃ a vs, σ[i]? = some (some (.ref a)) ∧ F a = none ∧ H a = some (.lst vs) ∧ DRs K F vs xs ∧ (p = true → g.A0 i = some a) ∧ (p = false → g.H0 a = none)
  sep : ∀ (i j : Nat) (p q : Bool) (xs ys : List PyData) (a : Addr), env[i]? = some (.cel p xs) → env[j]? = some (.cel q ys) → σ[i]? = some (some (.ref a)) → σ[j]? = some (some (.ref a)) → i = j
  pin : ∀ (i : Nat) (a : Addr), g.A0 i = some a → ∃ xs, env[i]? = some (.cel true xs)
  frame : ∀ (a : Addr) (o : HO), g.H0 a = some o → (∀ i, g.A0 i ≠ some a) → H a = some o
  newF : ∀ (a : Addr) (o : HO), F a = some o → g.F0 a = some o ∨ g.H0 a = none
  oldF : Ex g.F0 F
  prot : ∀ (a : Addr) (o : HO), g.Pr a = some o → H a = some o ∧ F a = none ∧ ∀ (j : Nat) (p : Bool) (ys : List PyData), env[j]? = some (.cel p ys) → σ[j]? ≠ some (some (.ref a))

section
variable {K : PySem.W.Frag} {g : Gx Z} {F F' : Hp} {env : List SD} {σ : L2.St} {H : Hp}

theorem Ok.fresh0 (k : Ok K g F env σ H) {p : Addr} (h : H p = none) : g.H0 p = none := by
  cases e : g.H0 p with
  | none => rfl
  | some o =>
    by_cases q : ∃ i, g.A0 i = some p
    · obtain ⟨i, hi⟩ := q
      obtain ⟨xs, hx⟩ := k.pin i p hi
      obtain ⟨a, vs, _, _, h2, _, h3, _⟩ := k.cel i true xs hx
      have h3 := h3 rfl
      rw [hi] at h3
      cases h3
      rw [h] at h2
      cases h2
    · have z := k.frame p o e fun i hi => q ⟨i, hi⟩
      rw [h] at z
      cases z
theorem fnone (e : Ex F H) {p : Addr} (h : H p = none) : F p = none := by
  cases q : F p with
  | none => rfl
  | some o =>
    rw [e p o q] at h
    cases h
theorem ex_both (e : Ex F H) {p : Addr} {o : HO} (h : H p = none) : Ex (upd F p o) (upd H p o) := fun b u q => by
  by_cases hb : b = p
  · subst hb
    rw [upd_same] at q ⊢
    exact q
  · rw [upd_ne hb] at q ⊢
    exact e b u q
/-- a new thing that never changes -/
theorem Ok.alloc (k : Ok K g F env σ H) {p : Addr} {o : HO} (h : H p = none) : Ok K g (upd F p o) env σ (upd H p o) where
  len := k.len
  fh := ex_both k.fh h
  dat := fun i d e => by
    obtain ⟨v, h1, h2⟩ := k.dat i d e
    exact ⟨v, h1, h2.mono (Ex.new (fnone k.fh h))⟩
  cel := fun i q xs e => by
    obtain ⟨a, vs, h1, h2, h3, h4, h5⟩ := k.cel i q xs e
    have ne : a ≠ p := ne_of_none h3 h
    exact ⟨a, vs, h1, by rw [upd_ne ne]; exact h2, by rw [upd_ne ne]; exact h3, h4.mono (Ex.new (fnone k.fh h)), h5⟩
  sep := k.sep
  pin := k.pin
  frame := fun a u e n => by
    have q := k.frame a u e n
    rw [upd_ne (ne_of_none q h)]
    exact q
  newF := fun a u e => by
    by_cases hb : a = p
    · subst hb
      exact .inr (k.fresh0 h)
    · rw [upd_ne hb] at e
      exact k.newF a u e
  oldF := fun a u e => (Ex.new (fnone k.fh h)) a u (k.oldF a u e)
  prot := fun a u e => by
    obtain ⟨z1, z2, z3⟩ := k.prot a u e
    have ne : a ≠ p := ne_of_none z1 h
    exact ⟨by rw [upd_ne ne]; exact z1, by rw [upd_ne ne]; exact z2, z3⟩
/-- a new thing of no name yet -/
theorem Ok.extra (k : Ok K g F env σ H) {p : Addr} {o : HO} (h : H p = none) : Ok K g F env σ (upd H p o) where
  len := k.len
  fh := fun a u e => by
    have q := k.fh a u e
    rw [upd_ne (ne_of_none q h)]
    exact q
  dat := k.dat
  cel := fun i q xs e => by
    obtain ⟨a, vs, h1, h2, h3, h4, h5⟩ := k.cel i q xs e
    have ne : a ≠ p := ne_of_none h3 h
    exact ⟨a, vs, h1, h2, by rw [upd_ne ne]; exact h3, h4, h5⟩
  sep := k.sep
  pin := k.pin
  frame := fun a u e n => by
    have q := k.frame a u e n
    rw [upd_ne (ne_of_none q h)]
    exact q
  newF := k.newF
  oldF := k.oldF
  prot := fun a u e => by
    obtain ⟨z1, z2, z3⟩ := k.prot a u e
    have ne : a ≠ p := ne_of_none z1 h
    exact ⟨by rw [upd_ne ne]; exact z1, z2, z3⟩
theorem get_set {α : Type} {l : List α} {i j : Nat} {x y : α} (h : (l.set i x)[j]? = some y) : (i = j ∧ y = x) ∨ (i ≠ j ∧ l[j]? = some y) := by
  rw [List.getElem?_set] at h
  by_cases e : i = j
  · rw [if_pos e] at h
    split at h
    · exact .inl ⟨e, (Option.some.inj h).symm⟩
    · cases h
  · rw [if_neg e] at h
    exact .inr ⟨e, h⟩
theorem set_ne {α : Type} {l : List α} {i j : Nat} {x : α} (h : i ≠ j) : (l.set i x)[j]? = l[j]? := List.getElem?_set_ne h
theorem set_eq {α : Type} {l : List α} {i : Nat} {x y : α} (h : l[i]? = some y) : (l.set i x)[i]? = some x := by
  obtain ⟨h1, _⟩ := List.getElem?_eq_some_iff.mp h
  exact List.getElem?_set_self h1
/-- a slot that is no parameter's cell -/
def NoPar (env : List SD) (i : Nat) : Prop := ∀ xs, env[i]? ≠ some (.cel true xs)
/-- a name gets a datum -/
theorem Ok.setD (k : Ok K g F env σ H) {i : Nat} {d : PyData} {v : V} (hp : NoPar env i) (h : DR K F v d) : Ok K g F (env.set i (.dat d)) (σ.set i (some v)) H where
  len := by simp [k.len]
  fh := k.fh
  dat := fun j e hj => by
    rcases get_set hj with ⟨rfl, q⟩ | ⟨n, q⟩
    · cases q
      have hl : i < σ.length := by
        obtain ⟨h1, _⟩ := List.getElem?_eq_some_iff.mp hj
        rw [List.length_set, k.len] at h1
        exact h1
      exact ⟨v, List.getElem?_set_self hl, h⟩
    · rw [set_ne n]
      exact k.dat j e q
  cel := fun j q xs hj => by
    rcases get_set hj with ⟨_, q⟩ | ⟨n, q⟩
    · cases q
    · rw [set_ne n]
      exact k.cel j _ xs q
  sep := fun a b p q xs ys c h1 h2 h3 h4 => by
    rcases get_set h1 with ⟨_, e⟩ | ⟨n1, e1⟩
    · cases e
    rcases get_set h2 with ⟨_, e⟩ | ⟨n2, e2⟩
    · cases e
    rw [set_ne n1] at h3
    rw [set_ne n2] at h4
    exact k.sep a b p q xs ys c e1 e2 h3 h4
  pin := fun j a e => by
    obtain ⟨xs, q⟩ := k.pin j a e
    have n : i ≠ j := fun z => by subst z; exact hp xs q
    exact ⟨xs, by rw [set_ne n]; exact q⟩
  frame := k.frame
  newF := k.newF
  oldF := k.oldF
  prot := fun a u e => by
    obtain ⟨z1, z2, z3⟩ := k.prot a u e
    refine ⟨z1, z2, fun j p ys hj => ?_⟩
    rcases get_set hj with ⟨_, q⟩ | ⟨n, q⟩
    · cases q
    · rw [set_ne n]
      exact z3 j p ys q
/-- a name gets a new cell of its own -/
theorem Ok.setC (k : Ok K g F env σ H) {i : Nat} {xs : List PyData} {a : Addr} {vs : List V} (hp : NoPar env i) (hF : F a = none) (hH : H a = some (.lst vs)) (h : DRs K F vs xs) (h0 : g.H0 a = none) (hpr : g.Pr a = none)
    (nw : ∀ (j : Nat) (p : Bool) (ys : List PyData), env[j]? = some (.cel p ys) → σ[j]? ≠ some (some (.ref a))) : Ok K g F (env.set i (.cel false xs)) (σ.set i (some (.ref a))) H where
  len := by simp [k.len]
  fh := k.fh
  dat := fun j e hj => by
    rcases get_set hj with ⟨_, q⟩ | ⟨n, q⟩
    · cases q
    · rw [set_ne n]
      exact k.dat j e q
  cel := fun j q ys hj => by
    rcases get_set hj with ⟨rfl, q⟩ | ⟨n, q⟩
    · cases q
      have hl : i < σ.length := by
        obtain ⟨h1, _⟩ := List.getElem?_eq_some_iff.mp hj
        rw [List.length_set, k.len] at h1
        exact h1
      exact ⟨a, vs, List.getElem?_set_self hl, hF, hH, h, (fun z => by cases z), fun _ => h0⟩
    · rw [set_ne n]
      exact k.cel j _ ys q
  sep := fun j l p q us ys c h1 h2 h3 h4 => by
    rcases get_set h1 with ⟨e1, _⟩ | ⟨n1, e1⟩
    · rcases get_set h2 with ⟨e2, _⟩ | ⟨n2, e2⟩
      · exact e1.symm.trans e2
      · rcases get_set h3 with ⟨_, e3⟩ | ⟨n3, _⟩
        · cases e3
          rw [set_ne n2] at h4
          exact absurd h4 (nw l q ys e2)
        · exact absurd e1 n3
    · rcases get_set h2 with ⟨e2, _⟩ | ⟨n2, e2⟩
      · rcases get_set h4 with ⟨_, e3⟩ | ⟨n3, _⟩
        · cases e3
          rw [set_ne n1] at h3
          exact absurd h3 (nw j p us e1)
        · exact absurd e2 n3
      · rw [set_ne n1] at h3
        rw [set_ne n2] at h4
        exact k.sep j l p q us ys c e1 e2 h3 h4
  pin := fun j b e => by
    obtain ⟨ys, q⟩ := k.pin j b e
    have n : i ≠ j := fun z => by subst z; exact hp ys q
    exact ⟨ys, by rw [set_ne n]; exact q⟩
  frame := k.frame
  newF := k.newF
  oldF := k.oldF
  prot := fun b u e => by
    obtain ⟨z1, z2, z3⟩ := k.prot b u e
    refine ⟨z1, z2, fun j p ys hj => ?_⟩
    rcases get_set hj with ⟨rfl, q⟩ | ⟨n, q⟩
    · intro z
      rcases get_set z with ⟨_, y⟩ | ⟨n, _⟩
      · cases y
        rw [hpr] at e
        cases e
      · exact n rfl
    · rw [set_ne n]
      exact z3 j p ys q
/-- a name is forgotten (its slot may hold anything) -/
theorem Ok.setU (k : Ok K g F env σ H) {i : Nat} {o : Option V} (hp : NoPar env i) : Ok K g F (env.set i .un) (σ.set i o) H where
  len := by simp [k.len]
  fh := k.fh
  dat := fun j e hj => by
    rcases get_set hj with ⟨_, q⟩ | ⟨n, q⟩
    · cases q
    · rw [set_ne n]
      exact k.dat j e q
  cel := fun j q ys hj => by
    rcases get_set hj with ⟨_, q⟩ | ⟨n, q⟩
    · cases q
    · rw [set_ne n]
      exact k.cel j _ ys q
  sep := fun a b p q xs ys c h1 h2 h3 h4 => by
    rcases get_set h1 with ⟨_, e⟩ | ⟨n1, e1⟩
    · cases e
    rcases get_set h2 with ⟨_, e⟩ | ⟨n2, e2⟩
    · cases e
    rw [set_ne n1] at h3
    rw [set_ne n2] at h4
    exact k.sep a b p q xs ys c e1 e2 h3 h4
  pin := fun j b e => by
    obtain ⟨ys, q⟩ := k.pin j b e
    have n : i ≠ j := fun z => by subst z; exact hp ys q
    exact ⟨ys, by rw [set_ne n]; exact q⟩
  frame := k.frame
  newF := k.newF
  oldF := k.oldF
  prot := fun a u e => by
    obtain ⟨z1, z2, z3⟩ := k.prot a u e
    refine ⟨z1, z2, fun j p ys hj => ?_⟩
    rcases get_set hj with ⟨_, q⟩ | ⟨n, q⟩
    · cases q
    · rw [set_ne n]
      exact z3 j p ys q
/-- a cell's content is changed -/
theorem Ok.write (k : Ok K g F env σ H) {i : Nat} {p : Bool} {xs ys : List PyData} {a : Addr} {vs : List V} (he : env[i]? = some (.cel p xs)) (hs : σ[i]? = some (some (.ref a))) (h : DRs K F vs ys) :
    Ok K g F (env.set i (.cel p ys)) σ (upd H a (.lst vs)) := by
  obtain ⟨a', vs0, h1, h2, h3, h4, h5, h6⟩ := k.cel i p xs he
  rw [hs] at h1
  cases h1
  refine ⟨by simp [k.len], fun b u q => ?_, fun j e hj => ?_, fun j q us hj => ?_, fun j l q r us ws c h1 h2 h3 h4 => ?_, fun j b e => ?_, fun b o e n => ?_, k.newF, k.oldF, fun b u e => ?_⟩
  · have ne : b ≠ a := fun z => by rw [z, h2] at q; cases q
    rw [upd_ne ne]
    exact k.fh b u q
  · rcases get_set hj with ⟨_, q⟩ | ⟨n, q⟩
    · cases q
    · exact k.dat j e q
  · rcases get_set hj with ⟨rfl, q⟩ | ⟨n, q⟩
    · cases q
      exact ⟨a, vs, hs, h2, upd_same, h, h5, h6⟩
    · obtain ⟨b, ws, z1, z2, z3, z4, z5⟩ := k.cel j _ us q
      have ne : b ≠ a := fun z => by
        subst z
        exact n (k.sep i j _ _ _ _ b he q hs z1)
      exact ⟨b, ws, z1, z2, by rw [upd_ne ne]; exact z3, z4, z5⟩
  · have f : ∀ {j : Nat} {q : Bool} {us : List PyData}, (env.set i (SD.cel p ys))[j]? = some (.cel q us) → ∃ q' us', env[j]? = some (.cel q' us') := fun {j q us} z => by
      rcases get_set z with ⟨rfl, _⟩ | ⟨_, z⟩
      · exact ⟨_, _, he⟩
      · exact ⟨_, _, z⟩
    obtain ⟨_, _, f1⟩ := f h1
    obtain ⟨_, _, f2⟩ := f h2
    exact k.sep j l _ _ _ _ c f1 f2 h3 h4
  · obtain ⟨us, q⟩ := k.pin j b e
    by_cases n : i = j
    · subst n
      rw [he] at q
      cases q
      exact ⟨ys, set_eq he⟩
    · exact ⟨us, by rw [set_ne n]; exact q⟩
  · have ne : b ≠ a := fun z => by
      subst z
      cases p with
      | true => exact n i (h5 rfl)
      | false =>
        rw [h6 rfl] at e
        cases e
    rw [upd_ne ne]
    exact k.frame b o e n
  · obtain ⟨z1, z2, z3⟩ := k.prot b u e
    have ne : b ≠ a := fun z => by
      subst z
      exact z3 i p xs he hs
    refine ⟨by rw [upd_ne ne]; exact z1, z2, fun j q us hj => ?_⟩
    rcases get_set hj with ⟨rfl, _⟩ | ⟨_, z⟩
    · exact z3 _ p xs he
    · exact z3 j q us z
/-- an own cell becomes a datum -/
theorem Ok.freeze (k : Ok K g F env σ H) {i : Nat} {xs : List PyData} (he : env[i]? = some (.cel false xs)) : ∃ F', Ex F F' ∧ Ok K g F' (env.set i (.dat (.list xs))) σ H := by
  obtain ⟨a, vs, h1, h2, h3, h4, h5, h6⟩ := k.cel i false xs he
  have h6 := h6 rfl
  have ex : Ex F (upd F a (.lst vs)) := Ex.new h2
  refine ⟨upd F a (.lst vs), ex, by simp [k.len], fun b u q => ?_, fun j e hj => ?_, fun j q us hj => ?_, fun j l q r us ws c z1 z2 z3 z4 => ?_, fun j b e => ?_, k.frame, fun b u q => ?_, fun b u q => ex b u (k.oldF b u q), fun b u e => ?_⟩
  · by_cases z : b = a
    · subst z
      rw [upd_same] at q
      exact h3.trans q
    · rw [upd_ne z] at q
      exact k.fh b u q
  · rcases get_set hj with ⟨rfl, q⟩ | ⟨n, q⟩
    · cases q
      exact ⟨_, h1, .lst (RdL.of upd_same) (h4.mono ex)⟩
    · obtain ⟨v, z1, z2⟩ := k.dat j e q
      exact ⟨v, z1, z2.mono ex⟩
  · rcases get_set hj with ⟨_, q⟩ | ⟨n, q⟩
    · cases q
    · obtain ⟨b, ws, z1, z2, z3, z4, z5⟩ := k.cel j _ us q
      have ne : b ≠ a := fun z => by
        subst z
        exact n (k.sep i j _ _ _ _ b he q h1 z1)
      exact ⟨b, ws, z1, by rw [upd_ne ne]; exact z2, z3, z4.mono ex, z5⟩
  · rcases get_set z1 with ⟨_, e⟩ | ⟨n1, e1⟩
    · cases e
    rcases get_set z2 with ⟨_, e⟩ | ⟨n2, e2⟩
    · cases e
    exact k.sep j l q r us ws c e1 e2 z3 z4
  · obtain ⟨ys, q⟩ := k.pin j b e
    have n : i ≠ j := fun z => by subst z; rw [he] at q; cases q
    exact ⟨ys, by rw [set_ne n]; exact q⟩
  · by_cases z : b = a
    · subst z
      exact .inr h6
    · rw [upd_ne z] at q
      exact k.newF b u q
  · obtain ⟨z1, z2, z3⟩ := k.prot b u e
    have ne : b ≠ a := fun z => by
      subst z
      exact z3 i false xs he h1
    refine ⟨z1, by rw [upd_ne ne]; exact z2, fun j q us hj => ?_⟩
    rcases get_set hj with ⟨_, z⟩ | ⟨_, z⟩
    · cases z
    · exact z3 j q us z
end
end DL

/-! The data layer, part 2: expressions. -/
namespace DL
variable {Z : Zx}
open PySem PySem.Spec PyProof.Rows L2
open Evl (Ex)

/-- by a truth -/
def bIf (b : Bool) (p q : Prop) : Prop := match b with
  | true => p
  | false => q
theorem bIf_t {p q : Prop} : bIf true p q = p := rfl
theorem bIf_f {p q : Prop} : bIf false p q = q := rfl
/-- a datum that is a truth -/
def bT (d : PyData) (K : Bool → Prop) : Prop := match d with
  | .bool b => K b
  | _ => False
theorem bT_inv {d : PyData} {K : Bool → Prop} (h : bT d K) : ∃ b, d = .bool b ∧ K b := by
  cases d <;> first | exact ⟨_, rfl, h⟩ | exact h.elim
theorem bIf_and {b : Bool} {q : Prop} (h : bIf b q False) : b = true ∧ q := by
  cases b
  · exact h.elim
  · exact ⟨rfl, h⟩
abbrev DE := List SD → (PyData → List SD → Prop) → Prop
abbrev DX := List SD → (SD → List SD → Prop) → Prop
abbrev DT := List SD → (Bool → List SD → Prop) → Prop
abbrev DA := List SD → (List PyData → List SD → Prop) → Prop
/-- a result: a datum, or a new cell that no name holds yet -/
def ResOk (K : PySem.W.Frag) (g : Gx Z) (F : Hp) (env : List SD) (σ : L2.St) (H : Hp) (v : V) : SD → Prop
  | .un => False
  | .dat d => DR K F v d
  | .cel _ xs => ∃ a vs, v = .ref a ∧ F a = none ∧ H a = some (.lst vs) ∧ DRs K F vs xs ∧ g.H0 a = none ∧ g.Pr a = none ∧ ∀ (j : Nat) (p : Bool) (ys : List PyData), env[j]? = some (.cel p ys) → σ[j]? ≠ some (some (.ref a))
def liftE (K : PySem.W.Frag) (Z : Zx) (w : DE) : TE := fun σ H Q => ∃ (g : Gx Z) (F : Hp) (env : List SD) (P : PyData → List SD → Prop), Ok K g F env σ H ∧ w env P ∧
  ∀ d env' v F' H', P d env' → Ex F F' → Ok K g F' env' σ H' → DR K F' v d → Q v H'
def liftX (K : PySem.W.Frag) (Z : Zx) (w : DX) : TE := fun σ H Q => ∃ (g : Gx Z) (F : Hp) (env : List SD) (P : SD → List SD → Prop), Ok K g F env σ H ∧ w env P ∧
  ∀ r env' v F' H', P r env' → Ex F F' → Ok K g F' env' σ H' → ResOk K g F' env' σ H' v r → Q v H'
def liftT (K : PySem.W.Frag) (Z : Zx) (w : DT) : TT := fun σ H Q => ∃ (g : Gx Z) (F : Hp) (env : List SD) (P : Bool → List SD → Prop), Ok K g F env σ H ∧ w env P ∧
  ∀ b env' F' H', P b env' → Ex F F' → Ok K g F' env' σ H' → Q b H'
def liftA (K : PySem.W.Frag) (Z : Zx) (w : DA) : TA := fun σ H Q => ∃ (g : Gx Z) (F : Hp) (env : List SD) (P : List PyData → List SD → Prop), Ok K g F env σ H ∧ w env P ∧
  ∀ ds env' vs F' H', P ds env' → Ex F F' → Ok K g F' env' σ H' → DRs K F' vs ds → Q vs H'
theorem PE.of {X : Cx} {e : Expr} {t t' : TE} (h : PE X e t) (w : ∀ σ H Q, t' σ H Q → t σ H Q) : PE X e t' := ⟨fun pins s σ H Q I q => h.run pins s σ H Q I (w σ H Q q)⟩
theorem PT.of {X : Cx} {e : Expr} {t t' : TT} (h : PT X e t) (w : ∀ σ H Q, t' σ H Q → t σ H Q) : PT X e t' := ⟨fun pins s σ H Q I q => h.run pins s σ H Q I (w σ H Q q)⟩
theorem PW.of {X : Cx} {e : Expr} {t t' : TT} (h : PW X e t) (w : ∀ σ H Q, t' σ H Q → t σ H Q) : PW X e t' := ⟨fun wh pins s σ H Q I q => h.run wh pins s σ H Q I (w σ H Q q)⟩
theorem PA.of {X : Cx} {e : List Expr} {t t' : TA} (h : PA X e t) (w : ∀ σ H Q, t' σ H Q → t σ H Q) : PA X e t' := ⟨fun p pins s σ H Q I q => h.run p pins s σ H Q I (w σ H Q q)⟩
theorem PS.of {X : Cx} {e : Stmt} {t t' : TS} (h : PS X e t) (w : ∀ D σ H, t' D σ H → t D σ H) : PS X e t' := ⟨fun pins s σ H D I q => h.run pins s σ H D I (w D σ H q)⟩
theorem PSs.of {X : Cx} {e : List Stmt} {t t' : TS} (h : PSs X e t) (w : ∀ D σ H, t' D σ H → t D σ H) : PSs X e t' := ⟨fun pins s σ H D I q => h.run pins s σ H D I (w D σ H q)⟩

section
variable {K : PySem.W.Frag} {g : Gx Z} {F F' : Hp} {env : List SD} {σ : L2.St} {H : Hp}
/-- a new cell that no name holds -/
theorem Ok.newCell (k : Ok K g F env σ H) {p : Addr} (h : H p = none) {vs : List V} {xs : List PyData} (r : DRs K F vs xs) :
    Ok K g F env σ (upd H p (.lst vs)) ∧ ResOk K g F env σ (upd H p (.lst vs)) (.ref p) (.cel false xs) := by
  refine ⟨k.extra h, p, vs, rfl, fnone k.fh h, upd_same, r, k.fresh0 h, ?_, fun j q ys e z => ?_⟩
  · cases e : g.Pr p with
    | none => rfl
    | some u =>
      have z := (k.prot p u e).1
      rw [h] at z
      cases z
  obtain ⟨a, ws, h1, _, h3, _⟩ := k.cel j q ys e
  rw [z] at h1
  cases h1
  rw [h] at h3
  cases h3
/-- such a cell becomes a datum -/
theorem Ok.freezeR (k : Ok K g F env σ H) {v : V} {p : Bool} {xs : List PyData} (h : ResOk K g F env σ H v (.cel p xs)) : ∃ F', Ex F F' ∧ Ok K g F' env σ H ∧ DR K F' v (.list xs) ∧ DR K F' v (.dict [(.none, .list xs)]) := by
  obtain ⟨a, vs, rfl, hF, hH, r, h0, hpr, nw⟩ := h
  have ex : Ex F (upd F a (.lst vs)) := Ex.new hF
  refine ⟨upd F a (.lst vs), ex, ⟨k.len, fun b u q => ?_, fun i d e => ?_, fun i q ys e => ?_, k.sep, k.pin, k.frame, fun b u q => ?_, fun b u q => ex b u (k.oldF b u q), fun b u e => ?_⟩, .lst (RdL.of upd_same) (r.mono ex), .row upd_same (r.mono ex)⟩
  · by_cases z : b = a
    · subst z
      rw [upd_same] at q
      exact hH.trans q
    · rw [upd_ne z] at q
      exact k.fh b u q
  · obtain ⟨v, z1, z2⟩ := k.dat i d e
    exact ⟨v, z1, z2.mono ex⟩
  · obtain ⟨b, ws, z1, z2, z3, z4, z5⟩ := k.cel i q ys e
    have ne : b ≠ a := fun z => by
      subst z
      exact nw i q ys e z1
    exact ⟨b, ws, z1, by rw [upd_ne ne]; exact z2, z3, z4.mono ex, z5⟩
  · by_cases z : b = a
    · subst z
      exact .inr h0
    · rw [upd_ne z] at q
      exact k.newF b u q
  · obtain ⟨z1, z2, z3⟩ := k.prot b u e
    have ne : b ≠ a := fun z => by
      subst z
      rw [hpr] at e
      cases e
    exact ⟨z1, by rw [upd_ne ne]; exact z2, z3⟩
theorem Ok.freezeP (k : Ok K g F env σ H) {v : V} {p : Bool} {xs : List PyData} (h : ResOk K g F env σ H v (.cel p xs)) : ∃ F', Ex F F' ∧ Ok K g F' env σ H ∧ DR K F' v (.list xs) := by
  obtain ⟨F', h1, h2, h3, _⟩ := k.freezeR h
  exact ⟨F', h1, h2, h3⟩
/-- a new tuple, a new list that never changes -/
theorem Ok.newTup (k : Ok K g F env σ H) {p : Addr} (h : H p = none) {vs : List V} {xs : List PyData} (r : DRs K F vs xs) :
    Ex F (upd F p (.tup vs)) ∧ Ok K g (upd F p (.tup vs)) env σ (upd H p (.tup vs)) ∧ DR K (upd F p (.tup vs)) (.ref p) (.tuple xs) := by
  have ex : Ex F (upd F p (.tup vs)) := Ex.new (fnone k.fh h)
  exact ⟨ex, k.alloc h, .tup (SqT.of upd_same) (r.mono ex)⟩
theorem Ok.newLst (k : Ok K g F env σ H) {p : Addr} (h : H p = none) {vs : List V} {xs : List PyData} (r : DRs K F vs xs) :
    Ex F (upd F p (.lst vs)) ∧ Ok K g (upd F p (.lst vs)) env σ (upd H p (.lst vs)) ∧ DR K (upd F p (.lst vs)) (.ref p) (.list xs) := by
  have ex : Ex F (upd F p (.lst vs)) := Ex.new (fnone k.fh h)
  exact ⟨ex, k.alloc h, .lst (RdL.of upd_same) (r.mono ex)⟩
theorem drH (k : Ok K g F env σ H) {v : V} {d : PyData} (h : DR K F v d) : DR K H v d := h.mono k.fh
theorem drsH (k : Ok K g F env σ H) {v : List V} {d : List PyData} (h : DRs K F v d) : DRs K H v d := h.mono k.fh
end

section
variable {X : Cx} {a b c e : Expr} {es : List Expr} {pos : Pos} {wa wb wc w : DE} {K : PySem.W.Frag}
/-! ### names, constants -/
def dVar (i : Nat) (env : List SD) (P : PyData → List SD → Prop) : Prop := match env[i]? with
  | some (.dat d) => P d env
  | _ => False
theorem lift_var {i : Nat} {σ : L2.St} {H : Hp} {Q : VK} (h : liftE K Z (dVar i) σ H Q) : tVar i σ H Q := by
  obtain ⟨g, F, env, P, k, w, q⟩ := h
  unfold dVar at w
  split at w
  · rename_i d e
    obtain ⟨v, h1, h2⟩ := k.dat i d e
    exact ⟨v, h1, q d env v F H w (Ex.refl F) k h2⟩
  · exact w.elim
theorem dv (i : Nat) {x : Str} {pos : Pos} (hN : X.N[i]? = some x := by rfl) (hv : Vis X.env.scope x := by first | exact Or.inl rfl | exact Or.inr (Or.inl rfl) | exact Or.inr (Or.inr rfl)) (hd : (x == ("__debug__" : Str)) = false := by decide)
    (hcd : (x == ("__classdict__" : Str)) = false := by decide) : PE X (.Name x pos) (liftE X.K Z (dVar i)) := PE.of (pe_var hN hv hd hcd) fun _ _ _ h => lift_var h
def dC (d : PyData) (env : List SD) (P : PyData → List SD → Prop) : Prop := P d env
theorem lift_c {v : V} {d : PyData} (hv : ∀ F : Hp, DR K F v d) {σ : L2.St} {H : Hp} {Q : VK} (h : liftE K Z (dC d) σ H Q) : tC v σ H Q := by
  obtain ⟨g, F, env, P, k, w, q⟩ := h
  exact q d env v F H w (Ex.refl F) k (hv F)
theorem di {i : Int} {j pos} : PE X (.Constant (.int i) j pos) (liftE X.K Z (dC (.int i))) := PE.of pe_int fun _ _ _ h => lift_c (fun _ => .int i) h
theorem db {i : Bool} {j pos} : PE X (.Constant (.bool i) j pos) (liftE X.K Z (dC (.bool i))) := PE.of pe_bl fun _ _ _ h => lift_c (fun _ => .bl i) h
theorem dn {j pos} : PE X (.Constant .none j pos) (liftE X.K Z (dC .none)) := PE.of pe_non fun _ _ _ h => lift_c (fun _ => .non) h
theorem ds {i : Str} {j pos} : PE X (.Constant (.str i) j pos) (liftE X.K Z (dC (.str i))) := PE.of pe_str fun _ _ _ h => lift_c (fun _ => .str i) h
/-- a module's constant -/
theorem dglob {x : Str} {u : Value} {d : PyData} {pos : Pos} {v : V} (hm : X.mg x = some u) (r : RelV v u) (hd : ∀ F : Hp, DR X.K F v d) (hg : Gl X x := by rfl) (hdb : (x == ("__debug__" : Str)) = false := by decide) : PE X (.Name x pos) (liftE X.K Z (dC d)) :=
  PE.of (pe_glob hg hm r hdb) fun _ _ _ h => lift_c hd h

/-! ### operators -/
abbrev D2 := PyData → PyData → (PyData → Prop) → Prop
def dOp (f : D2) (wa wb : DE) (env : List SD) (P : PyData → List SD → Prop) : Prop := wa env fun x env1 => wb env1 fun y env2 => f x y fun z => P z env2
def OpD (K : PySem.W.Frag) (r : R2) (f : D2) : Prop :=
  ∀ (Z : Zx) (g : Gx Z) (F : Hp) (env : List SD) (σ : L2.St) (H : Hp) (vx vy : V) (dx dy : PyData) (P : PyData → Prop) (Q : VK), Ok K g F env σ H → DR K F vx dx → DR K F vy dy → f dx dy P →
    (∀ d v F' H', P d → Ex F F' → Ok K g F' env σ H' → DR K F' v d → Q v H') → r vx vy H Q
theorem lift_op {r : R2} {f : D2} (hd : OpD K r f) {σ : L2.St} {H : Hp} {Q : VK} (h : liftE K Z (dOp f wa wb) σ H Q) : tOp r (liftE K Z wa) (liftE K Z wb) σ H Q := by
  obtain ⟨g, F, env, P, k, w, q⟩ := h
  refine ⟨g, F, env, _, k, w, fun d env1 v F1 H1 p e1 k1 r1 => ⟨g, F1, env1, _, k1, p, fun d2 env2 v2 F2 H2 p2 e2 k2 r2 => ?_⟩⟩
  exact hd _ g F2 env2 σ H2 v v2 d d2 _ Q k2 (r1.mono e2) r2 p2 fun d3 v3 F3 H3 p3 e3 k3 r3 => q d3 env2 v3 F3 H3 p3 (e1.trans (e2.trans e3)) k3 r3
theorem dop {op : Operator} {r : R2} {f : D2} (ho : OpR X (binaryOp op) r) (hd : OpD X.K r f) (ha : PE X a (liftE X.K Z wa)) (hb : PE X b (liftE X.K Z wb)) : PE X (.BinOp a op b pos) (liftE X.K Z (dOp f wa wb)) :=
  PE.of (pe_op ho ha hb) fun _ _ _ h => lift_op hd h
theorem dcmp {op : CmpOp} {r : R2} {f : D2} (ho : OpR X (compareOp op) r) (hd : OpD X.K r f) (ha : PE X a (liftE X.K Z wa)) (hb : PE X b (liftE X.K Z wb)) (hm : behindInMarks op b = false) : PE X (.Compare a [op] [b] pos) (liftE X.K Z (dOp f wa wb)) :=
  PE.of (pe_cmpR ho ha hb hm) fun _ _ _ h => lift_op hd h
def dTest (w : DE) (env : List SD) (P : Bool → List SD → Prop) : Prop := w env fun d env' => bT d fun b => P b env'
theorem lift_test {t : TE} (ht : ∀ σ H Q, liftE K Z w σ H Q → t σ H Q) {σ : L2.St} {H : Hp} {Q : Bool → Hp → Prop} (h : liftT K Z (dTest w) σ H Q) : tTest t σ H Q := by
  obtain ⟨g, F, env, P, k, w, q⟩ := h
  refine ht _ _ _ ⟨g, F, env, _, k, w, fun d env1 v F1 H1 p e1 k1 r1 => ?_⟩
  obtain ⟨b, rfl, p⟩ := bT_inv p
  cases r1.inv_bool
  exact ⟨_, rfl, q _ env1 F1 H1 p e1 k1⟩
theorem dcmpT {op : CmpOp} {r : R2} {f : D2} (ho : OpR X (compareOp op) r) (hd : OpD X.K r f) (ha : PE X a (liftE X.K Z wa)) (hb : PE X b (liftE X.K Z wb)) (hm : behindInMarks op b = false) : PT X (.Compare a [op] [b] pos) (liftT X.K Z (dTest (dOp f wa wb))) :=
  PT.of (pt_cmpR ho ha hb hm) fun _ _ _ h => lift_test (fun _ _ _ h => lift_op hd h) h
/-- any other expression as a test -/
theorem dtest (h : PE X e (liftE X.K Z w)) (he : ∀ whole, isTrue e X.env whole = (do let v ← whole; standAt e.pos; holding [v] (truthy v)) := by intro _; rfl) : PT X e (liftT X.K Z (dTest w)) :=
  PT.of (pt_val h he) fun _ _ _ q => lift_test (fun _ _ _ h => h) q
/-- a < b < c -/
def dChain (f f' : D2) (wa wb wc : DE) (env : List SD) (P : PyData → List SD → Prop) : Prop := wa env fun x env1 => wb env1 fun y env2 => f x y fun z => bT z fun b => bIf b (wc env2 fun u env3 => f' y u fun z2 => P z2 env3) (P (.bool false) env2)
theorem lift_chain {r r' : R2} {f f' : D2} (hd : OpD K r f) (hd' : OpD K r' f') {σ : L2.St} {H : Hp} {Q : VK} (h : liftE K Z (dChain f f' wa wb wc) σ H Q) : tChain r r' (liftE K Z wa) (liftE K Z wb) (liftE K Z wc) σ H Q := by
  obtain ⟨g, F, env, P, k, w, q⟩ := h
  refine ⟨g, F, env, _, k, w, fun d env1 v F1 H1 p e1 k1 r1 => ⟨g, F1, env1, _, k1, p, fun d2 env2 v2 F2 H2 p2 e2 k2 r2 => ?_⟩⟩
  refine hd _ g F2 env2 σ H2 v v2 d d2 _ _ k2 (r1.mono e2) r2 p2 fun d3 v3 F3 H3 p3 e3 k3 r3 => ?_
  obtain ⟨b, rfl, p3⟩ := bT_inv p3
  cases r3.inv_bool
  cases b with
  | true =>
    refine ⟨true, rfl, iteT ⟨g, F3, env2, _, k3, p3, fun d4 env4 v4 F4 H4 p4 e4 k4 r4 => ?_⟩⟩
    exact hd' _ g F4 env4 σ H4 v2 v4 d2 d4 _ Q k4 ((r2.mono e3).mono e4) r4 p4 fun d5 v5 F5 H5 p5 e5 k5 r5 => q d5 env4 v5 F5 H5 p5 (e1.trans (e2.trans (e3.trans (e4.trans e5)))) k5 r5
  | false =>
    exact ⟨false, rfl, iteF (q _ env2 _ F3 H3 p3 (e1.trans (e2.trans e3)) k3 (.bl false))⟩
theorem dchain {op op' : CmpOp} {r r' : R2} {f f' : D2} (ho : OpR X (compareOp op) r) (ho' : OpR X (compareOp op') r') (hd : OpD X.K r f) (hd' : OpD X.K r' f') (ha : PE X a (liftE X.K Z wa)) (hb : PE X b (liftE X.K Z wb)) (hc : PE X c (liftE X.K Z wc))
    (hm : lastMarks [op, op'] [b, c] = false := by with_unfolding_all rfl) : PE X (.Compare a [op, op'] [b, c] pos) (liftE X.K Z (dChain f f' wa wb wc)) :=
  PE.of (pe_chain ho ho' ha hb hc hm) fun _ _ _ h => lift_chain hd hd' h
theorem dchainT {op op' : CmpOp} {r r' : R2} {f f' : D2} (ho : OpR X (compareOp op) r) (ho' : OpR X (compareOp op') r') (hd : OpD X.K r f) (hd' : OpD X.K r' f') (ha : PE X a (liftE X.K Z wa)) (hb : PE X b (liftE X.K Z wb)) (hc : PE X c (liftE X.K Z wc))
    (hm : lastMarks [op, op'] [b, c] = false := by with_unfolding_all rfl) : PT X (.Compare a [op, op'] [b, c] pos) (liftT X.K Z (dTest (dChain f f' wa wb wc))) :=
  PT.of (pt_chain ho ho' ha hb hc hm) fun _ _ _ h => lift_test (fun _ _ _ h => lift_chain hd hd' h) h
/-- one place -/
abbrev D1 := PyData → (PyData → Prop) → Prop
def dUn (f : D1) (wa : DE) (env : List SD) (P : PyData → List SD → Prop) : Prop := wa env fun x env1 => f x fun z => P z env1
def UnD (K : PySem.W.Frag) (r : V → Hp → VK → Prop) (f : D1) : Prop :=
  ∀ (Z : Zx) (g : Gx Z) (F : Hp) (env : List SD) (σ : L2.St) (H : Hp) (vx : V) (dx : PyData) (P : PyData → Prop) (Q : VK), Ok K g F env σ H → DR K F vx dx → f dx P →
    (∀ d v F' H', P d → Ex F F' → Ok K g F' env σ H' → DR K F' v d → Q v H') → r vx H Q
theorem dun {op : UnaryOp} {r : V → Hp → VK → Prop} {f : D1} (ho : UnR X (unaryOp op) r) (hd : UnD X.K r f) (ha : PE X a (liftE X.K Z wa)) : PE X (.UnaryOp op a pos) (liftE X.K Z (dUn f wa)) :=
  PE.of (pe_un ho ha) fun σ H Q h => by
    obtain ⟨g, F, env, P, k, w, q⟩ := h
    refine ⟨g, F, env, _, k, w, fun d env1 v F1 H1 p e1 k1 r1 => ?_⟩
    exact hd _ g F1 env1 σ H1 v d _ Q k1 r1 p fun d3 v3 F3 H3 p3 e3 k3 r3 => q d3 env1 v3 F3 H3 p3 (e1.trans e3) k3 r3

/-! ### and, or, not, if -/
def dAndV (wa wb : DE) (env : List SD) (P : PyData → List SD → Prop) : Prop := wa env fun x env1 => bT x fun b => bIf b (wb env1 P) (P (.bool false) env1)
def dOrV (wa wb : DE) (env : List SD) (P : PyData → List SD → Prop) : Prop := wa env fun x env1 => bT x fun b => bIf b (P (.bool true) env1) (wb env1 P)
def dNotV (wa : DE) (env : List SD) (P : PyData → List SD → Prop) : Prop := wa env fun x env1 => bT x fun b => P (.bool (!b)) env1
variable {rest : List Expr}
theorem done {op : BoolOp} (h : PE X a (liftE X.K Z wa)) : PE X (.BoolOp op [a] pos) (liftE X.K Z wa) := pe_one h
theorem dandV (ha : PE X a (liftE X.K Z wa)) (hb : PE X (.BoolOp .And (b :: rest) pos) (liftE X.K Z wb)) : PE X (.BoolOp .And (a :: b :: rest) pos) (liftE X.K Z (dAndV wa wb)) :=
  PE.of (pe_and ha hb) fun σ H Q h => by
    obtain ⟨g, F, env, P, k, w, q⟩ := h
    refine ⟨g, F, env, _, k, w, fun d env1 v F1 H1 p e1 k1 r1 => ?_⟩
    obtain ⟨b, rfl, p⟩ := bT_inv p
    cases r1.inv_bool
    cases b with
    | true => exact ⟨true, rfl, iteT ⟨g, F1, env1, _, k1, p, fun d2 env2 v2 F2 H2 p2 e2 k2 r2 => q d2 env2 v2 F2 H2 p2 (e1.trans e2) k2 r2⟩⟩
    | false => exact ⟨false, rfl, iteF (q _ env1 _ F1 H1 p e1 k1 (.bl false))⟩
theorem dorV (ha : PE X a (liftE X.K Z wa)) (hb : PE X (.BoolOp .Or (b :: rest) pos) (liftE X.K Z wb)) : PE X (.BoolOp .Or (a :: b :: rest) pos) (liftE X.K Z (dOrV wa wb)) :=
  PE.of (pe_or ha hb) fun σ H Q h => by
    obtain ⟨g, F, env, P, k, w, q⟩ := h
    refine ⟨g, F, env, _, k, w, fun d env1 v F1 H1 p e1 k1 r1 => ?_⟩
    obtain ⟨b, rfl, p⟩ := bT_inv p
    cases r1.inv_bool
    cases b with
    | true => exact ⟨true, rfl, iteT (q _ env1 _ F1 H1 p e1 k1 (.bl true))⟩
    | false => exact ⟨false, rfl, iteF ⟨g, F1, env1, _, k1, p, fun d2 env2 v2 F2 H2 p2 e2 k2 r2 => q d2 env2 v2 F2 H2 p2 (e1.trans e2) k2 r2⟩⟩
theorem dnotV (ha : PE X a (liftE X.K Z wa)) : PE X (.UnaryOp .Not a pos) (liftE X.K Z (dNotV wa)) :=
  PE.of (pe_not ha) fun σ H Q h => by
    obtain ⟨g, F, env, P, k, w, q⟩ := h
    refine ⟨g, F, env, _, k, w, fun d env1 v F1 H1 p e1 k1 r1 => ?_⟩
    obtain ⟨b, rfl, p⟩ := bT_inv p
    cases r1.inv_bool
    exact ⟨_, rfl, q _ env1 _ F1 H1 p e1 k1 (.bl _)⟩
def dAnd (t u : DT) (env : List SD) (P : Bool → List SD → Prop) : Prop := t env fun b env1 => bIf b (u env1 P) (P false env1)
def dOr (t u : DT) (env : List SD) (P : Bool → List SD → Prop) : Prop := t env fun b env1 => bIf b (P true env1) (u env1 P)
def dNot (t : DT) (env : List SD) (P : Bool → List SD → Prop) : Prop := t env fun b env1 => P (!b) env1
variable {t u : DT}
theorem tand1 (ha : PT X a (liftT X.K Z t)) : PW X (.BoolOp .And [a] pos) (liftT X.K Z t) := pw_and1 ha
theorem tor1 (ha : PT X a (liftT X.K Z t)) : PW X (.BoolOp .Or [a] pos) (liftT X.K Z t) := pw_or1 ha
theorem tand (ha : PT X a (liftT X.K Z t)) (hb : PW X (.BoolOp .And (b :: rest) pos) (liftT X.K Z u)) : PW X (.BoolOp .And (a :: b :: rest) pos) (liftT X.K Z (dAnd t u)) :=
  PW.of (pw_and ha hb) fun σ H Q h => by
    obtain ⟨g, F, env, P, k, w, q⟩ := h
    refine ⟨g, F, env, _, k, w, fun d env1 F1 H1 p e1 k1 => ?_⟩
    cases d with
    | true => exact iteT ⟨g, F1, env1, _, k1, p, fun d2 env2 F2 H2 p2 e2 k2 => q d2 env2 F2 H2 p2 (e1.trans e2) k2⟩
    | false => exact iteF (q _ env1 F1 H1 p e1 k1)
theorem tor (ha : PT X a (liftT X.K Z t)) (hb : PW X (.BoolOp .Or (b :: rest) pos) (liftT X.K Z u)) : PW X (.BoolOp .Or (a :: b :: rest) pos) (liftT X.K Z (dOr t u)) :=
  PW.of (pw_or ha hb) fun σ H Q h => by
    obtain ⟨g, F, env, P, k, w, q⟩ := h
    refine ⟨g, F, env, _, k, w, fun d env1 F1 H1 p e1 k1 => ?_⟩
    cases d with
    | false => exact iteF ⟨g, F1, env1, _, k1, p, fun d2 env2 F2 H2 p2 e2 k2 => q d2 env2 F2 H2 p2 (e1.trans e2) k2⟩
    | true => exact iteT (q _ env1 F1 H1 p e1 k1)
theorem tnot (ha : PT X a (liftT X.K Z t)) : PT X (.UnaryOp .Not a pos) (liftT X.K Z (dNot t)) :=
  PT.of (pt_not ha) fun σ H Q h => by
    obtain ⟨g, F, env, P, k, w, q⟩ := h
    exact ⟨g, F, env, _, k, w, fun d env1 F1 H1 p e1 k1 => q _ env1 F1 H1 p e1 k1⟩
def dIf (t : DT) (wa wb : DE) (env : List SD) (P : PyData → List SD → Prop) : Prop := t env fun b env1 => bIf b (wa env1 P) (wb env1 P)
theorem dif {c : Expr} (hc : PT X c (liftT X.K Z t)) (ha : PE X a (liftE X.K Z wa)) (hb : PE X b (liftE X.K Z wb)) : PE X (.IfExp c a b pos) (liftE X.K Z (dIf t wa wb)) :=
  PE.of (pe_ifExp hc ha hb) fun σ H Q h => by
    obtain ⟨g, F, env, P, k, w, q⟩ := h
    refine ⟨g, F, env, _, k, w, fun d env1 F1 H1 p e1 k1 => ?_⟩
    cases d with
    | true => exact iteT ⟨g, F1, env1, _, k1, p, fun d2 env2 v2 F2 H2 p2 e2 k2 r2 => q d2 env2 v2 F2 H2 p2 (e1.trans e2) k2 r2⟩
    | false => exact iteF ⟨g, F1, env1, _, k1, p, fun d2 env2 v2 F2 H2 p2 e2 k2 r2 => q d2 env2 v2 F2 H2 p2 (e1.trans e2) k2 r2⟩

/-! ### arguments, displays -/
variable {was : DA}
def dNil (env : List SD) (P : List PyData → List SD → Prop) : Prop := P [] env
def dCons (wa : DE) (wr : DA) (env : List SD) (P : List PyData → List SD → Prop) : Prop := wa env fun x env1 => wr env1 fun xs env2 => P (x :: xs) env2
theorem anil : PA X [] (liftA X.K Z dNil) := PA.of pa_nil fun σ H Q h => by
  obtain ⟨g, F, env, P, k, w, q⟩ := h
  exact q [] env [] F H w (Ex.refl F) k .nil
theorem acons (ha : PE X e (liftE X.K Z wa)) (hr : PA X es (liftA X.K Z was)) (hs : starEach (e :: es) X.env = (false, eval e X.env) :: starEach es X.env := by rfl) : PA X (e :: es) (liftA X.K Z (dCons wa was)) :=
  PA.of (pa_cons ha hr hs) fun σ H Q h => by
    obtain ⟨g, F, env, P, k, w, q⟩ := h
    exact ⟨g, F, env, _, k, w, fun d env1 v F1 H1 p e1 k1 r1 => ⟨g, F1, env1, _, k1, p, fun ds env2 vs F2 H2 p2 e2 k2 r2 => q (d :: ds) env2 (v :: vs) F2 H2 p2 (e1.trans e2) k2 (.cons (r1.mono e2) r2)⟩⟩
def dTup (wa : DA) (env : List SD) (P : PyData → List SD → Prop) : Prop := wa env fun xs env' => bIf (Nat.ble xs.length 100000) (P (.tuple xs) env') False
def dLst (wa : DA) (env : List SD) (P : SD → List SD → Prop) : Prop := wa env fun xs env' => bIf (Nat.ble xs.length 100000) (P (.cel false xs) env') False
theorem dtup {k : _} (h : PA X es (liftA X.K Z was)) : PE X (.Tuple es k pos) (liftE X.K Z (dTup was)) :=
  PE.of (pe_tup h) fun σ H Q h => by
    obtain ⟨g, F, env, P, k, w, q⟩ := h
    refine ⟨g, F, env, _, k, w, fun ds env1 vs F1 H1 p e1 k1 r1 => ⟨by rw [r1.length]; exact Evl.sz_of (Nat.le_of_ble_eq_true (bIf_and p).1), fun x hx => ?_⟩⟩
    obtain ⟨e2, k2, r2⟩ := k1.newTup hx r1
    exact q _ env1 _ _ _ (bIf_and p).2 (e1.trans e2) k2 r2
theorem dlst (h : PA X es (liftA X.K Z was)) : PE X (.List es pos) (liftX X.K Z (dLst was)) :=
  PE.of (pe_lst h) fun σ H Q h => by
    obtain ⟨g, F, env, P, k, w, q⟩ := h
    refine ⟨g, F, env, _, k, w, fun ds env1 vs F1 H1 p e1 k1 r1 => ⟨by rw [r1.length]; exact Evl.sz_of (Nat.le_of_ble_eq_true (bIf_and p).1), fun x hx => ?_⟩⟩
    obtain ⟨k2, r2⟩ := k1.newCell hx r1
    exact q _ env1 _ _ _ (bIf_and p).2 e1 k2 r2
/-- a new list that is to stay as it is -/
def dFrz (w : DX) (env : List SD) (P : PyData → List SD → Prop) : Prop := w env fun r env' => match r with
  | .dat d => P d env'
  | .cel _ xs => P (.list xs) env'
  | .un => False
theorem dfrz {w : DX} (h : PE X e (liftX X.K Z w)) : PE X e (liftE X.K Z (dFrz w)) := PE.of h fun σ H Q h => by
  obtain ⟨g, F, env, P, k, w, q⟩ := h
  refine ⟨g, F, env, _, k, w, fun r env1 v F1 H1 p e1 k1 r1 => ?_⟩
  cases r with
  | un => exact p.elim
  | dat d => exact q d env1 v F1 H1 p e1 k1 r1
  | cel b xs =>
    obtain ⟨F2, e2, k2, r2⟩ := k1.freezeP r1
    exact q _ env1 v F2 H1 p (e1.trans e2) k2 r2
def dX (w : DE) (env : List SD) (P : SD → List SD → Prop) : Prop := w env fun d env' => P (.dat d) env'
theorem dx {w : DE} (h : PE X e (liftE X.K Z w)) : PE X e (liftX X.K Z (dX w)) := PE.of h fun σ H Q h => by
  obtain ⟨g, F, env, P, k, w, q⟩ := h
  exact ⟨g, F, env, _, k, w, fun d env1 v F1 H1 p e1 k1 r1 => q (.dat d) env1 v F1 H1 p e1 k1 r1⟩

/-! ### subscripts -/
theorem dix {r : R2} {f : D2} (ho : IxR X r) (hd : OpD X.K r f) (ha : PE X a (liftE X.K Z wa)) (hb : PE X b (liftE X.K Z wb)) (hs : PlainIx b := by intro _ _; rfl) : PE X (.Subscript a b pos) (liftE X.K Z (dOp f wa wb)) :=
  PE.of (pe_ix ho ha hb hs) fun _ _ _ h => lift_op hd h
theorem ixr_or {r r' : R2} (h : IxR X r) (h' : IxR X r') : IxR X (fun x y H Q => r x y H Q ∨ r' x y H Q) := by
  intro value slice pins s σ H x y v u Q I rx ry q hs
  rcases q with q | q
  · exact h value slice pins s σ H x y v u Q I rx ry q hs
  · exact h' value slice pins s σ H x y v u Q I rx ry q hs
/-- the item at a place -/
@[irreducible] def pick (xs : List PyData) (k : Int) (P : PyData → Prop) : Prop := match atI xs k with
  | some d => P d
  | none => False
theorem pick_inv {xs : List PyData} {k : Int} {P : PyData → Prop} (h : pick xs k P) : ∃ d, atI xs k = some d ∧ P d := by
  unfold pick at h
  cases e : atI xs k with
  | none => rw [e] at h; exact h.elim
  | some d => rw [e] at h; exact ⟨d, rfl, h⟩
def ixQ (xs : List PyData) (y : PyData) (K : PyData → Prop) : Prop := match y with
  | .int k => pick xs k K
  | _ => False
def oIx (x y : PyData) (P : PyData → Prop) : Prop := match x, y with
  | .tuple xs, .int k => pick xs k P
  | .list xs, .int k => pick xs k P
  | _, _ => False
theorem atI_rel {F : Hp} {vs : List V} {ds : List PyData} {k : Int} {d : PyData} (r : DRs K F vs ds) (h : atI ds k = some d) : ∃ v, atI vs k = some v ∧ DR K F v d := by
  unfold atI at h ⊢
  rw [r.length]
  cases e : ixN ds.length k with
  | none => rw [e] at h; cases h
  | some j =>
    rw [e] at h
    exact r.get h
def rIx (K : PySem.W.Frag) : R2 := fun x y H Q => rIxT K x y H Q ∨ rIxL K x y H Q
theorem ixr : IxR X (rIx X.K) := ixr_or ix_tup ix_list
theorem opd_ix : OpD K (rIx K) oIx := by
  intro _ g F env σ H vx vy dx dy P Q k rx ry p q
  unfold oIx at p
  split at p
  · rename_i xs i
    cases ry.inv_int
    obtain ⟨d, e, p⟩ := pick_inv p
    obtain ⟨a, us, rfl, h1, h2⟩ := rx.inv_tup
    obtain ⟨v, e1, e2⟩ := atI_rel h2 e
    exact .inl ⟨a, us, i, v, rfl, rfl, Evl.ex_t k.fh h1, e1, q d v F H p (Ex.refl F) k e2⟩
  · rename_i xs i
    cases ry.inv_int
    obtain ⟨d, e, p⟩ := pick_inv p
    obtain ⟨a, us, rfl, h1, h2⟩ := rx.inv_lst
    obtain ⟨v, e1, e2⟩ := atI_rel h2 e
    exact .inr ⟨a, us, i, v, rfl, rfl, (h1.mono k.fh).sq, e1, q d v F H p (Ex.refl F) k e2⟩
  · exact p.elim
theorem dixP (ha : PE X a (liftE X.K Z wa)) (hb : PE X b (liftE X.K Z wb)) (hs : PlainIx b := by intro _ _; rfl) : PE X (.Subscript a b pos) (liftE X.K Z (dOp oIx wa wb)) := dix ixr opd_ix ha hb hs
/-- an item of a name's own cell -/
def dIxC (i : Nat) (wb : DE) (env : List SD) (P : PyData → List SD → Prop) : Prop := match env[i]? with
  | some (.cel _ _) => wb env fun y env1 => match env1[i]? with
    | some (.cel _ xs) => ixQ xs y fun d => P d env1
    | _ => False
  | _ => False
theorem dixC (i : Nat) {x : Str} {p0 : Pos} (hb : PE X b (liftE X.K Z wb)) (hN : X.N[i]? = some x := by rfl) (hv : Vis X.env.scope x := by first | exact Or.inl rfl | exact Or.inr (Or.inl rfl) | exact Or.inr (Or.inr rfl)) (hd : (x == ("__debug__" : Str)) = false := by decide)
    (hcd : (x == ("__classdict__" : Str)) = false := by decide) (hs : PlainIx b := by intro _ _; rfl) : PE X (.Subscript (.Name x p0) b pos) (liftE X.K Z (dIxC i wb)) :=
  PE.of (pe_ix ix_list (pe_var hN hv hd hcd) hb hs) fun σ H Q h => by
    obtain ⟨g, F, env, P, k, w, q⟩ := h
    unfold dIxC at w
    split at w
    · rename_i p xs e
      obtain ⟨a0, vs, h1, _⟩ := k.cel i p xs e
      refine ⟨_, h1, g, F, env, _, k, w, fun d env1 v F1 H1 p1 e1 k1 r1 => ?_⟩
      split at p1
      · rename_i p' ys e'
        obtain ⟨n, rfl, p1⟩ : ∃ n, d = .int n ∧ pick ys n _ := by
          cases d <;> first | exact ⟨_, rfl, p1⟩ | exact p1.elim
        cases r1.inv_int
        obtain ⟨d', ed, p1⟩ := pick_inv p1
        obtain ⟨a1, ws, z1, z2, z3, z4, z5⟩ := k1.cel i _ _ e'
        rw [h1] at z1
        cases z1
        obtain ⟨u, u1, u2⟩ := atI_rel z4 ed
        exact ⟨a0, ws, n, u, rfl, rfl, SqL.of z3, u1, q d' env1 u F1 H1 p1 e1 k1 u2⟩
      · exact p1.elim
    · exact w.elim
end
end DL

/-! The data layer, part 3: operators and built-ins. -/
namespace DL
variable {Z : Zx}
open PySem PySem.Spec PyProof.Rows L2
open Evl (Ex)

/-- a whole number of at most thousand figures -/
def Sz (i : Int) : Prop := i.natAbs < 10 ^ 1000
theorem Sz.log {i : Int} (h : Sz i) : i.natAbs.log2 < 3322 := by
  have h1 : i.natAbs < 2 ^ 3322 := Nat.lt_trans h (by decide +kernel)
  exact PySem.Flt.log2_lt_of (by decide) h1
theorem Sz.bits {i : Int} (h : Sz i) : Builtin.Int.intBits i ≤ 3322 := by
  have h1 := h.log
  unfold Builtin.Int.intBits
  split <;> omega
theorem sz_of {i : Int} (h1 : -(10 ^ 100) ≤ i) (h2 : i ≤ 10 ^ 100) : Sz i := by
  unfold Sz
  have : i.natAbs ≤ 10 ^ 100 := by omega
  exact Nat.lt_of_le_of_lt this (by decide +kernel)
theorem sz_lt {i : Int} (h : i.natAbs < 10 ^ 250) : Sz i := Nat.lt_trans h (by decide +kernel)
theorem log250 {i : Int} (h : i.natAbs < 10 ^ 250) : i.natAbs.log2 < 840 := by
  have h1 : i.natAbs < 2 ^ 840 := Nat.lt_trans h (by decide +kernel)
  exact PySem.Flt.log2_lt_of (by decide) h1
theorem lt_of {i : Int} (h1 : -(10 ^ 100) ≤ i) (h2 : i ≤ 10 ^ 100) : i.natAbs < 10 ^ 250 := by
  have : i.natAbs ≤ 10 ^ 100 := by omega
  exact Nat.lt_of_le_of_lt this (by decide +kernel)
theorem sz_mul {i j : Int} (h1 : i.natAbs ≤ 10 ^ 120) (h2 : j.natAbs ≤ 10 ^ 120) : Sz (i * j) := by
  unfold Sz
  rw [Int.natAbs_mul]
  exact Nat.lt_of_le_of_lt (Nat.mul_le_mul h1 h2) (by decide +kernel)

section
variable {X : Cx} {K : PySem.W.Frag}
/-! ### numbers -/
def oI (g : Int → Int → PyData) (x y : PyData) (P : PyData → Prop) : Prop := match x, y with
  | .int i, .int j => P (g i j)
  | _, _ => False
theorem opd_I0 {gv : Int → Int → V} {gd : Int → Int → PyData} (hg : ∀ (F : Hp) i j, DR K F (gv i j) (gd i j)) : OpD K (rI0 gv) (oI gd) := by
  intro _ g F env σ H vx vy dx dy P Q k rx ry p q
  unfold oI at p
  split at p
  · cases rx.inv_int
    cases ry.inv_int
    exact ⟨_, _, rfl, rfl, q _ _ F H p (Ex.refl F) k (hg F _ _)⟩
  · exact p.elim
def oIc (C : Int → Int → Prop) (g : Int → Int → PyData) (x y : PyData) (P : PyData → Prop) : Prop := match x, y with
  | .int i, .int j => C i j ∧ P (g i j)
  | _, _ => False
theorem opd_I {C C' : Int → Int → Prop} {gv : Int → Int → V} {gd : Int → Int → PyData} (hc : ∀ i j, C i j → C' i j) (hg : ∀ (F : Hp) i j, DR K F (gv i j) (gd i j)) : OpD K (rI C' gv) (oIc C gd) := by
  intro _ g F env σ H vx vy dx dy P Q k rx ry p q
  unfold oIc at p
  split at p
  · cases rx.inv_int
    cases ry.inv_int
    exact ⟨_, _, rfl, rfl, hc _ _ p.1, q _ _ F H p.2 (Ex.refl F) k (hg F _ _)⟩
  · exact p.elim
abbrev oSub : D2 := oI fun i j => .int (i - j)
abbrev oLt : D2 := oI fun i j => .bool (decide (i < j))
abbrev oLe : D2 := oI fun i j => .bool (decide (i ≤ j))
abbrev oGt : D2 := oI fun i j => .bool (decide (j < i))
abbrev oGe : D2 := oI fun i j => .bool (decide (j ≤ i))
abbrev oMod : D2 := oIc (fun _ j => 0 < j) fun i j => .int (i % j)
abbrev oDiv : D2 := oIc (fun _ j => 0 < j ∧ Sz j) fun i j => .int (i / j)
abbrev oMulI : D2 := oIc (fun i j => Sz i ∧ Sz j) fun i j => .int (i * j)
abbrev oPow : D2 := oIc (fun i j => Sz i ∧ 0 ≤ j ∧ j ≤ 10000) fun i j => .int (i ^ j.toNat)
variable {a b c e : Expr} {es : List Expr} {pos : Pos} {wa wb wc w : DE}
theorem op_powW : OpR X (binaryOp .Pow) (rI (fun i j => Sz i ∧ 0 ≤ j ∧ j ≤ 10000) fun i j => .int (i ^ j.toNat)) := by
  intro pins s σ H x y v u Q I rx ry h
  obtain ⟨i, j, rfl, rfl, ⟨h1, h2, h3⟩, q⟩ := h
  obtain ⟨t, rfl⟩ := rx
  obtain ⟨t', rfl⟩ := ry
  refine PyProof.Rows.pow_int h2 ?_ ⟨.int _, H, I.tok _, ⟨_, rfl⟩, q⟩
  have b := h1.bits
  have z : (Builtin.Int.intBits i : Int) * j ≤ 3322 * 10000 := Int.mul_le_mul (by omega) h3 h2 (by decide)
  exact Int.le_trans z (by decide)
theorem dsub (ha : PE X a (liftE X.K Z wa)) (hb : PE X b (liftE X.K Z wb)) : PE X (.BinOp a .Sub b pos) (liftE X.K Z (dOp oSub wa wb)) := dop op_sub (opd_I0 fun _ _ _ => .int _) ha hb
theorem dmod (ha : PE X a (liftE X.K Z wa)) (hb : PE X b (liftE X.K Z wb)) : PE X (.BinOp a .Mod b pos) (liftE X.K Z (dOp oMod wa wb)) := dop op_mod (opd_I (fun _ _ h => h) fun _ _ _ => .int _) ha hb
theorem ddiv (ha : PE X a (liftE X.K Z wa)) (hb : PE X b (liftE X.K Z wb)) : PE X (.BinOp a .FloorDiv b pos) (liftE X.K Z (dOp oDiv wa wb)) :=
  dop op_fdivW (opd_I (fun _ _ h => ⟨h.1, Nat.lt_trans h.2.log (by decide)⟩) fun _ _ _ => .int _) ha hb
theorem dmulI (ha : PE X a (liftE X.K Z wa)) (hb : PE X b (liftE X.K Z wb)) : PE X (.BinOp a .Mult b pos) (liftE X.K Z (dOp oMulI wa wb)) :=
  dop op_mulW (opd_I (fun _ _ h => by have h1 := h.1.log; have h2 := h.2.log; unfold CMulW; omega) fun _ _ _ => .int _) ha hb
theorem dpow (ha : PE X a (liftE X.K Z wa)) (hb : PE X b (liftE X.K Z wb)) : PE X (.BinOp a .Pow b pos) (liftE X.K Z (dOp oPow wa wb)) := dop op_powW (opd_I (fun _ _ h => h) fun _ _ _ => .int _) ha hb
theorem opr_lt : OpD K (rI0 fun i j => V.bl (decide (i < j))) oLt := opd_I0 fun _ _ _ => .bl _
theorem opr_le : OpD K (rI0 fun i j => V.bl (decide (i ≤ j))) oLe := opd_I0 fun _ _ _ => .bl _
theorem opr_gt : OpD K (rI0 fun i j => V.bl (decide (j < i))) oGt := opd_I0 fun _ _ _ => .bl _
theorem opr_ge : OpD K (rI0 fun i j => V.bl (decide (j ≤ i))) oGe := opd_I0 fun _ _ _ => .bl _
def oNeg (x : PyData) (P : PyData → Prop) : Prop := match x with
  | .int i => P (.int (-i))
  | _ => False
theorem dneg (ha : PE X a (liftE X.K Z wa)) : PE X (.UnaryOp .USub a pos) (liftE X.K Z (dUn oNeg wa)) := dun un_neg (by
  intro _ g F env σ H vx dx P Q k rx p q
  unfold oNeg at p
  split at p
  · cases rx.inv_int
    exact ⟨_, rfl, q _ _ F H p (Ex.refl F) k (.int _)⟩
  · exact p.elim) ha

/-! ### +, of numbers, texts, tuples, lists -/
def oAdd (x y : PyData) (P : PyData → Prop) : Prop := match x, y with
  | .int i, .int j => P (.int (i + j))
  | .tuple xs, .tuple ys => xs.length + ys.length ≤ 100000 ∧ P (.tuple (xs ++ ys))
  | .list xs, .list ys => xs.length + ys.length ≤ 100000 ∧ P (.list (xs ++ ys))
  | .str i, .str j => i.length + j.length ≤ 100000 ∧ P (.str (i ++ j))
  | _, _ => False
theorem sz2 {n : Nat} (h : n ≤ 100000) : n ≤ sizeLine := Evl.sz_of h
/-- two lists that stand, known to the object or not -/
def rCatL (K : PySem.W.Frag) : R2 := fun x y H Q => ∃ l b xs zs, x = .ref l ∧ y = .ref b ∧ RdL K H l xs ∧ RdL K H b zs ∧ xs.length + zs.length ≤ sizeLine ∧ ∀ p, H p = none → Q (.ref p) (upd H p (.lst (xs ++ zs)))
theorem op_catL : OpR X (binaryOp .Add) (rCatL X.K) := by
  intro pins s σ H x y v u Q I rx ry h
  obtain ⟨l, b, xs, zs, rfl, rfl, hl, hb, hz, q⟩ := h
  cases rx
  cases ry
  obtain ⟨z1, its, n, r1, e1⟩ := hl.obj I
  obtain ⟨z2, its2, n2, r2, e2⟩ := hb.obj I
  have l1 := r1.length
  have l2 := r2.length
  refine PySem.P.add_list e1 e2 ?_ (by rw [List.size_toArray, List.size_toArray]; omega)
  rw [show its.toArray ++ its2.toArray = (its ++ its2).toArray by simp]
  exact ⟨.ref _, _, I.lnew (t' := s.toks) (r1.append r2) (by rw [List.length_append]; omega), rfl, q _ I.fresh⟩
def rAddD (K : PySem.W.Frag) : R2 := fun x y H Q => ((rI0 fun i j => .int (i + j)) x y H Q ∨ rCatA K x y H Q) ∨ (rCatL K x y H Q ∨ (∃ i j, x = .str i ∧ y = .str j ∧ i.length + j.length ≤ sizeLine ∧ Q (.str (i ++ j)) H))
theorem op_addD : OpR X (binaryOp .Add) (rAddD X.K) := OpR.or (OpR.or op_add op_catA) (OpR.or op_catL op_add_str)
theorem opd_add : OpD K (rAddD K) oAdd := by
  intro _ g F env σ H vx vy dx dy P Q k rx ry p q
  unfold oAdd at p
  split at p
  · cases rx.inv_int
    cases ry.inv_int
    exact .inl (.inl ⟨_, _, rfl, rfl, q _ _ F H p (Ex.refl F) k (.int _)⟩)
  · rename_i xs ys
    obtain ⟨a, us, rfl, h1, h2⟩ := rx.inv_tup
    obtain ⟨b, ws, rfl, h3, h4⟩ := ry.inv_tup
    have l1 := h2.length
    have l2 := h4.length
    refine .inl (.inr ⟨a, b, us, ws, rfl, rfl, Evl.ex_t k.fh h1, Evl.ex_t k.fh h3, by rw [l1, l2]; exact sz2 p.1, fun e => ?_, fun _ e => ?_, fun _ _ x hx => ?_⟩)
    · subst e
      have : xs = [] := by cases h2; rfl
      subst this
      exact q _ _ F H p.2 (Ex.refl F) k ry
    · subst e
      have : ys = [] := by cases h4; rfl
      subst this
      rw [List.append_nil] at p
      exact q _ _ F H p.2 (Ex.refl F) k rx
    · obtain ⟨e2, k2, r2⟩ := k.newTup hx (h2.append h4)
      exact q _ _ _ _ p.2 e2 k2 r2
  · rename_i xs ys
    obtain ⟨a, us, rfl, h1, h2⟩ := rx.inv_lst
    obtain ⟨b, ws, rfl, h3, h4⟩ := ry.inv_lst
    have l1 := h2.length
    have l2 := h4.length
    refine .inr (.inl ⟨a, b, us, ws, rfl, rfl, h1.mono k.fh, h3.mono k.fh, by rw [l1, l2]; exact sz2 p.1, fun x hx => ?_⟩)
    obtain ⟨e2, k2, r2⟩ := k.newLst hx (h2.append h4)
    exact q _ _ _ _ p.2 e2 k2 r2
  · cases rx.inv_str
    cases ry.inv_str
    exact .inr (.inr ⟨_, _, rfl, rfl, sz2 p.1, q _ _ F H p.2 (Ex.refl F) k (.str _)⟩)
  · exact p.elim
theorem dadd (ha : PE X a (liftE X.K Z wa)) (hb : PE X b (liftE X.K Z wb)) : PE X (.BinOp a .Add b pos) (liftE X.K Z (dOp oAdd wa wb)) := dop op_addD opd_add ha hb

/-! ### ==, is None -/
mutual
theorem DR.dp {K : PySem.W.Frag} {H : Hp} : ∀ {d : PyData} {v : V}, DR K H v d → PyData.hasDict d = false → Dp K H v d
  | .none, _, h, _ => by cases h; exact .non
  | .bool b, _, h, _ => by cases h; exact .bl b
  | .int i, _, h, _ => by cases h; exact .int i
  | .str x, _, h, _ => by cases h; exact .str x
  | .list ds, _, h, hd => by
    cases h with
    | lst a b => exact .lst a.sq (DRs.dp b (by simpa [PyData.hasDict] using hd))
  | .tuple ds, _, h, hd => by
    cases h with
    | tup a b => exact .tup a (DRs.dp b (by simpa [PyData.hasDict] using hd))
  | .dict kvs, _, _, hd => by simp [PyData.hasDict] at hd
theorem DRs.dp {K : PySem.W.Frag} {H : Hp} : ∀ {ds : List PyData} {vs : List V}, DRs K H vs ds → PyData.hasDictAll ds = false → DpAll K H vs ds
  | [], _, h, _ => by cases h; exact .nil
  | d :: ds, _, h, hd => by
    simp only [PyData.hasDictAll, Bool.or_eq_false_iff] at hd
    cases h with
    | cons a b => exact .cons (DR.dp a hd.1) (DRs.dp b hd.2)
end
/-- == of two data, not to be looked into -/
@[irreducible] def eqD (x y : PyData) : Bool := PyData.eqv x y
theorem eqD_eq {x y : PyData} : eqD x y = PyData.eqv x y := by
  unfold eqD
  rfl
theorem eqD_int {i j : Int} : eqD (.int i) (.int j) = decide (i = j) := by
  rw [eqD_eq]
  show (i == j) = _
  rw [Bool.beq_eq_decide_eq]
def oEq (x y : PyData) (P : PyData → Prop) : Prop := match x, y with
  | .str a, .str b => P (.bool (decide (a = b)))
  | x, y => (SeqAt.shaped x = true ∧ SeqAt.shaped y = true) ∧ P (.bool (eqD x y))
def oNe (x y : PyData) (P : PyData → Prop) : Prop := match x, y with
  | .str a, .str b => P (.bool (!decide (a = b)))
  | x, y => (SeqAt.shaped x = true ∧ SeqAt.shaped y = true) ∧ P (.bool (!eqD x y))
theorem dict_of_shaped {d : PyData} (h : SeqAt.shaped d = true) : PyData.hasDict d = false := PyData.hasDict_of_canLay d (SeqAt.canLay_of_shaped h)
def rEqE (K : PySem.W.Frag) : R2 := fun x y H Q => rEq x y H Q ∨ rEqD K x y H Q
def rNeE (K : PySem.W.Frag) : R2 := fun x y H Q => rNe x y H Q ∨ rNeD K x y H Q
theorem op_eqE (hu : X.A.units + 64 < cLine) : OpR X (compareOp .Eq) (rEqE X.K) := OpR.or op_eq (op_eqD hu)
theorem op_neE (hu : X.A.units + 64 < cLine) : OpR X (compareOp .NotEq) (rNeE X.K) := OpR.or op_ne (op_neD hu)
theorem str_dec {a b : Str} : decide (V.str a = V.str b) = decide (a = b) := by
  by_cases h : a = b
  · subst h
    rw [decide_eq_true rfl, decide_eq_true rfl]
  · rw [decide_eq_false h, decide_eq_false (fun z => h (V.str.inj z))]
theorem opd_eq : OpD K (rEqE K) oEq := by
  intro _ g F env σ H vx vy dx dy P Q k rx ry p q
  unfold oEq at p
  split at p
  · cases rx.inv_str
    cases ry.inv_str
    refine .inl ⟨rfl, ?_⟩
    rw [str_dec]
    exact q _ _ F H p (Ex.refl F) k (.bl _)
  · obtain ⟨⟨h1, h2⟩, p⟩ := p
    rw [eqD_eq] at p
    exact .inr ⟨_, _, DR.dp (drH k rx) (dict_of_shaped h1), DR.dp (drH k ry) (dict_of_shaped h2), h1, h2, q _ _ F H p (Ex.refl F) k (.bl _)⟩
theorem opd_ne : OpD K (rNeE K) oNe := by
  intro _ g F env σ H vx vy dx dy P Q k rx ry p q
  unfold oNe at p
  split at p
  · cases rx.inv_str
    cases ry.inv_str
    refine .inl ⟨rfl, ?_⟩
    rw [str_dec]
    exact q _ _ F H p (Ex.refl F) k (.bl _)
  · obtain ⟨⟨h1, h2⟩, p⟩ := p
    rw [eqD_eq] at p
    exact .inr ⟨_, _, DR.dp (drH k rx) (dict_of_shaped h1), DR.dp (drH k ry) (dict_of_shaped h2), h1, h2, q _ _ F H p (Ex.refl F) k (.bl _)⟩
def oIsN (x : PyData) (P : PyData → Prop) : Prop := match x with
  | .none => P (.bool true)
  | _ => P (.bool false)
def oNotN (x : PyData) (P : PyData → Prop) : Prop := match x with
  | .none => P (.bool false)
  | _ => P (.bool true)
theorem non_iff {F : Hp} {v : V} {d : PyData} (r : DR K F v d) : decide (v = .non) = match d with | .none => true | _ => false := by
  cases r <;> first | rfl | (apply decide_eq_false; intro h; cases h)
theorem disN {j pos'} (ha : PE X a (liftE X.K Z wa)) : PE X (.Compare a [.Is] [.Constant .none j pos'] pos) (liftE X.K Z (dUn oIsN wa)) :=
  PE.of (pe_cmp (pc_isN ha) rfl) fun σ H Q h => by
    obtain ⟨g, F, env, P, k, w, q⟩ := h
    refine ⟨g, F, env, _, k, w, fun d env1 v F1 H1 p e1 k1 r1 => ?_⟩
    show Q (.bl (decide (v = V.non))) H1
    rw [non_iff r1]
    cases d <;> exact q _ env1 _ F1 H1 p e1 k1 (.bl _)
theorem dnotN {j pos'} (ha : PE X a (liftE X.K Z wa)) : PE X (.Compare a [.IsNot] [.Constant .none j pos'] pos) (liftE X.K Z (dUn oNotN wa)) :=
  PE.of (pe_cmp (pc_notN ha) rfl) fun σ H Q h => by
    obtain ⟨g, F, env, P, k, w, q⟩ := h
    refine ⟨g, F, env, _, k, w, fun d env1 v F1 H1 p e1 k1 r1 => ?_⟩
    show Q (.bl (!decide (v = V.non))) H1
    rw [non_iff r1]
    cases d <;> exact q _ env1 _ F1 H1 p e1 k1 (.bl _)
theorem tisN {j pos'} (ha : PE X a (liftE X.K Z wa)) : PT X (.Compare a [.Is] [.Constant .none j pos'] pos) (liftT X.K Z (dTest (dUn oIsN wa))) :=
  PT.of (pt_cmp (pc_isN ha) rfl) fun σ H Q h => by
    obtain ⟨g, F, env, P, k, w, q⟩ := h
    refine ⟨g, F, env, _, k, w, fun d env1 v F1 H1 p e1 k1 r1 => ?_⟩
    refine ⟨_, rfl, ?_⟩
    rw [non_iff r1]
    cases d <;> exact q _ env1 F1 H1 p e1 k1
theorem tnotN {j pos'} (ha : PE X a (liftE X.K Z wa)) : PT X (.Compare a [.IsNot] [.Constant .none j pos'] pos) (liftT X.K Z (dTest (dUn oNotN wa))) :=
  PT.of (pt_cmp (pc_notN ha) rfl) fun σ H Q h => by
    obtain ⟨g, F, env, P, k, w, q⟩ := h
    refine ⟨g, F, env, _, k, w, fun d env1 v F1 H1 p e1 k1 r1 => ?_⟩
    refine ⟨_, rfl, ?_⟩
    rw [non_iff r1]
    cases d <;> exact q _ env1 F1 H1 p e1 k1

/-! ### built-ins by name -/
abbrev DN := List PyData → (PyData → Prop) → Prop
def dB (f : DN) (wa : DA) (env : List SD) (P : PyData → List SD → Prop) : Prop := wa env fun xs env' => f xs fun z => P z env'
def CallD (K : PySem.W.Frag) (r : List V → Hp → VK → Prop) (f : DN) : Prop :=
  ∀ (Z : Zx) (g : Gx Z) (F : Hp) (env : List SD) (σ : L2.St) (H : Hp) (vs : List V) (ds : List PyData) (P : PyData → Prop) (Q : VK), Ok K g F env σ H → DRs K F vs ds → f ds P →
    (∀ d v F' H', P d → Ex F F' → Ok K g F' env σ H' → DR K F' v d → Q v H') → r vs H Q
theorem lift_call {r : List V → Hp → VK → Prop} {f : DN} {was : DA} (hd : CallD K r f) {σ : L2.St} {H : Hp} {Q : VK} (h : liftE K Z (dB f was) σ H Q) : tCB r (liftA K Z was) σ H Q := by
  obtain ⟨g, F, env, P, k, w, q⟩ := h
  refine ⟨g, F, env, _, k, w, fun ds env1 vs F1 H1 p e1 k1 r1 => ?_⟩
  exact hd _ g F1 env1 σ H1 vs ds _ Q k1 r1 p fun d2 v2 F2 H2 p2 e2 k2 r2 => q d2 env1 v2 F2 H2 p2 (e1.trans e2) k2 r2
theorem dcb {x : Str} {id : String} {p : Pos} {r : List V → Hp → VK → Prop} {f : DN} {was : DA} (hc : CallR X (.builtin id) r) (hd : CallD X.K r f) (hm : X.mg x = none) (hv : bootBuiltins x = some (.builtin id)) (ha : PA X (e :: es) (liftA X.K Z was))
    (hg : Gl X x := by rfl) (hn : x ≠ "__name__" := by decide) (hdb : (x == ("__debug__" : Str)) = false := by decide)
    (he : starEach (e :: es) X.env = (false, eval e X.env) :: starEach es X.env := by rfl) (hpl : (backTo pos (starEach es X.env)).any (·.1) = false := by rfl) : PE X (.Call (.Name x p) (e :: es) [] pos) (liftE X.K Z (dB f was)) :=
  PE.of (pe_callB hc hg hm hv ha hn hdb he hpl) fun _ _ _ h => lift_call hd h
theorem dct {x : Str} {T : String} {p : Pos} {r : List V → Hp → VK → Prop} {f : DN} {was : DA} (hc : CallR X (.type T) r) (hd : CallD X.K r f) (hm : X.mg x = none) (hv : bootBuiltins x = some (.type T)) (ha : PA X (e :: es) (liftA X.K Z was))
    (hg : Gl X x := by rfl) (hn : x ≠ "__name__" := by decide) (hdb : (x == ("__debug__" : Str)) = false := by decide)
    (he : starEach (e :: es) X.env = (false, eval e X.env) :: starEach es X.env := by rfl) (hpl : (backTo pos (starEach es X.env)).any (·.1) = false := by rfl) : PE X (.Call (.Name x p) (e :: es) [] pos) (liftE X.K Z (dB f was)) :=
  PE.of (pe_callTy hc hg hm hv ha hn hdb he hpl) fun _ _ _ h => lift_call hd h
variable {was : DA} {p : Pos}
/-- all whole numbers -/
def intsD : List PyData → Option (List Int)
  | [] => some []
  | .int i :: r => (intsD r).map (i :: ·)
  | _ :: _ => none
def boolsD : List PyData → Option (List Bool)
  | [] => some []
  | .bool i :: r => (boolsD r).map (i :: ·)
  | _ :: _ => none
theorem ints_rel {F : Hp} : ∀ {ds : List PyData} {vs : List V} {ns : List Int}, DRs K F vs ds → intsD ds = some ns → vs = ns.map V.int
  | [], _, _, h, e => by cases h; cases e; rfl
  | .int i :: r, _, ns, h, e => by
    cases h with
    | cons a b =>
      cases q : intsD r with
      | none => simp [intsD, q] at e
      | some ms =>
        simp only [intsD, q, Option.map_some, Option.some.injEq] at e
        subst e
        cases a.inv_int
        rw [ints_rel b q]
        rfl
  | .none :: _, _, _, _, e => by simp [intsD] at e
  | .bool _ :: _, _, _, _, e => by simp [intsD] at e
  | .str _ :: _, _, _, _, e => by simp [intsD] at e
  | .list _ :: _, _, _, _, e => by simp [intsD] at e
  | .tuple _ :: _, _, _, _, e => by simp [intsD] at e
  | .dict _ :: _, _, _, _, e => by simp [intsD] at e
theorem bools_rel {F : Hp} : ∀ {ds : List PyData} {vs : List V} {ns : List Bool}, DRs K F vs ds → boolsD ds = some ns → vs = ns.map V.bl
  | [], _, _, h, e => by cases h; cases e; rfl
  | .bool i :: r, _, ns, h, e => by
    cases h with
    | cons a b =>
      cases q : boolsD r with
      | none => simp [boolsD, q] at e
      | some ms =>
        simp only [boolsD, q, Option.map_some, Option.some.injEq] at e
        subst e
        cases a.inv_bool
        rw [bools_rel b q]
        rfl
  | .none :: _, _, _, _, e => by simp [boolsD] at e
  | .int _ :: _, _, _, _, e => by simp [boolsD] at e
  | .str _ :: _, _, _, _, e => by simp [boolsD] at e
  | .list _ :: _, _, _, _, e => by simp [boolsD] at e
  | .tuple _ :: _, _, _, _, e => by simp [boolsD] at e
  | .dict _ :: _, _, _, _, e => by simp [boolsD] at e
def nLen (xs : List PyData) (P : PyData → Prop) : Prop := match xs with
  | [.list ds] => P (.int (ds.length : Nat))
  | [.tuple ds] => P (.int (ds.length : Nat))
  | [.str x] => x.length ≤ 100000 ∧ P (.int (x.length : Nat))
  | _ => False
theorem dlen (hm : X.mg "len" = none) (ha : PA X (e :: es) (liftA X.K Z was)) (hg : Gl X "len" := by rfl)
    (he : starEach (e :: es) X.env = (false, eval e X.env) :: starEach es X.env := by rfl) (hpl : (backTo pos (starEach es X.env)).any (·.1) = false := by rfl) : PE X (.Call (.Name "len" p) (e :: es) [] pos) (liftE X.K Z (dB nLen was)) :=
  dcb call_len (fun _ g F env σ H vs ds P Q k r f q => by
    unfold nLen at f
    split at f
    · obtain ⟨v, rfl, r0⟩ := r.inv1
      obtain ⟨a, us, rfl, h1, h2⟩ := r0.inv_lst
      exact ⟨_, us.length, rfl, .inl ⟨us, (h1.mono k.fh).sq, rfl⟩, by rw [h2.length]; exact q _ _ F H f (Ex.refl F) k (.int _)⟩
    · obtain ⟨v, rfl, r0⟩ := r.inv1
      obtain ⟨a, us, rfl, h1, h2⟩ := r0.inv_tup
      exact ⟨_, us.length, rfl, .inr ⟨us, Evl.ex_t k.fh h1, rfl⟩, by rw [h2.length]; exact q _ _ F H f (Ex.refl F) k (.int _)⟩
    · obtain ⟨v, rfl, r0⟩ := r.inv1
      cases r0.inv_str
      exact ⟨_, _, rfl, ⟨sz2 f.1, rfl⟩, q _ _ F H f.2 (Ex.refl F) k (.int _)⟩
    · exact f.elim) hm PySem.boot_len ha hg (by decide) (by decide) he hpl
def nAbs (xs : List PyData) (P : PyData → Prop) : Prop := match xs with
  | [.int i] => P (.int (if i < 0 then -i else i))
  | _ => False
theorem dabs (hm : X.mg "abs" = none) (ha : PA X (e :: es) (liftA X.K Z was)) (hg : Gl X "abs" := by rfl)
    (he : starEach (e :: es) X.env = (false, eval e X.env) :: starEach es X.env := by rfl) (hpl : (backTo pos (starEach es X.env)).any (·.1) = false := by rfl) : PE X (.Call (.Name "abs" p) (e :: es) [] pos) (liftE X.K Z (dB nAbs was)) :=
  dcb call_abs (fun _ g F env σ H vs ds P Q k r f q => by
    unfold nAbs at f
    split at f
    · obtain ⟨v, rfl, r0⟩ := r.inv1
      cases r0.inv_int
      exact ⟨_, rfl, q _ _ F H f (Ex.refl F) k (.int _)⟩
    · exact f.elim) hm (by decide +kernel) ha hg (by decide) (by decide) he hpl
def nMin2 (xs : List PyData) (P : PyData → Prop) : Prop := match xs with
  | [.int i, .int j] => P (.int (if j < i then j else i))
  | _ => False
def nMax2 (xs : List PyData) (P : PyData → Prop) : Prop := match xs with
  | [.int i, .int j] => P (.int (if j > i then j else i))
  | _ => False
theorem dmin2 (hm : X.mg "min" = none) (hc : X.calm = true) (ha : PA X (e :: es) (liftA X.K Z was)) (hg : Gl X "min" := by rfl)
    (he : starEach (e :: es) X.env = (false, eval e X.env) :: starEach es X.env := by rfl) (hpl : (backTo pos (starEach es X.env)).any (·.1) = false := by rfl) : PE X (.Call (.Name "min" p) (e :: es) [] pos) (liftE X.K Z (dB nMin2 was)) :=
  dcb (call_min2 hc) (fun _ g F env σ H vs ds P Q k r f q => by
    unfold nMin2 at f
    split at f
    · obtain ⟨v, w, rfl, r1, r2⟩ := r.inv2
      cases r1.inv_int
      cases r2.inv_int
      exact ⟨_, _, rfl, q _ _ F H f (Ex.refl F) k (.int _)⟩
    · exact f.elim) hm (by decide +kernel) ha hg (by decide) (by decide) he hpl
theorem dmax2 (hm : X.mg "max" = none) (hc : X.calm = true) (ha : PA X (e :: es) (liftA X.K Z was)) (hg : Gl X "max" := by rfl)
    (he : starEach (e :: es) X.env = (false, eval e X.env) :: starEach es X.env := by rfl) (hpl : (backTo pos (starEach es X.env)).any (·.1) = false := by rfl) : PE X (.Call (.Name "max" p) (e :: es) [] pos) (liftE X.K Z (dB nMax2 was)) :=
  dcb (call_max2 hc) (fun _ g F env σ H vs ds P Q k r f q => by
    unfold nMax2 at f
    split at f
    · obtain ⟨v, w, rfl, r1, r2⟩ := r.inv2
      cases r1.inv_int
      cases r2.inv_int
      exact ⟨_, _, rfl, q _ _ F H f (Ex.refl F) k (.int _)⟩
    · exact f.elim) hm (by decide +kernel) ha hg (by decide) (by decide) he hpl
def nAll (xs : List PyData) (P : PyData → Prop) : Prop := match xs with
  | [.list ds] => (match boolsD ds with | some bs => P (.bool (bs.all id)) | none => False)
  | _ => False
def nAny (xs : List PyData) (P : PyData → Prop) : Prop := match xs with
  | [.list ds] => (match boolsD ds with | some bs => P (.bool (bs.any id)) | none => False)
  | _ => False
def nSumL (xs : List PyData) (P : PyData → Prop) : Prop := match xs with
  | [.list ds] => (match intsD ds with | some bs => P (.int bs.sum) | none => False)
  | _ => False
theorem dall (hm : X.mg "all" = none) (hc : X.calm = true) (ha : PA X (e :: es) (liftA X.K Z was)) (hg : Gl X "all" := by rfl)
    (he : starEach (e :: es) X.env = (false, eval e X.env) :: starEach es X.env := by rfl) (hpl : (backTo pos (starEach es X.env)).any (·.1) = false := by rfl) : PE X (.Call (.Name "all" p) (e :: es) [] pos) (liftE X.K Z (dB nAll was)) :=
  dcb (cr_all hc) (fun _ g F env σ H vs ds P Q k r f q => by
    unfold nAll at f
    split at f
    · split at f
      · rename_i bs e
        obtain ⟨v, rfl, r0⟩ := r.inv1
        obtain ⟨a, us, rfl, h1, h2⟩ := r0.inv_lst
        cases bools_rel h2 e
        exact ⟨a, bs, rfl, (h1.mono k.fh).sq, q _ _ F H f (Ex.refl F) k (.bl _)⟩
      · exact f.elim
    · exact f.elim) hm (by decide +kernel) ha hg (by decide) (by decide) he hpl
theorem dany (hm : X.mg "any" = none) (hc : X.calm = true) (ha : PA X (e :: es) (liftA X.K Z was)) (hg : Gl X "any" := by rfl)
    (he : starEach (e :: es) X.env = (false, eval e X.env) :: starEach es X.env := by rfl) (hpl : (backTo pos (starEach es X.env)).any (·.1) = false := by rfl) : PE X (.Call (.Name "any" p) (e :: es) [] pos) (liftE X.K Z (dB nAny was)) :=
  dcb (cr_any hc) (fun _ g F env σ H vs ds P Q k r f q => by
    unfold nAny at f
    split at f
    · split at f
      · rename_i bs e
        obtain ⟨v, rfl, r0⟩ := r.inv1
        obtain ⟨a, us, rfl, h1, h2⟩ := r0.inv_lst
        cases bools_rel h2 e
        exact ⟨a, bs, rfl, (h1.mono k.fh).sq, q _ _ F H f (Ex.refl F) k (.bl _)⟩
      · exact f.elim
    · exact f.elim) hm (by decide +kernel) ha hg (by decide) (by decide) he hpl
/-- isinstance(x, T), T a built-in type -/
def tyName : PyData → String
  | .none => "NoneType"
  | .bool _ => "bool"
  | .int _ => "int"
  | .str _ => "str"
  | .list _ => "list"
  | .tuple _ => "tuple"
  | .dict [] => "dict"
  | .dict _ => "list"
def isiB (d : PyData) (T : String) : Bool := (T == tyName d) || (T == "int" && tyName d == "bool")
theorem tyX_of0 {F : Hp} {v : V} {d : PyData} (r : DR K F v d) (hno : ∀ c, d ≠ .dict [(.none, .str c)]) : TyX K F v (.type (tyName d)) := by
  cases r with
  | exc _ _ => exact absurd rfl (hno _)

  | non => exact .base .non
  | bl b => exact .base (.bl b)
  | int i => exact .base (.int i)
  | str x => exact .base (.str x)
  | lst h _ =>
    rcases h with (h | ⟨o, h⟩) | ⟨its, n, h, _⟩
    · exact .base (.lst h)
    · exact .base (.frz h)
    · exact .kList h rfl
  | tup h _ =>
    rcases h with (h | ⟨o, h⟩) | ⟨o, its, n, h, hc, _⟩
    · exact .base (.tup h)
    · exact .fTuple h
    · exact .kTuple h hc
  | dct h => exact .base (.dK h)
  | row h _ => exact .base (.lst h)
theorem tyX_of {F : Hp} {v : V} {d : PyData} (r : DR K F v d) : TyX K F v (.type (tyName d)) ∨ ∃ a c, v = .ref a ∧ d = .dict [(.none, .str c)] ∧ F a = some (.ext (ExcAt (He.ga K c) a)) ∧ XcF K c := by
  by_cases h : ∃ c, d = .dict [(.none, .str c)]
  · obtain ⟨c, rfl⟩ := h
    cases r with
    | exc h x => exact .inr ⟨_, _, rfl, rfl, h, x⟩
  · exact .inl (tyX_of0 r fun c z => h ⟨c, z⟩)
theorem kit_isi (d : PyData) : ∀ T ∈ exTypes, PySem.W.kitOne K (.type (tyName d)) (.type T) = some (isiB d T) := by
  have h : ∀ N ∈ ["NoneType", "bool", "int", "str", "list", "tuple", "dict"], ∀ T ∈ exTypes, kitB N T = some ((T == N) || (T == "int" && N == "bool")) := by decide +kernel
  intro T hT
  exact kit_ty (h (tyName d) (by unfold tyName; split <;> simp) T hT)
/-- isinstance(e, c), e a caught refusal -/
def rIsE1 (K : PySem.W.Frag) : List V → Hp → VK → Prop := fun xs H Q => ∃ (a C : Addr) (c : V) (u : Value) (b : Bool), xs = [.ref a, c] ∧ ClsV c u ∧ H a = some (.ext (ExcAt C a)) ∧ ExcC K C ∧ PySem.W.kitOne K (.ref C) u = some b ∧ Q (.bl b) H
theorem exc_inst {H : Hp} {s : Shared} {σ : L2.St} {pins : List (Addr × Obj)} {a C : Addr} (I : Inv X pins σ H s) (h : H a = some (.ext (ExcAt C a))) : ∃ oe, PySem.W.InstAt s.heap a oe C none := by
  obtain ⟨⟨oe, vs, h1, h2, h3, h4⟩, _⟩ := (show ObjOk X.prog X.w H s.heap a (.ext (ExcAt C a)) from I.hok a _ h)
  obtain ⟨oc, od, oda, osl⟩ := oe
  dsimp only at h2 h3 h4
  subst h2 h3 h4
  exact ⟨_, h1, rfl, rfl, trivial⟩
theorem call_isE1 : CallR X (.builtin "isinstance") (rIsE1 X.K) := by
  intro pins s σ H xs us Q I r h
  obtain ⟨a, C, c, u, b, rfl, k, hH, x, e, q⟩ := h
  obtain ⟨u1, u2, rfl, r1, r2⟩ := vals2 r
  have e2 := k.eq r2
  subst e2
  cases (show u1 = Value.ref a from r1)
  obtain ⟨oe, J⟩ := exc_inst I hH
  exact PySem.W.kia_one (PySem.W.handS_kitx_exc x.hg x.hk x.hs x.hd x.ha x.hn x.ht x.hm) I.kIn J e (fun z => nomatch z) fun tk => ⟨.bl b, H, I.tok tk, rfl, q⟩
theorem CallR.or {f : Value} {r r' : List V → Hp → VK → Prop} (h : CallR X f r) (h' : CallR X f r') : CallR X f (fun xs H Q => r xs H Q ∨ r' xs H Q) := by
  intro pins s σ H xs us Q I rv q
  rcases q with q | q
  · exact h pins s σ H xs us Q I rv q
  · exact h' pins s σ H xs us Q I rv q
def dIsi (T : String) (wa : DE) (env : List SD) (P : PyData → List SD → Prop) : Prop := wa env fun d env' => P (.bool (isiB d T)) env'
theorem disi (T : String) (xT : Str) {p q2 : Pos} (hm : X.mg "isinstance" = none) (hmT : X.mg xT = none) (hvT : bootBuiltins xT = some (.type T)) (hT : T ∈ exTypes) (ha : PE X a (liftE X.K Z wa)) (hg : Gl X "isinstance" := by rfl) (hgT : Gl X xT := by rfl)
    (hnT : xT ≠ "__name__" := by decide) (hdT : (xT == ("__debug__" : Str)) = false := by decide)
    (hs1 : starEach [a, .Name xT q2] X.env = (false, eval a X.env) :: starEach [.Name xT q2] X.env := by rfl) (hs2 : starEach [.Name xT q2] X.env = (false, eval (.Name xT q2) X.env) :: starEach [] X.env := by rfl)
    (hpl : (backTo pos (starEach [Expr.Name xT q2] X.env)).any (·.1) = false := by rfl) : PE X (.Call (.Name "isinstance" p) [a, .Name xT q2] [] pos) (liftE X.K Z (dIsi T wa)) :=
  PE.of (pe_callB (call_isi.or call_isE1) hg hm (by decide +kernel) (pa_cons ha (pa_cons (pe_bltn (v := .ty T) hgT hmT hvT rfl hnT hdT) pa_nil hs2) hs1) (by decide) (by decide) hs1 hpl) fun σ H Q h => by
    obtain ⟨g, F, env, P, k, w, q⟩ := h
    refine ⟨g, F, env, _, k, w, fun d env1 v F1 H1 p e1 k1 r1 => ?_⟩
    rcases tyX_of (drH k1 r1) with ty | ⟨a, c, rfl, rfl, hx, x⟩
    · exact .inl ⟨v, .ty T, _, _, _, rfl, .ty T, ty, kit_isi d T hT, q _ env1 _ F1 H1 p e1 k1 (.bl _)⟩
    · refine .inr ⟨a, _, .ty T, _, false, rfl, .ty T, hx, x.cls, x.six T hT, ?_⟩
      have e : isiB (.dict [(.none, .str c)]) T = false := by
        have : ∀ T ∈ exTypes, isiB (.dict [(.none, .str c)]) T = false := by
          intro T hT
          simp only [exTypes, List.mem_cons, List.not_mem_nil, or_false] at hT
          rcases hT with rfl | rfl | rfl | rfl | rfl <;> rfl
        exact this T hT
      rw [e] at p
      exact q _ env1 _ F1 H1 p e1 k1 (.bl _)
end
end DL

/-! The data layer, part 4: what a def does with data; calls. -/
namespace DL
variable {Z : Zx}
open PySem PySem.Spec PyProof.Rows L2
open Evl (Ex)

abbrev DSp := List SD → (SD → List SD → Prop) → Prop
structure ArgsOk (K : PySem.W.Frag) (F H : Hp) (vs : List V) (as : List SD) : Prop where
  len : as.length = vs.length
  fh : Ex F H
  dat : ∀ (i : Nat) (d : PyData), as[i]? = some (.dat d) → ∃ v, vs[i]? = some v ∧ DR K F v d
  cel : ∀ (i : Nat) (p : Bool) (xs : List PyData), as[i]? = some (.cel p xs) → p = true ∧ ∃ a us, vs[i]? = some (.ref a) ∧ F a = none ∧ H a = some (.lst us) ∧ DRs K F us xs
  sep : ∀ (i j : Nat) (p q : Bool) (xs ys : List PyData) (a : Addr), as[i]? = some (.cel p xs) → as[j]? = some (.cel q ys) → vs[i]? = some (.ref a) → vs[j]? = some (.ref a) → i = j
structure PostOk (K : PySem.W.Frag) (F H : Hp) (vs : List V) (as : List SD) (F' H' : Hp) (as' : List SD) (v : V) (r : SD) : Prop where
  ex : Ex F F'
  fh : Ex F' H'
  newF : ∀ (a : Addr) (o : HO), F' a = some o → F a = some o ∨ H a = none
  frame : ∀ (a : Addr) (o : HO), H a = some o → (∀ (i : Nat) (p : Bool) (xs : List PyData), as[i]? = some (.cel p xs) → vs[i]? ≠ some (.ref a)) → H' a = some o
  cel : ∀ (i : Nat) (p : Bool) (xs : List PyData) (a : Addr), as[i]? = some (.cel p xs) → vs[i]? = some (.ref a) → ∃ ys us, as'[i]? = some (.cel true ys) ∧ F' a = none ∧ H' a = some (.lst us) ∧ DRs K F' us ys
  res : match r with
    | .un => False
    | .dat d => DR K F' v d
    | .cel _ xs => ∃ a us, v = .ref a ∧ F' a = none ∧ H' a = some (.lst us) ∧ DRs K F' us xs ∧ H a = none
def spD (K : PySem.W.Frag) (S : DSp) (vs : List V) (H : Hp) (Q : VK) : Prop := ∃ (F : Hp) (as : List SD) (P : SD → List SD → Prop), ArgsOk K F H vs as ∧ S as P ∧
  ∀ r as' v F' H', P r as' → PostOk K F H vs as F' H' as' v r → Q v H'
/-- the def at f keeps its promise of data; n: its parameters; it raises nothing -/
structure FnG (P : Program) (w : World) (K : PySem.W.Frag) (mg : Str → Option Value) (base : Heap) (k : Nat) (f : Addr) (fd : FuncData) (ps : List Str) (S : DSp) : Prop where
  len : ∀ as Q, S as Q → as.length = ps.length
  go : ∀ (A : Around) (outer : List Env) (s : Shared) (H : Hp) (args : Args) (us : List Value) (vs : List V) (Q : VK), Room k A → A.guards = some [] → Env0 P w K mg base A outer s H →
    BindsTo s fd args (ps.zip us) → Vals vs us → spD K S vs H Q → codeAny (model P w) A (.call (.ref f) args) (CR CX0 outer P w H s Q E0) s
theorem FnG.mono {P : Program} {w : World} {K : PySem.W.Frag} {mg : Str → Option Value} {base : Heap} {j k : Nat} {f : Addr} {fd : FuncData} {ps : List Str} {S : DSp} (F : FnG P w K mg base j f fd ps S) (h : j ≤ k) : FnG P w K mg base k f fd ps S :=
  ⟨F.len, fun A outer s H args us vs Q hr => F.go A outer s H args us vs Q (hr.mono h)⟩
/-- another promise, that follows -/
theorem FnG.imp {P : Program} {w : World} {K : PySem.W.Frag} {mg : Str → Option Value} {base : Heap} {k : Nat} {f : Addr} {fd : FuncData} {ps : List Str} {S S' : DSp} (F : FnG P w K mg base k f fd ps S) (h : ∀ as Q, S' as Q → S as Q) : FnG P w K mg base k f fd ps S' :=
  ⟨fun as Q q => F.len as Q (h _ _ q), fun A outer s H args us vs Q hr hg e hb r ⟨F0, as, P, a1, a2, a3⟩ => F.go A outer s H args us vs Q hr hg e hb r ⟨F0, as, P, a1, h _ _ a2, a3⟩⟩

section
variable {K : PySem.W.Frag} {g : Gx Z} {F F' : Hp} {env : List SD} {σ : L2.St} {H H' : Hp}
/-- behind a call without cells -/
theorem Ok.after (k : Ok K g F env σ H) {vs : List V} {as as' : List SD} {v : V} {r : SD} (hc : ∀ (i : Nat) (p : Bool) (xs : List PyData), as[i]? ≠ some (.cel p xs)) (p : PostOk K F H vs as F' H' as' v r) : Ok K g F' env σ H' ∧ ResOk K g F' env σ H' v r := by
  have fr : ∀ (a : Addr) (o : HO), H a = some o → H' a = some o := fun a o e => p.frame a o e fun i q xs z => absurd z (hc i q xs)
  have keepN : ∀ (a : Addr) (o : HO), H a = some o → F a = none → F' a = none := fun a o e n => by
    cases q : F' a with
    | none => rfl
    | some u =>
      rcases p.newF a u q with z | z
      · rw [n] at z; cases z
      · rw [e] at z; cases z
  refine ⟨⟨k.len, p.fh, fun i d e => ?_, fun i q xs e => ?_, k.sep, k.pin, fun a o e n => fr a o (k.frame a o e n), fun a o e => ?_, fun a o e => p.ex a o (k.oldF a o e), fun a o e => ?_⟩, ?_⟩
  · obtain ⟨u, h1, h2⟩ := k.dat i d e
    exact ⟨u, h1, h2.mono p.ex⟩
  · obtain ⟨a, us, h1, h2, h3, h4, h5⟩ := k.cel i q xs e
    exact ⟨a, us, h1, keepN a _ h3 h2, fr a _ h3, h4.mono p.ex, h5⟩
  · rcases p.newF a o e with z | z
    · exact k.newF a o z
    · exact .inr (k.fresh0 z)
  · obtain ⟨z1, z2, z3⟩ := k.prot a o e
    exact ⟨fr a o z1, keepN a o z1 z2, z3⟩
  · have pr := p.res
    cases r with
    | un => exact pr
    | dat d => exact pr
    | cel b xs =>
      obtain ⟨a, us, h1, h2, h3, h4, h5⟩ := pr
      refine ⟨a, us, h1, h2, h3, h4, k.fresh0 h5, ?_, fun j q ys e z => ?_⟩
      · cases e : g.Pr a with
        | none => rfl
        | some u =>
          have z := (k.prot a u e).1
          rw [h5] at z
          cases z
      · obtain ⟨a', ws, z1, _, z3, _⟩ := k.cel j q ys e
        rw [z] at z1
        cases z1
        rw [h5] at z3
        cases z3
/-- behind a call whose first argument is the cell of the name i -/
theorem Ok.afterC (k : Ok K g F env σ H) {i : Nat} {p : Bool} {xs : List PyData} {a : Addr} {vs : List V} {ds : List PyData} {as' : List SD} {v : V} {r : SD} (he : env[i]? = some (.cel p xs)) (hs : σ[i]? = some (some (.ref a)))
    (q : PostOk K F H (.ref a :: vs) (.cel true xs :: ds.map .dat) F' H' as' v r) : ∃ ys rest, as' = .cel true ys :: rest ∧ Ok K g F' (env.set i (.cel p ys)) σ H' ∧ ResOk K g F' (env.set i (.cel p ys)) σ H' v r := by
  obtain ⟨a0, us0, b1, b2, b3, b4, b5, b6⟩ := k.cel i p xs he
  rw [hs] at b1
  cases b1
  obtain ⟨ys, us, c1, c2, c3, c4⟩ := q.cel 0 true xs a rfl rfl
  obtain ⟨rest, rfl⟩ : ∃ rest, as' = .cel true ys :: rest := by
    cases as' with
    | nil => simp at c1
    | cons x rest => simp at c1; subst c1; exact ⟨rest, rfl⟩
  have fr : ∀ (b : Addr) (o : HO), H b = some o → b ≠ a → H' b = some o := fun b o e ne => q.frame b o e fun j p' xs' z z2 => by
    cases j with
    | zero => simp at z2; exact ne z2.symm
    | succ j =>
      simp only [List.getElem?_cons_succ, List.getElem?_map] at z
      cases y : ds[j]? with
      | none => rw [y] at z; cases z
      | some d => rw [y] at z; cases z
  have keepN : ∀ (b : Addr) (o : HO), H b = some o → F b = none → F' b = none := fun b o e n => by
    cases y : F' b with
    | none => rfl
    | some u =>
      rcases q.newF b u y with z | z
      · rw [n] at z; cases z
      · rw [e] at z; cases z
  have oth : ∀ {j : Nat} {p' : Bool} {zs : List PyData}, (env.set i (SD.cel p ys))[j]? = some (.cel p' zs) → ∃ p2 z2, env[j]? = some (.cel p2 z2) := fun {j p' zs} z => by
    rcases get_set z with ⟨rfl, _⟩ | ⟨_, z⟩
    · exact ⟨_, _, he⟩
    · exact ⟨_, _, z⟩
  refine ⟨ys, rest, rfl, ⟨by simp [k.len], q.fh, fun j d e => ?_, fun j p' zs e => ?_, fun j l p1 p2 z1 z2 c h1 h2 h3 h4 => ?_, fun j b e => ?_, fun b o e n => ?_, fun b o e => ?_, fun b o e => q.ex b o (k.oldF b o e), fun b o e => ?_⟩, ?_⟩
  · rcases get_set e with ⟨_, z⟩ | ⟨_, z⟩
    · cases z
    · obtain ⟨u, h1, h2⟩ := k.dat j d z
      exact ⟨u, h1, h2.mono q.ex⟩
  · rcases get_set e with ⟨rfl, z⟩ | ⟨n, z⟩
    · cases z
      exact ⟨a, us, hs, c2, c3, c4, b5, b6⟩
    · obtain ⟨b, ws, h1, h2, h3, h4, h5⟩ := k.cel j _ zs z
      have ne : b ≠ a := fun y => by
        subst y
        exact n (k.sep i j _ _ _ _ b he z hs h1)
      exact ⟨b, ws, h1, keepN b _ h3 h2, fr b _ h3 ne, h4.mono q.ex, h5⟩
  · obtain ⟨_, _, f1⟩ := oth h1
    obtain ⟨_, _, f2⟩ := oth h2
    exact k.sep j l _ _ _ _ c f1 f2 h3 h4
  · obtain ⟨zs, z⟩ := k.pin j b e
    by_cases n : i = j
    · subst n
      rw [he] at z
      cases z
      exact ⟨ys, set_eq he⟩
    · exact ⟨zs, by rw [set_ne n]; exact z⟩
  · have ne : b ≠ a := fun z => by
      subst z
      cases p with
      | true => exact n i (b5 rfl)
      | false =>
        rw [b6 rfl] at e
        cases e
    exact fr b o (k.frame b o e n) ne
  · rcases q.newF b o e with z | z
    · exact k.newF b o z
    · exact .inr (k.fresh0 z)
  · obtain ⟨z1, z2, z3⟩ := k.prot b o e
    have ne : b ≠ a := fun z => by
      subst z
      exact z3 i p xs he hs
    refine ⟨fr b o z1 ne, keepN b o z1 z2, fun j p' zs e' => ?_⟩
    obtain ⟨_, _, f1⟩ := oth e'
    exact z3 j _ _ f1
  · have pr := q.res
    cases r with
    | un => exact pr
    | dat d => exact pr
    | cel b xs2 =>
      obtain ⟨c, ws, h1, h2, h3, h4, h5⟩ := pr
      refine ⟨c, ws, h1, h2, h3, h4, k.fresh0 h5, ?_, fun j p' zs e z => ?_⟩
      · cases e : g.Pr c with
        | none => rfl
        | some u =>
          have z := (k.prot c u e).1
          rw [h5] at z
          cases z
      · obtain ⟨_, _, f1⟩ := oth e
        obtain ⟨a', ws', z1, _, z3, _⟩ := k.cel j _ _ f1
        rw [z] at z1
        cases z1
        rw [h5] at z3
        cases z3
theorem args_dat (hf : Ex F H) {vs : List V} {ds : List PyData} (r : DRs K F vs ds) : ArgsOk K F H vs (ds.map .dat) where
  len := by rw [List.length_map]; exact r.length.symm
  fh := hf
  dat := fun i d e => by
    rw [List.getElem?_map] at e
    cases q : ds[i]? with
    | none => rw [q] at e; cases e
    | some x =>
      rw [q] at e
      cases e
      exact r.get q
  cel := fun i p xs e => by
    rw [List.getElem?_map] at e
    cases q : ds[i]? with
    | none => rw [q] at e; cases e
    | some x => rw [q] at e; cases e
  sep := fun i j p q xs ys a e => by
    rw [List.getElem?_map] at e
    cases q : ds[i]? with
    | none => rw [q] at e; cases e
    | some x => rw [q] at e; cases e
theorem no_cel {ds : List PyData} (i : Nat) (p : Bool) (xs : List PyData) : (ds.map SD.dat)[i]? ≠ some (.cel p xs) := fun e => by
  rw [List.getElem?_map] at e
  cases q : ds[i]? with
  | none => rw [q] at e; cases e
  | some x => rw [q] at e; cases e
theorem args_cel (hf : Ex F H) {a : Addr} {us : List V} {xs : List PyData} {vs : List V} {ds : List PyData} (hF : F a = none) (hH : H a = some (.lst us)) (rx : DRs K F us xs) (r : DRs K F vs ds) : ArgsOk K F H (.ref a :: vs) (.cel true xs :: ds.map .dat) := by
  have b := args_dat hf r
  refine ⟨by simp [r.length], hf, fun i d e => ?_, fun i p zs e => ?_, fun i j p q zs ys c e1 e2 _ _ => ?_⟩
  · cases i with
    | zero => simp at e
    | succ i =>
      obtain ⟨v, h1, h2⟩ := b.dat i d (by simpa using e)
      exact ⟨v, by simpa using h1, h2⟩
  · cases i with
    | zero =>
      simp at e
      obtain ⟨rfl, rfl⟩ := e
      exact ⟨rfl, a, us, rfl, hF, hH, rx⟩
    | succ i => exact absurd (by simpa using e) (no_cel (ds := ds) i p zs)
  · cases i with
    | succ i => exact absurd (by simpa using e1) (no_cel (ds := ds) i p zs)
    | zero =>
      cases j with
      | zero => rfl
      | succ j => exact absurd (by simpa using e2) (no_cel (ds := ds) j q ys)
end

section
variable {X : Cx} {k : Nat} {f : Addr} {fd : FuncData} {ps : List Str} {S : DSp} {x : Str} {p pos : Pos} {e : Expr} {es : List Expr} {was : DA}
/-- the callee runs -/
theorem run_g {pins : List (Addr × Obj)} {σ : L2.St} {H : Hp} {s : Shared} {Q : VK} {us : List Value} {vs : List V} (G : FnG X.prog X.w X.K X.mg X.base k f fd ps S) (hr : Room k X.A) (hg : X.A.guards = some []) (hb : Binds X.K fd ps [])
    (I : Inv X pins σ H s) (r : Vals vs us) (h : spD X.K S vs H Q) : wpAny (model X.prog X.w) X.A (call (.ref f) us) (EP X pins σ Q) X.xe s := by
  obtain ⟨F0, as, P, a1, a2, a3⟩ := id h
  have hl : (us ++ ([] : List Value)).length = ps.length := by rw [List.append_nil, ← r.length, ← a1.len]; exact G.len _ _ a2
  have hbb := hb s us I.kIn hl
  rw [List.append_nil] at hbb
  refine wpAny_call (codeAny_mono (G.go X.A X.stack s H ⟨us, []⟩ us vs Q hr hg I.env0 hbb r h) fun res s' hq => ?_)
  match res, hq with
  | .error e, hq => exact hq.elim
  | .ok (.ret u), hq => exact I.after hq
  | .ok .next, hq => exact hq.elim
  | .ok .brk, hq => exact hq.elim
  | .ok .cont, hq => exact hq.elim
/-- f(..), all arguments data -/
def dCall (S : DSp) (was : DA) (env : List SD) (P : SD → List SD → Prop) : Prop := was env fun ds env1 => S (ds.map .dat) fun r _ => P r env1
theorem dcall (G : FnG X.prog X.w X.K X.mg X.base k f fd ps S) (hr : Room k X.A) (hA : X.A.guards = some []) (hm : X.mg x = some (.ref f)) (hk : PySem.W.keepIn X.K (.ref f) = true) (hb : Binds X.K fd ps [])
    (ha : PA X (e :: es) (liftA X.K Z was)) (hg : Gl X x := by rfl) (hdb : (x == ("__debug__" : Str)) = false := by decide)
    (he : starEach (e :: es) X.env = (false, eval e X.env) :: starEach es X.env := by rfl) (hpl : (backTo pos (starEach es X.env)).any (·.1) = false := by rfl) : PE X (.Call (.Name x p) (e :: es) [] pos) (liftX X.K Z (dCall S was)) := by
  refine ⟨fun pins s σ H Q I ⟨g, F, env, P, k0, w, q⟩ => wpAny_Call_Name_kw (ld_glob I hg hm (PySem.W.callWith_K (h₀ := X.base) I.ok.mod.kin hk (thn (ha.run pos pins s σ H (spD X.K S · · Q) I ?_) fun us s1 ⟨vs, H1, I1, r, q1⟩ => ⟨I1.kIn, run_g G hr hA hb I1 r q1⟩) he hpl) hdb)⟩
  refine ⟨g, F, env, _, k0, w, fun ds env1 vs F1 H1 p1 e1 k1 r1 => ⟨F1, ds.map .dat, _, args_dat k1.fh r1, p1, fun r as' v F2 H2 p2 po => ?_⟩⟩
  obtain ⟨k2, r2⟩ := k1.after no_cel po
  exact q r env1 v F2 H2 p2 (e1.trans po.ex) k2 r2
/-- f(x, ..), x the name i's own cell, which f may change -/
def dCallC (S : DSp) (i : Nat) (was : DA) (env : List SD) (P : SD → List SD → Prop) : Prop := match env[i]? with
  | some (.cel _ _) => was env fun ds env1 => match env1[i]? with
    | some (.cel p xs) => S (.cel true xs :: ds.map .dat) fun r as' => match as' with
      | .cel _ ys :: _ => P r (env1.set i (.cel p ys))
      | _ => False
    | _ => False
  | _ => False
theorem dcallC (i : Nat) {y : Str} {p0 : Pos} (G : FnG X.prog X.w X.K X.mg X.base k f fd ps S) (hr : Room k X.A) (hA : X.A.guards = some []) (hm : X.mg x = some (.ref f)) (hk : PySem.W.keepIn X.K (.ref f) = true) (hb : Binds X.K fd ps [])
    (ha : PA X es (liftA X.K Z was)) (hN : X.N[i]? = some y := by rfl) (hv : Vis X.env.scope y := by first | exact Or.inl rfl | exact Or.inr (Or.inl rfl) | exact Or.inr (Or.inr rfl)) (hd : (y == ("__debug__" : Str)) = false := by decide)
    (hcd : (y == ("__classdict__" : Str)) = false := by decide) (hg : Gl X x := by rfl) (hdb : (x == ("__debug__" : Str)) = false := by decide)
    (he : starEach (.Name y p0 :: es) X.env = (false, eval (.Name y p0) X.env) :: starEach es X.env := by rfl) (hpl : (backTo pos (starEach es X.env)).any (·.1) = false := by rfl) :
    PE X (.Call (.Name x p) (.Name y p0 :: es) [] pos) (liftX X.K Z (dCallC S i was)) := by
  refine ⟨fun pins s σ H Q I ⟨g, F, env, P, k0, w, q⟩ => wpAny_Call_Name_kw (ld_glob I hg hm (PySem.W.callWith_K (h₀ := X.base) I.ok.mod.kin hk (thn ((pa_cons (pe_var hN hv hd hcd) ha he).run pos pins s σ H (spD X.K S · · Q) I ?_) fun us s1 ⟨vs, H1, I1, r, q1⟩ => ⟨I1.kIn, run_g G hr hA hb I1 r q1⟩) he hpl) hdb)⟩
  unfold dCallC at w
  split at w
  · rename_i p' xs' e0
    obtain ⟨a0, us0, b1, _⟩ := k0.cel i p' xs' e0
    refine ⟨_, b1, g, F, env, _, k0, w, fun ds env1 vs F1 H1 p1 e1 k1 r1 => ?_⟩
    split at p1
    · rename_i p2 xs ex
      obtain ⟨a1, us1, c1, c2, c3, c4, _⟩ := k1.cel i p2 xs ex
      rw [b1] at c1
      cases c1
      refine ⟨F1, _, _, args_cel k1.fh c2 c3 c4 r1, p1, fun r as' v F2 H2 p3 po => ?_⟩
      obtain ⟨ys, rest, rfl, k2, r2⟩ := k1.afterC ex b1 po
      exact q r _ v F2 H2 p3 (e1.trans po.ex) k2 r2
    · exact p1.elim
  · exact w.elim
end

/-! ### statements -/
structure DEnds where
  nx : List SD → Prop
  rt : SD → List SD → Prop
  bk : List SD → Prop := fun _ => False
  ct : List SD → Prop := fun _ => False
  nol : Bool := false
abbrev DS := DEnds → List SD → Prop
def StOk (K : PySem.W.Frag) (g : Gx Z) (F : Hp) (P : List SD → Prop) (σ' : L2.St) (H' : Hp) : Prop := ∃ env' F', P env' ∧ Ex F F' ∧ Ok K g F' env' σ' H'
structure Ends4 (K : PySem.W.Frag) (m : Nat) (g : Gx Z) (F : Hp) (P : DEnds) (D : Ends) : Prop where
  nx : ∀ env' σ' F' H', P.nx env' → Ex F F' → Ok K g F' env' σ' H' → D.nx σ' H'
  bk : ∀ env' σ' F' H', P.bk env' → Ex F F' → Ok K g F' env' σ' H' → D.bk σ' H'
  ct : ∀ env' σ' F' H', P.ct env' → Ex F F' → Ok K g F' env' σ' H' → D.ct σ' H'
  rt : ∀ r env' v σ' F' H', P.rt r (env'.take m) → Ex F F' → Ok K g F' env' σ' H' → ResOk K g F' env' σ' H' v r → D.rt v H'
/-- P.nol: no list stood at the def's begin -/
structure EndsOk (K : PySem.W.Frag) (m : Nat) (g : Gx Z) (F : Hp) (P : DEnds) (D : Ends) : Prop extends Ends4 K m g F P D where
  free : P.nol = true → (∀ a, g.F0 a = none) ∧ ∀ F', Ends4 K m g F' P D
theorem EndsOk.four {K : PySem.W.Frag} {m : Nat} {g : Gx Z} {F : Hp} {P : DEnds} {D : Ends} (h : EndsOk K m g F P D) : Ends4 K m g F P D := h.toEnds4
theorem EndsOk.any {K : PySem.W.Frag} {m : Nat} {g : Gx Z} {F : Hp} {P : DEnds} {D : Ends} (h : EndsOk K m g F P D) (n : P.nol = true) (F' : Hp) : EndsOk K m g F' P D := ⟨(h.free n).2 F', h.free⟩
theorem EndsOk.mk4 {K : PySem.W.Frag} {m : Nat} {g : Gx Z} {F : Hp} {P : DEnds} {D : Ends} (h : Ends4 K m g F P D) (n : P.nol = false) : EndsOk K m g F P D := ⟨h, fun z => by rw [n] at z; cases z⟩
def liftS (K : PySem.W.Frag) (Z : Zx) (m : Nat) (w : DS) : TS := fun D σ H => ∃ (g : Gx Z) (F : Hp) (env : List SD) (P : DEnds), Ok K g F env σ H ∧ w P env ∧ EndsOk K m g F P D
theorem EndsOk.ex {K : PySem.W.Frag} {m : Nat} {g : Gx Z} {F F' : Hp} {P : DEnds} {D : Ends} (h : EndsOk K m g F P D) (e : Ex F F') : EndsOk K m g F' P D :=
  ⟨⟨fun a b c d p x => h.nx a b c d p (e.trans x), fun a b c d p x => h.bk a b c d p (e.trans x), fun a b c d p x => h.ct a b c d p (e.trans x), fun a b c d f g' p x => h.rt a b c d f g' p (e.trans x)⟩, h.free⟩
section
variable {X : Cx} {st : Stmt} {sts : List Stmt} {w w2 : DS} {m : Nat} {e : Expr} {we : DE} {wx : DX} {pos : Pos}
def dNext (E : DEnds) (env : List SD) : Prop := E.nx env
def dSeq (w w2 : DS) (E : DEnds) (env : List SD) : Prop := w { E with nx := w2 E } env
def dNever (_ : DEnds) (_ : List SD) : Prop := False
theorem snil : PSs X [] (liftS X.K Z m dNext) := PSs.of pss_nil fun D σ H ⟨g, F, env, P, k, w, q⟩ => q.nx env σ F H w (Ex.refl F) k
theorem scons (h1 : PS X st (liftS X.K Z m w)) (h2 : PSs X sts (liftS X.K Z m w2)) : PSs X (st :: sts) (liftS X.K Z m (dSeq w w2)) := PSs.of (pss_cons h1 h2) fun D σ H ⟨g, F, env, P, k, w, q⟩ =>
  ⟨g, F, env, _, k, w, ⟨⟨fun env' σ' F' H' p e k' => ⟨g, F', env', P, k', p, q.ex e⟩, q.bk, q.ct, q.rt⟩, fun n => ⟨(q.free n).1, fun F2 => ⟨fun env' σ' F' H' p e k' => ⟨g, F', env', P, k', p, q.any n F'⟩, ((q.free n).2 F2).bk, ((q.free n).2 F2).ct, ((q.free n).2 F2).rt⟩⟩⟩⟩
theorem sone (h1 : PS X st (liftS X.K Z m w)) : PSs X [st] (liftS X.K Z m w) := pss_one h1
theorem snever : PS X st (liftS X.K Z m dNever) := PS.of ps_never fun D σ H ⟨g, F, env, P, k, w, q⟩ => w
theorem ssnever : PSs X sts (liftS X.K Z m dNever) := PSs.of pss_never fun D σ H ⟨g, F, env, P, k, w, q⟩ => w
theorem spass : PS X (.Pass pos) (liftS X.K Z m dNext) := PS.of ps_pass fun D σ H ⟨g, F, env, P, k, w, q⟩ => q.nx env σ F H w (Ex.refl F) k
theorem sdoc {x j p2 pos'} : PS X (.Expr (.Constant (.str x) j p2) pos') (liftS X.K Z m dNext) := PS.of ps_doc fun D σ H ⟨g, F, env, P, k, w, q⟩ => q.nx env σ F H w (Ex.refl F) k
def dBreak (E : DEnds) (env : List SD) : Prop := E.bk env
def dCont (E : DEnds) (env : List SD) : Prop := E.ct env
theorem sbreak : PS X (.Break pos) (liftS X.K Z m dBreak) := PS.of ps_break fun D σ H ⟨g, F, env, P, k, w, q⟩ => q.bk env σ F H w (Ex.refl F) k
theorem scont : PS X (.Continue pos) (liftS X.K Z m dCont) := PS.of ps_continue fun D σ H ⟨g, F, env, P, k, w, q⟩ => q.ct env σ F H w (Ex.refl F) k
/-- a name that is no parameter's cell -/
def npB : SD → Bool
  | .cel true _ => false
  | _ => true
def noPar (env : List SD) (i : Nat) : Bool := match env[i]? with
  | some r => npB r
  | none => true
theorem noPar_of {env : List SD} {i : Nat} (h : noPar env i = true) : NoPar env i := fun xs e => by
  unfold noPar at h
  rw [e] at h
  cases h
theorem Ok.setR {K : PySem.W.Frag} {g : Gx Z} {F : Hp} {env : List SD} {σ : L2.St} {H : Hp} {i : Nat} {v : V} {r : SD} (k : Ok K g F env σ H) (hp : noPar env i = true) (h : ResOk K g F env σ H v r) (hr : ∀ xs, r ≠ .cel true xs) : Ok K g F (env.set i r) (σ.set i (some v)) H := by
  cases r with
  | un => exact h.elim
  | dat d => exact k.setD (noPar_of hp) h
  | cel b xs =>
    obtain ⟨a, vs, rfl, h1, h2, h3, h4, h5, h6⟩ := h
    cases b with
    | true => exact absurd rfl (hr xs)
    | false => exact k.setC (noPar_of hp) h1 h2 h3 h4 h5 h6
/-- what a new cell is called -/
def asOwn : SD → SD
  | .cel _ xs => .cel false xs
  | r => r
theorem res_own {K : PySem.W.Frag} {g : Gx Z} {F : Hp} {env : List SD} {σ : L2.St} {H : Hp} {v : V} {r : SD} (h : ResOk K g F env σ H v r) : ResOk K g F env σ H v (asOwn r) := by
  cases r <;> exact h
theorem own_ne {r : SD} (xs : List PyData) : asOwn r ≠ .cel true xs := by
  cases r <;> (intro h; cases h)
/-- name = e -/
def dSet (i : Nat) (wx : DX) (E : DEnds) (env : List SD) : Prop := wx env fun r env1 => bIf (noPar env1 i) (E.nx (env1.set i (asOwn r))) False
theorem sset (i : Nat) {x : Str} {pos' : Pos} (hN : X.N.Nodup) (he : PE X e (liftX X.K Z wx)) (hi : X.N[i]? = some x := by rfl) (hx : Loc X.env.scope x := by first | exact Or.inl rfl | exact Or.inr rfl) (hs : swapsWith e (some (.Name x pos')) pos.line X.env = pure false := by rfl)
    (hf : X.fn x = true ∨ X.env.scope.names.lookup x = some .local := by first | exact .inl rfl | exact .inr rfl) : PS X (.Assign [.Name x pos'] e pos) (liftS X.K Z m (dSet i wx)) := PS.of (ps_set hN hi hx he hs hf) fun D σ H ⟨g, F, env, P, k, w, q⟩ =>
  ⟨g, F, env, _, k, w, fun r env1 v F1 H1 p e1 k1 r1 => q.nx _ _ F1 H1 (bIf_and p).2 e1 (k1.setR (bIf_and p).1 (res_own r1) own_ne)⟩
/-- return e -/
def dRet (m : Nat) (wx : DX) (E : DEnds) (env : List SD) : Prop := wx env fun r env1 => E.rt (asOwn r) (env1.take m)
theorem sret (he : PE X e (liftX X.K Z wx)) : PS X (.Return (some e) pos) (liftS X.K Z m (dRet m wx)) := PS.of (ps_ret he) fun D σ H ⟨g, F, env, P, k, w, q⟩ =>
  ⟨g, F, env, _, k, w, fun r env1 v F1 H1 p e1 k1 r1 => q.rt _ env1 v σ F1 H1 p e1 k1 (res_own r1)⟩
def dRetN (m : Nat) (E : DEnds) (env : List SD) : Prop := E.rt (.dat .none) (env.take m)
theorem sretN : PS X (.Return none pos) (liftS X.K Z m (dRetN m)) := PS.of ps_retN fun D σ H ⟨g, F, env, P, k, w, q⟩ => q.rt _ env .non σ F H w (Ex.refl F) k .non
/-- an expression for what it does -/
def dDrop (wx : DX) (E : DEnds) (env : List SD) : Prop := wx env fun _ env1 => E.nx env1
theorem sexpr (he : PE X e (liftX X.K Z wx)) (hs : swapsWith e none pos.line X.env = pure false := by rfl) : PS X (.Expr e pos) (liftS X.K Z m (dDrop wx)) := PS.of (ps_expr he hs) fun D σ H ⟨g, F, env, P, k, w, q⟩ =>
  ⟨g, F, env, _, k, w, fun r env1 v F1 H1 p e1 k1 _ => q.nx env1 σ F1 H1 p e1 k1⟩
def dIfS (t : DT) (w w2 : DS) (E : DEnds) (env : List SD) : Prop := t env fun b env1 => bIf b (w E env1) (w2 E env1)
theorem sif {c : Expr} {a b : List Stmt} {t : DT} (hc : PT X c (liftT X.K Z t)) (ha : PSs X a (liftS X.K Z m w)) (hb : PSs X b (liftS X.K Z m w2)) : PS X (.If c a b pos) (liftS X.K Z m (dIfS t w w2)) := PS.of (ps_if hc ha hb) fun D σ H ⟨g, F, env, P, k, w, q⟩ =>
  ⟨g, F, env, _, k, w, fun b env1 F1 H1 p e1 k1 => by
    cases b with
    | true => exact iteT ⟨g, F1, env1, P, k1, p, q.ex e1⟩
    | false => exact iteF ⟨g, F1, env1, P, k1, p, q.ex e1⟩⟩
/-- ahead of a block: the cell of the name i stays as it is from here on -/
def dFreeze (i : Nat) (w : DS) (E : DEnds) (env : List SD) : Prop := match env[i]? with
  | some (.cel false xs) => w E (env.set i (.dat (.list xs)))
  | _ => False
theorem ssfreeze (i : Nat) (h : PSs X sts (liftS X.K Z m w)) : PSs X sts (liftS X.K Z m (dFreeze i w)) := PSs.of h fun D σ H ⟨g, F, env, P, k, w, q⟩ => by
  unfold dFreeze at w
  split at w
  · rename_i xs e
    obtain ⟨F', e1, k1⟩ := k.freeze e
    exact ⟨g, F', _, P, k1, w, q.ex e1⟩
  · exact w.elim
/-- return of a name's own cell -/
def dRetC (m : Nat) (i : Nat) (E : DEnds) (env : List SD) : Prop := match env[i]? with
  | some (.cel false xs) => E.rt (.cel false xs) ((env.set i .un).take m)
  | _ => False
theorem Ok.drop {K : PySem.W.Frag} {g : Gx Z} {F : Hp} {env : List SD} {σ : L2.St} {H : Hp} {i : Nat} {xs : List PyData} (k : Ok K g F env σ H) (he : env[i]? = some (.cel false xs)) : ∃ a, σ[i]? = some (some (.ref a)) ∧ Ok K g F (env.set i .un) σ H ∧ ResOk K g F (env.set i .un) σ H (.ref a) (.cel false xs) := by
  obtain ⟨a, vs, h1, h2, h3, h4, _, h6⟩ := k.cel i false xs he
  have np : NoPar env i := fun ys z => by rw [he] at z; cases z
  have k2 := k.setU (o := some (.ref a)) np
  have e : σ.set i (some (.ref a)) = σ := List.ext_getElem? fun j => by
    rw [List.getElem?_set]
    split
    · rename_i z
      subst z
      split
      · exact h1.symm
      · rename_i z
        exact absurd (List.getElem?_eq_some_iff.mp h1).1 z
    · rfl
  rw [e] at k2
  refine ⟨a, h1, k2, a, vs, rfl, h2, h3, h4, h6 rfl, ?_, fun j p ys hj z => ?_⟩
  · cases q : g.Pr a with
    | none => rfl
    | some u => exact absurd h1 ((k.prot a u q).2.2 i false xs he)
  · rcases get_set hj with ⟨_, q⟩ | ⟨n, q⟩
    · cases q
    · exact n (k.sep i j _ _ _ _ a he q h1 z)
theorem sretC (i : Nat) {x : Str} {p0 : Pos} (hN : X.N[i]? = some x := by rfl) (hv : Vis X.env.scope x := by first | exact Or.inl rfl | exact Or.inr (Or.inl rfl) | exact Or.inr (Or.inr rfl)) (hd : (x == ("__debug__" : Str)) = false := by decide)
    (hcd : (x == ("__classdict__" : Str)) = false := by decide) : PS X (.Return (some (.Name x p0)) pos) (liftS X.K Z m (dRetC m i)) := PS.of (ps_ret (pe_var hN hv hd hcd)) fun D σ H ⟨g, F, env, P, k, w, q⟩ => by
  unfold dRetC at w
  split at w
  · rename_i xs e
    obtain ⟨a, h1, k2, r2⟩ := k.drop e
    exact ⟨_, h1, q.rt _ _ _ σ F H w (Ex.refl F) k2 r2⟩
  · exact w.elim
/-- slots that are not to be known any more -/
def unS : List Nat → List SD → List SD
  | [], env => env
  | i :: is, env => match env[i]? with
    | some (.dat _) => unS is (env.set i .un)
    | some (.cel false _) => unS is (env.set i .un)
    | _ => unS is env
theorem Ok.unS {K : PySem.W.Frag} {g : Gx Z} {F : Hp} {σ : L2.St} {H : Hp} : ∀ {is : List Nat} {env : List SD}, Ok K g F env σ H → Ok K g F (unS is env) σ H
  | [], _, k => k
  | i :: is, env, k => by
    have go : NoPar env i → Ok K g F (env.set i .un) σ H := fun np => by
      by_cases hi : i < σ.length
      · have k2 := k.setU (o := σ[i]) np
        rw [List.set_getElem_self] at k2
        exact k2
      · have k2 := k.setU (o := none) np
        rw [show σ.set i none = σ from List.set_eq_of_length_le (Nat.le_of_not_lt hi)] at k2
        exact k2
    unfold DL.unS
    split
    · rename_i d e
      exact (go fun xs z => by rw [e] at z; cases z).unS
    · rename_i xs e
      exact (go fun ys z => by rw [e] at z; cases z).unS
    · exact k.unS
def dForget (is : List Nat) (w : DS) (E : DEnds) (env : List SD) : Prop := w E (unS is env)
theorem ssforget (is : List Nat) (h : PSs X sts (liftS X.K Z m w)) : PSs X sts (liftS X.K Z m (dForget is w)) := PSs.of h fun D σ H ⟨g, F, env, P, k, w, q⟩ => ⟨g, F, _, P, k.unS, w, q⟩
/-- another reading, that follows -/
theorem ssimp {w' : DS} (h : PSs X sts (liftS X.K Z m w)) (hw : ∀ E env, w' E env → w E env) : PSs X sts (liftS X.K Z m w') := PSs.of h fun D σ H ⟨g, F, env, P, k, w, q⟩ => ⟨g, F, env, P, k, hw _ _ w, q⟩
end
end DL

/-! The data layer, part 5: stores, loops, comprehensions, a def by its body. -/
namespace DL
variable {Z : Zx}
open PySem PySem.Spec PyProof.Rows L2
open Evl (Ex)

section
variable {X : Cx} {st : Stmt} {sts : List Stmt} {w w2 : DS} {m : Nat} {a b e : Expr} {es : List Expr} {wa wb we : DE} {wx : DX} {pos : Pos} {was : DA}
/-! ### targets -/
abbrev DG := PyData → List SD → (List SD → Prop) → Prop
def liftG (K : PySem.W.Frag) (Z : Zx) (w : DG) : TG := fun v σ H Q => ∃ (g : Gx Z) (F : Hp) (env : List SD) (d : PyData) (P : List SD → Prop), Ok K g F env σ H ∧ DR K F v d ∧ w d env P ∧
  ∀ env' σ' F' H', P env' → Ex F F' → Ok K g F' env' σ' H' → Q σ' H'
abbrev DGs := List PyData → List SD → (List SD → Prop) → Prop
def liftGs (K : PySem.W.Frag) (Z : Zx) (w : DGs) : TGs := fun vs σ H Q => ∃ (g : Gx Z) (F : Hp) (env : List SD) (ds : List PyData) (P : List SD → Prop), Ok K g F env σ H ∧ DRs K F vs ds ∧ w ds env P ∧
  ∀ env' σ' F' H', P env' → Ex F F' → Ok K g F' env' σ' H' → Q σ' H'
theorem PG.of {t t' : TG} (h : PG X e t) (w : ∀ v σ H Q, t' v σ H Q → t v σ H Q) : PG X e t' := ⟨fun pins s σ H v u Q I r q => h.run pins s σ H v u Q I r (w v σ H Q q)⟩
theorem PGs.of {t t' : TGs} (h : PGs X es t) (w : ∀ v σ H Q, t' v σ H Q → t v σ H Q) : PGs X es t' := ⟨fun pins s σ H v u Q I r q => h.run pins s σ H v u Q I r (w v σ H Q q)⟩
def dgN (i : Nat) (d : PyData) (env : List SD) (P : List SD → Prop) : Prop := bIf (noPar env i) (P (env.set i (.dat d))) False
theorem gn (i : Nat) {x : Str} (hN : X.N.Nodup) (hi : X.N[i]? = some x := by rfl) (hx : Loc X.env.scope x := by first | exact Or.inl rfl | exact Or.inr rfl)
    (hf : X.fn x = true ∨ X.env.scope.names.lookup x = some .local := by first | exact .inl rfl | exact .inr rfl) : PG X (.Name x pos) (liftG X.K Z (dgN i)) := PG.of (pg_name hN hi hx hf) fun v σ H Q ⟨g, F, env, d, P, k, r, w, q⟩ =>
  q _ _ F H (bIf_and w).2 (Ex.refl F) (k.setD (noPar_of (bIf_and w).1) r)
def nilQ (ds : List PyData) (p : Prop) : Prop := match ds with
  | [] => p
  | _ :: _ => False
def consQ (ds : List PyData) (K : PyData → List PyData → Prop) : Prop := match ds with
  | d :: r => K d r
  | [] => False
def tupQ (d : PyData) (K : List PyData → Prop) : Prop := match d with
  | .tuple ds => K ds
  | _ => False
theorem nilQ_inv {ds : List PyData} {p : Prop} (h : nilQ ds p) : ds = [] ∧ p := by
  cases ds
  · exact ⟨rfl, h⟩
  · exact h.elim
theorem consQ_inv {ds : List PyData} {K : PyData → List PyData → Prop} (h : consQ ds K) : ∃ d r, ds = d :: r ∧ K d r := by
  cases ds
  · exact h.elim
  · exact ⟨_, _, rfl, h⟩
theorem tupQ_inv {d : PyData} {K : List PyData → Prop} (h : tupQ d K) : ∃ ds, d = .tuple ds ∧ K ds := by
  cases d <;> first | exact ⟨_, rfl, h⟩ | exact h.elim
def dgNil (ds : List PyData) (env : List SD) (P : List SD → Prop) : Prop := nilQ ds (P env)
def dgCons (t : DG) (u : DGs) (ds : List PyData) (env : List SD) (P : List SD → Prop) : Prop := consQ ds fun d r => t d env fun env1 => u r env1 P
theorem gnil : PGs X [] (liftGs X.K Z dgNil) := PGs.of pgs_nil fun v σ H Q ⟨g, F, env, ds, P, k, r, w, q⟩ => by
  obtain ⟨rfl, w⟩ := nilQ_inv w
  cases r
  exact ⟨rfl, q env σ F H w (Ex.refl F) k⟩
theorem gcons {t : DG} {u : DGs} (h1 : PG X e (liftG X.K Z t)) (h2 : PGs X es (liftGs X.K Z u)) (hs : (assignEach (e :: es) X.env).map (·.2) = assign e X.env :: (assignEach es X.env).map (·.2) := by rfl) : PGs X (e :: es) (liftGs X.K Z (dgCons t u)) :=
  PGs.of (pgs_cons h1 h2 hs) fun v σ H Q ⟨g, F, env, ds, P, k, r, w, q⟩ => by
    obtain ⟨d, r0, rfl, w⟩ := consQ_inv w
    cases r with
    | cons r1 r2 =>
        exact ⟨_, _, rfl, g, F, env, _, _, k, r1, w, fun env1 σ1 F1 H1 p e1 k1 => ⟨g, F1, env1, _, P, k1, r2.mono e1, p, fun env2 σ2 F2 H2 p2 e2 k2 => q env2 σ2 F2 H2 p2 (e1.trans e2) k2⟩⟩
def dgT (n : Nat) (t : DGs) (d : PyData) (env : List SD) (P : List SD → Prop) : Prop := tupQ d fun ds => t ds env P
/-- a target that takes a datum goes on -/
def GOk (t : DG) : Prop := ∀ d env P, t d env P → ∃ env1, P env1
def GLen (t : DGs) (n : Nat) : Prop := ∀ ds env P, t ds env P → ds.length = n ∧ ∃ env1, P env1
theorem gok_n {i : Nat} : GOk (dgN i) := fun d env P h => ⟨_, (bIf_and h).2⟩
theorem gl_nil : GLen dgNil 0 := fun ds env P h => by
  obtain ⟨rfl, h⟩ := nilQ_inv h
  exact ⟨rfl, env, h⟩
theorem gl_cons {t : DG} {u : DGs} {n : Nat} (h1 : GOk t) (h2 : GLen u n) : GLen (dgCons t u) (n + 1) := fun ds env P h => by
  obtain ⟨d, r, rfl, h⟩ := consQ_inv h
  obtain ⟨env1, h⟩ := h1 _ _ _ h
  obtain ⟨e, h⟩ := h2 _ _ _ h
  exact ⟨by simp [e], h⟩
theorem gok_t {n k : Nat} {t : DGs} (h : GLen t k) : GOk (dgT n t) := fun d env P w => by
  obtain ⟨ds, rfl, w⟩ := tupQ_inv w
  exact (h _ _ _ w).2
theorem gtup {k n : Nat} {t : DGs} (hl : GLen t n) (hc : X.calm = true) (h : PGs X es (liftGs X.K Z t)) (hn : (assignEach es X.env).length = n := by rfl) (hst : (assignEach es X.env).findIdx? (·.1) = none := by rfl) : PG X (.Tuple es k pos) (liftG X.K Z (dgT n t)) :=
  PG.of (pg_tup hc h hn hst) fun v σ H Q ⟨g, F, env, d, P, k, r, w, q⟩ => by
    obtain ⟨ds, rfl, w⟩ := tupQ_inv w
    obtain ⟨a, xs, rfl, h1, h2⟩ := r.inv_tup
    exact ⟨a, xs, rfl, Evl.ex_t k.fh h1, h2.length.trans (hl _ _ _ w).1, g, F, env, _, P, k, h2, w, q⟩
/-- target = e, of a datum -/
def dAsg (t : DG) (we : DE) (E : DEnds) (env : List SD) : Prop := we env fun d env1 => t d env1 E.nx
theorem sasg {tg : Expr} {t : DG} (he : PE X e (liftE X.K Z we)) (hg : PG X tg (liftG X.K Z t)) (hs : swapsWithSole [tg] e pos.line X.env = pure false := by rfl) (hw : swappedStores [tg] e X.env = pure none := by rfl)
    (h1 : (assignEach [tg] X.env).map (·.2) = [assign tg X.env] := by rfl) : PS X (.Assign [tg] e pos) (liftS X.K Z m (dAsg t we)) := PS.of (ps_asg he hg hs hw h1) fun D σ H ⟨g, F, env, P, k, w, q⟩ =>
  ⟨g, F, env, _, k, w, fun d env1 v F1 H1 p e1 k1 r1 => ⟨g, F1, env1, d, _, k1, r1, p, fun env2 σ2 F2 H2 p2 e2 k2 => q.nx env2 σ2 F2 H2 p2 (e1.trans e2) k2⟩⟩
/-- x, y = e, f -/
def dPar (i j : Nat) (was : DA) (E : DEnds) (env : List SD) : Prop := was env fun ds env1 => match ds with
  | [d, c] => bIf (noPar env1 i && noPar env1 j) (E.nx ((env1.set i (.dat d)).set j (.dat c))) False
  | _ => False
theorem noPar_set {env : List SD} {i j : Nat} {d : PyData} (h : noPar env j = true) : noPar (env.set i (.dat d)) j = true := by
  unfold noPar at h ⊢
  rw [List.getElem?_set]
  by_cases z : i = j
  · rw [if_pos z]
    by_cases y : i < env.length
    · rw [if_pos y]
      rfl
    · rw [if_neg y]
  · rw [if_neg z]
    exact h
theorem spar (i j : Nat) {x y : Str} {px py pt : Pos} {kt k2 pt2} (hc : X.calm = true) (hN : X.N.Nodup) (ha : PA X [a, b] (liftA X.K Z was)) (hi : X.N[i]? = some x := by rfl) (hj : X.N[j]? = some y := by rfl) (hij : i ≠ j := by decide)
    (hx : X.env.scope.names.lookup x = some .local := by rfl) (hy : X.env.scope.names.lookup y = some .local := by rfl)
    (hw : swappedStores [.Tuple [.Name x px, .Name y py] kt pt] (.Tuple [a, b] k2 pt2) X.env = pure (some [x, y]) := by rfl)
    (hs : swapsWithSole [.Tuple [.Name x px, .Name y py] kt pt] (.Tuple [a, b] k2 pt2) pos.line X.env = pure false := by rfl) :
    PS X (.Assign [.Tuple [.Name x px, .Name y py] kt pt] (.Tuple [a, b] k2 pt2) pos) (liftS X.K Z m (dPar i j was)) := PS.of (ps_par hc hN hi hj hij hx hy ha hw hs) fun D σ H ⟨g, F, env, P, k, w, q⟩ =>
  ⟨g, F, env, _, k, w, fun ds env1 vs F1 H1 p e1 k1 r1 => by
    split at p
    · obtain ⟨v, u, rfl, r2, r3⟩ := r1.inv2
      obtain ⟨np, p⟩ := bIf_and p
      rw [Bool.and_eq_true] at np
      exact ⟨v, u, rfl, q.nx _ _ F1 H1 p e1 ((k1.setD (noPar_of np.1) r2).setD (noPar_of (noPar_set np.2)) r3)⟩
    · exact p.elim⟩
/-- x[i] = e, x the name's own cell -/
def stQ (xs : List PyData) (y d : PyData) (K : List PyData → Prop) : Prop := match y with
  | .int n => (match ixN xs.length n with
    | some j => K (xs.set j d)
    | none => False)
  | _ => False
def dSetC (i : Nat) (wi we : DE) (E : DEnds) (env : List SD) : Prop := we env fun d env1 => match env1[i]? with
  | some (.cel _ _) => wi env1 fun y env2 => match env2[i]? with
    | some (.cel p xs) => stQ xs y d fun xs' => E.nx (env2.set i (.cel p xs'))
    | _ => False
  | _ => False
theorem ssetC (i : Nat) {x : Str} {p0 p1 : Pos} (he : PE X e (liftE X.K Z we)) (hi : PE X b (liftE X.K Z wb)) (hN : X.N[i]? = some x := by rfl) (hv : Vis X.env.scope x := by first | exact Or.inl rfl | exact Or.inr (Or.inl rfl) | exact Or.inr (Or.inr rfl)) (hd : (x == ("__debug__" : Str)) = false := by decide)
    (hcd : (x == ("__classdict__" : Str)) = false := by decide)
    (hs : swapsWithSole [.Subscript (.Name x p0) b p1] e pos.line X.env = pure false := by rfl) (hw : swappedStores [.Subscript (.Name x p0) b p1] e X.env = pure none := by rfl)
    (h1 : (assignEach [.Subscript (.Name x p0) b p1] X.env).map (·.2) = [assign (.Subscript (.Name x p0) b p1) X.env] := by rfl)
    (ha : ∀ v, assign (.Subscript (.Name x p0) b p1) X.env v = (do
      let ov ← holding [v] (eval (.Name x p0) X.env)
      let iv ← holding [v, ov] (eval b X.env)
      standAt p1
      holding [v, ov, iv] (setItem ov iv v)
      release [v, ov, iv] []) := by intro _; rfl) : PS X (.Assign [.Subscript (.Name x p0) b p1] e pos) (liftS X.K Z m (dSetC i wb we)) :=
  PS.of (ps_asg he (pg_sub (pe_var hN hv hd hcd) hi set_list ha) hs hw h1) fun D σ H ⟨g, F, env, P, k, w, q⟩ =>
  ⟨g, F, env, _, k, w, fun d env1 v F1 H1 p e1 k1 r1 => by
    split at p
    · rename_i p' xs' ex
      obtain ⟨a0, us0, b1, _⟩ := k1.cel i p' xs' ex
      refine ⟨_, b1, g, F1, env1, _, k1, p, fun d2 env2 v2 F2 H2 p2 e2 k2 r2 => ?_⟩
      split at p2
      · rename_i p3 xs ex2
        obtain ⟨n, rfl, p2⟩ : ∃ n, d2 = .int n ∧ stQ xs (.int n) d _ := by
          cases d2 <;> first | exact ⟨_, rfl, p2⟩ | exact p2.elim
        cases r2.inv_int
        unfold stQ at p2
        dsimp only at p2
        split at p2
        · rename_i j ej
          obtain ⟨a1, us1, c1, c2, c3, c4, _⟩ := k2.cel i p3 xs ex2
          rw [b1] at c1
          cases c1
          exact ⟨a0, us1, n, j, rfl, rfl, c3, by rw [c4.length]; exact ej, q.nx _ σ F2 _ p2 (e1.trans e2) (k2.write ex2 b1 (c4.set j (r1.mono e2)))⟩
        · exact p2.elim
      · exact p2.elim
    · exact p.elim⟩
/-- x.append(e) -/
def apQ (xs : List PyData) (d : PyData) (K : List PyData → Prop) : Prop := xs.length < 100000 ∧ K (xs ++ [d])
def dApp (i : Nat) (we : DE) (E : DEnds) (env : List SD) : Prop := match env[i]? with
  | some (.cel _ _) => we env fun d env1 => match env1[i]? with
    | some (.cel p xs) => apQ xs d fun xs' => E.nx (env1.set i (.cel p xs'))
    | _ => False
  | _ => False
theorem sapp (i : Nat) {x : Str} {p0 apos cpos : Pos} (he : PE X e (liftE X.K Z we)) (hN : X.N[i]? = some x := by rfl) (hv : Vis X.env.scope x := by first | exact Or.inl rfl | exact Or.inr (Or.inl rfl) | exact Or.inr (Or.inr rfl)) (hd : (x == ("__debug__" : Str)) = false := by decide)
    (hcd : (x == ("__classdict__" : Str)) = false := by decide)
    (h1 : attributeBase (.Name x p0) "append" X.env (eval (.Name x p0) X.env) = eval (.Name x p0) X.env := by rfl)
    (h2 : ((backTo cpos (starEach [e] X.env)).all (!·.1) && (backToKw cpos (keywordEach [] X.env)).all (·.1.isSome) && decide ([e].length + ([] : List Keyword).length + (if ([] : List Keyword).isEmpty then 0 else 1) < 30)) = true := by rfl)
    (h3 : (apos.endLine == cpos.line) = true := by rfl)
    (h4 : starEach [e] X.env = (false, eval e X.env) :: starEach [] X.env := by rfl) (h5 : (backTo cpos (starEach [] X.env)).any (·.1) = false := by rfl)
    (hs : swapsWith (.Call (.Attribute (.Name x p0) "append" apos) [e] [] cpos) none pos.line X.env = pure false := by rfl) :
    PS X (.Expr (.Call (.Attribute (.Name x p0) "append" apos) [e] [] cpos) pos) (liftS X.K Z m (dApp i we)) :=
  PS.of (ps_expr (pe_bm PySem.F.plainAttrs_list PySem.F.slot_list_append PySem.F.type_list_append mt_append (pe_var hN hv hd hcd) (pa_cons he pa_nil h4) h1 h2 h3 h4 h5) hs) fun D σ H ⟨g, F, env, P, k, w, q⟩ => by
    unfold dApp at w
    split at w
    · rename_i p' xs' ex
      obtain ⟨a0, us0, b1, _, b3, _⟩ := k.cel i p' xs' ex
      refine ⟨_, b1, .inl ⟨rfl, us0, SqL.of b3⟩, g, F, env, _, k, w, fun d env1 v F1 H1 p e1 k1 r1 => ?_⟩
      split at p
      · rename_i p3 xs ex2
        obtain ⟨a1, us1, c1, c2, c3, c4, _⟩ := k1.cel i p3 xs ex2
        rw [b1] at c1
        cases c1
        exact ⟨a0, us1, v, rfl, rfl, c3, by rw [c4.length]; exact Evl.sz_lt p.1, q.nx _ σ F1 _ p.2 e1 (k1.write ex2 b1 (c4.append (.one r1)))⟩
      · exact p.elim
    · exact w.elim
/-- x op= e, numbers -/
def dAug (i : Nat) (f : Int → Int → Int) (we : DE) (E : DEnds) (env : List SD) : Prop := match env[i]? with
  | some (.dat x) => we env fun d env1 => oI (fun n m => .int (f n m)) x d fun z => bIf (noPar env1 i) (E.nx (env1.set i (.dat z))) False
  | _ => False
theorem saug (i : Nat) {x : Str} {pos' : Pos} {op : Operator} {f : Int → Int → Int} (ho : PIp X op (ipI f)) (hN : X.N.Nodup) (he : PE X e (liftE X.K Z we)) (hi : X.N[i]? = some x := by rfl) (hx : Loc X.env.scope x := by first | exact Or.inl rfl | exact Or.inr rfl)
    (hf : X.fn x = true ∨ X.env.scope.names.lookup x = some .local := by first | exact .inl rfl | exact .inr rfl) : PS X (.AugAssign (.Name x pos') op e pos) (liftS X.K Z m (dAug i f we)) :=
  PS.of (ps_aug hN hi hx he ho hf) fun D σ H ⟨g, F, env, P, k, w, q⟩ => by
    unfold dAug at w
    split at w
    · rename_i n ex
      obtain ⟨v0, b1, b2⟩ := k.dat i _ ex
      refine ⟨_, b1, g, F, env, _, k, w, fun d env1 v F1 H1 p e1 k1 r1 => ?_⟩
      unfold oI at p
      split at p
      · cases b2.inv_int
        cases r1.inv_int
        exact ⟨_, _, rfl, rfl, q.nx _ _ F1 H1 (bIf_and p).2 e1 (k1.setD (noPar_of (bIf_and p).1) (.int _))⟩
      · exact p.elim
    · exact w.elim

/-! ### while -/
abbrev RT := SD → List SD → Prop
def decP {I S : Type} (is : List Nat) (dec : List SD → Option (I × S)) (N : I → S → Prop) (env : List SD) : Prop := match dec (unS is env) with
  | some (i, s) => N i s
  | none => False
theorem decP_inv {I S : Type} {is : List Nat} {dec : List SD → Option (I × S)} {N : I → S → Prop} {env : List SD} (h : decP is dec N env) : ∃ i s, dec (unS is env) = some (i, s) ∧ N i s := by
  unfold decP at h
  split at h
  · exact ⟨_, _, ‹_›, h⟩
  · exact h.elim
/-- the state behind: what a loop doesn't change stays -/
def same {I S : Type} (i : I) (N : S → Prop) (i' : I) (s : S) : Prop := i' = i ∧ N s
def qWhileN {I S : Type} (b : I → S → (I → S → Prop) → (I → S → Prop) → Prop) (i : I) : Nat → S → (S → Prop) → Prop
  | 0, _, _ => False
  | n + 1, s, K => b i s (same i fun s => qWhileN b i n s K) (same i K)
def qWhile {I S : Type} (b : I → S → (I → S → Prop) → (I → S → Prop) → Prop) (i : I) (s : S) (K : S → Prop) : Prop := ∃ n, qWhileN b i n s K
def dWhileQ {κ I S : Type} (is : List Nat) (dec : List SD → Option (I × S)) (emb : I → S → List SD) (kk : RT → κ) (qb : κ → I → S → (I → S → Prop) → (I → S → Prop) → Prop) (E : DEnds) (env : List SD) : Prop :=
  decP is dec (fun i s => qWhile (qb (kk E.rt)) i s fun s => E.nx (emb i s)) env
theorem swhileQ {κ I S : Type} (is : List Nat) (dec : List SD → Option (I × S)) (emb : I → S → List SD) (kk : RT → κ) (qb : κ → I → S → (I → S → Prop) → (I → S → Prop) → Prop)
    (hde : ∀ env i s, dec env = some (i, s) → env = emb i s) {c : Expr} {body : List Stmt} {t : DT} (hp : PassesOwn (model X.prog X.w) X.A X.env X.xe) (hc : PT X c (liftT X.K Z t)) (hb : PSs X body (liftS X.K Z m w))
    (hq : ∀ (R : RT) (i : I) (s : S) (nx bk : I → S → Prop), qb (kk R) i s nx bk → t (emb i s) fun b env1 => bIf b (w { nx := decP is dec nx, ct := decP is dec nx, bk := decP is dec bk, rt := R } env1) (decP is dec bk env1)) :
    PS X (.While c body [] pos) (liftS X.K Z m (dWhileQ is dec emb kk qb)) :=
  PS.of (ps_while hp hc hb) fun D σ H ⟨g, F, env, P, k, w0, q⟩ => by
    obtain ⟨i0, s0, d0, n, w0⟩ := decP_inv w0
    have fin : ∀ {env' : List SD} {σ' : L2.St} {F' H' : Hp}, decP is dec (same i0 fun s => P.nx (emb i0 s)) env' → Ex F F' → Ok X.K g F' env' σ' H' → D.nx σ' H' := fun {env' σ' F' H'} p e k => by
      obtain ⟨i, s, d, rfl, p⟩ := decP_inv p
      have k2 := k.unS (is := is)
      rw [hde _ _ _ d] at k2
      exact q.nx _ _ _ _ p e k2
    refine ⟨fun m σ' H' => ∃ env' F', Ex F F' ∧ Ok X.K g F' env' σ' H' ∧ decP is dec (same i0 fun s => qWhileN (qb (kk P.rt)) i0 m s fun s => P.nx (emb i0 s)) env', ⟨n, env, F, Ex.refl F, k, by unfold decP; rw [d0]; exact ⟨rfl, w0⟩⟩, fun m σ' H' ⟨env', F', e1, k1, w1⟩ => ?_⟩
    obtain ⟨i, s, d, rfl, w1⟩ := decP_inv w1
    have k2 := k1.unS (is := is)
    rw [hde _ _ _ d] at k2
    cases m with
    | zero => exact w1.elim
    | succ m =>
      refine ⟨g, F', _, _, k2, hq P.rt i s _ _ w1, fun b env2 F2 H2 p2 e2 k2 => ?_⟩
      cases b with
      | false => exact iteF (fin p2 (e1.trans e2) k2)
      | true =>
        refine iteT ⟨fun σ3 H3 => ∃ env' F', Ex F F' ∧ Ok X.K g F' env' σ3 H3 ∧ decP is dec (same i fun s => qWhileN (qb (kk P.rt)) i m s fun s => P.nx (emb i s)) env', fun σ3 H3 h3 => ⟨m, Nat.lt_succ_self m, h3⟩, g, F2, env2, _, k2, p2, ?_⟩
        have e12 := e1.trans e2
        exact .mk4 (.mk (fun env3 σ3 F3 H3 p3 e3 k3 => ⟨env3, F3, e12.trans e3, k3, p3⟩) (fun env3 σ3 F3 H3 p3 e3 k3 => fin p3 (e12.trans e3) k3) (fun env3 σ3 F3 H3 p3 e3 k3 => ⟨env3, F3, e12.trans e3, k3, p3⟩) (fun r env3 v σ3 F3 H3 p3 e3 k3 r3 => q.rt r env3 v σ3 F3 H3 p3 (e12.trans e3) k3 r3)) rfl

/-! ### what is walked -/
abbrev DI := List SD → (List PyData → List SD → Prop) → Prop
def Yld (K : PySem.W.Frag) (F H : Hp) (x : V) (H' : Hp) (d : PyData) : Prop := (H' = H ∧ DR K F x d) ∨ ∃ T xs ds, x = .ref T ∧ H T = none ∧ H' = upd H T (.tup xs) ∧ d = .tuple ds ∧ DRs K F xs ds
structure WalkD (K : PySem.W.Frag) (F : Hp) (J : It) (items : List PyData) : Prop where
  ex : ∃ G Y, Walk J items.length G Y ∧ (∀ H, Ex F H → G H) ∧ ∀ i H x H' d, Ex F H → items[i]? = some d → Y i H x H' → Yld K F H x H' d
def liftI (K : PySem.W.Frag) (Z : Zx) (w : DI) : TI := fun σ H R => ∃ (g : Gx Z) (F : Hp) (env : List SD) (P : List PyData → List SD → Prop), Ok K g F env σ H ∧ w env P ∧
  ∀ items env' J F' H', P items env' → Ex F F' → Ok K g F' env' σ H' → WalkD K F' J items → R J H'
theorem PI.of {tg e : Expr} {t t' : TI} (h : PI X tg e t) (w : ∀ σ H R, t' σ H R → t σ H R) : PI X tg e t' := ⟨fun pins s σ H R I q => h.run pins s σ H R I (w σ H R q)⟩
theorem Ok.yld {K : PySem.W.Frag} {g : Gx Z} {F F0 : Hp} {env : List SD} {σ : L2.St} {H H' : Hp} {x : V} {d : PyData} (k : Ok K g F env σ H) (e : Ex F0 F) (y : Yld K F0 H x H' d) : ∃ F', Ex F F' ∧ Ok K g F' env σ H' ∧ DR K F' x d := by
  rcases y with ⟨rfl, r⟩ | ⟨T, xs, ds, rfl, hT, rfl, rfl, r⟩
  · exact ⟨F, Ex.refl F, k, r.mono e⟩
  · obtain ⟨e2, k2, r2⟩ := k.newTup hT (r.mono e)
    exact ⟨_, e2, k2, r2⟩
/-- lo, lo + 1, .. -/
def rangeD (lo : Int) (n : Nat) : List PyData := (List.range n).map fun (i : Nat) => .int (lo + i)
theorem walkD_range {K : PySem.W.Frag} {F : Hp} (lo : Int) (n : Nat) : WalkD K F (Itr lo n) (rangeD lo n) := by
  refine ⟨fun _ => True, YFn fun i => .int (lo + i), by rw [show (rangeD lo n).length = n by simp [rangeD]]; exact walk_range, fun _ _ => trivial, fun i H x H' d _ e y => .inl ⟨y.1, ?_⟩⟩
  have y2 := y.2
  subst y2
  unfold rangeD at e
  rw [List.getElem?_map] at e
  by_cases hi : i < n
  · rw [List.getElem?_range hi] at e
    cases e
    exact .int _
  · rw [List.getElem?_eq_none (by simp; omega)] at e
    cases e
abbrev QI := List PyData → (List PyData → Prop) → Prop
/-- what is walked, by arguments -/
def dIt (f : QI) (was : DA) (env : List SD) (P : List PyData → List SD → Prop) : Prop := was env fun ds env' => f ds fun items => P items env'
/-- K of l, sealed: the kernel doesn't look at what is walked -/
inductive At (l : List PyData) (K : List PyData → Prop) : Prop
  | mk : K l → At l K
theorem At.out {l : List PyData} {K : List PyData → Prop} (h : At l K) : K l := by
  cases h with
  | mk h => exact h
theorem At.eq {l : List PyData} {K : List PyData → Prop} : At l K = K l := propext ⟨At.out, At.mk⟩
def rng1 (ds : List PyData) (K : List PyData → Prop) : Prop := match ds with
  | [.int n] => (-1000000 ≤ n ∧ n ≤ 1000000) ∧ At (rangeD 0 n.toNat) K
  | _ => False
def rng2 (ds : List PyData) (K : List PyData → Prop) : Prop := match ds with
  | [.int m, .int n] => (-1000000 ≤ m ∧ m ≤ 1000000 ∧ -1000000 ≤ n ∧ n ≤ 1000000) ∧ At (rangeD m (n - m).toNat) K
  | _ => False
theorem irange1 {tg : Expr} {p : Pos} (hm : X.mg "range" = none) (ha : PA X [a] (liftA X.K Z was)) (hg : Gl X "range" := by rfl) (hs : starEach [a] X.env = [(false, eval a X.env)] := by rfl) : PI X tg (.Call (.Name "range" p) [a] [] pos) (liftI X.K Z (dIt rng1 was)) :=
  PI.of (pi_range1 hg hm ha hs) fun σ H R ⟨g, F, env, P, k, w, q⟩ => ⟨g, F, env, _, k, w, fun ds env1 vs F1 H1 p e1 k1 r1 => by
    unfold rng1 at p
    split at p
    · obtain ⟨v, rfl, r2⟩ := r1.inv1
      cases r2.inv_int
      have p1 := p.1
      exact ⟨_, rfl, by omega, by omega, q _ env1 _ F1 H1 p.2.out e1 k1 (walkD_range 0 _)⟩
    · exact p.elim⟩
theorem irange2 {tg : Expr} {p : Pos} (hm : X.mg "range" = none) (ha : PA X [a, b] (liftA X.K Z was)) (hg : Gl X "range" := by rfl) (hs : starEach [a, b] X.env = [(false, eval a X.env), (false, eval b X.env)] := by rfl) (hs2 : starEach [b] X.env = [(false, eval b X.env)] := by rfl) :
    PI X tg (.Call (.Name "range" p) [a, b] [] pos) (liftI X.K Z (dIt rng2 was)) :=
  PI.of (pi_range2 hg hm ha hs hs2) fun σ H R ⟨g, F, env, P, k, w, q⟩ => ⟨g, F, env, _, k, w, fun ds env1 vs F1 H1 p e1 k1 r1 => by
    unfold rng2 at p
    split at p
    · obtain ⟨v, u, rfl, r2, r3⟩ := r1.inv2
      cases r2.inv_int
      cases r3.inv_int
      have p1 := p.1
      exact ⟨_, _, rfl, ⟨by omega, by omega, by omega, by omega⟩, q _ env1 _ F1 H1 p.2.out e1 k1 (walkD_range _ _)⟩
    · exact p.elim⟩
theorem walkD_list {K : PySem.W.Frag} {F : Hp} {a : Addr} {xs : List V} {ds : List PyData} (h : RdL K F a xs) (r : DRs K F xs ds) : WalkD K F (Itl K a) ds :=
  ⟨fun H => SqL K H a xs, YAt xs, by rw [← r.length]; exact walk_list (xs := xs), fun H e => (h.mono e).sq, fun i H x H' d _ e y => .inl ⟨y.1, by
    obtain ⟨v, h1, h2⟩ := r.get e
    have y2 := y.2
    rw [h1] at y2
    cases y2
    exact h2⟩⟩
theorem walkD_tup {K : PySem.W.Frag} {F : Hp} {a : Addr} {xs : List V} {ds : List PyData} (h : SqT K F a xs) (r : DRs K F xs ds) : WalkD K F (Itt K a) ds :=
  ⟨fun H => SqT K H a xs, YAt xs, by rw [← r.length]; exact walk_tup (xs := xs), fun H e => Evl.ex_t e h, fun i H x H' d _ e y => .inl ⟨y.1, by
    obtain ⟨v, h1, h2⟩ := r.get e
    have y2 := y.2
    rw [h1] at y2
    cases y2
    exact h2⟩⟩
/-- over a list or a tuple -/
def iSeq (K : PySem.W.Frag) (tl : TE) : TI := fun σ H R => tl σ H fun x H1 => ∃ a, x = .ref a ∧ ((∃ xs, SqL K H1 a xs ∧ R (Itl K a) H1) ∨ ∃ xs, SqT K H1 a xs ∧ R (Itt K a) H1)
theorem pi_seq {tg l : Expr} {tl : TE} (hl : PE X l tl) : PI X tg l (iSeq X.K tl) := by
  refine ⟨fun pins s σ H R I h => thn (hl.run pins s σ H _ I h) fun v s1 ⟨x, H1, I1, r1, a, ea, q1⟩ => ?_⟩
  subst ea
  cases r1
  have fo : ∀ b ∈ [s1.heap.objs.size], FpOk X pins H1 b := fun b hb => by
    rw [List.mem_singleton.mp hb]
    exact I1.fpOk (Nat.le_refl _) (I1.hok.fresh (Nat.le_refl _))
  rcases q1 with ⟨xs, hq, q⟩ | ⟨xs, hq, q⟩
  · obtain ⟨its, rv, pl, hz⟩ := I1.list hq
    exact wpAny_pyIter_list pl.isList ⟨s1.heap.objs.size, [s1.heap.objs.size], _, _, H1, rfl, I1.kept (t' := s1.toks) (fun b o e => Heap.get?_push_of_some _ e), turn_list a _, ⟨_, Heap.get?_push_size _ rfl, rfl, rfl⟩, fo, q⟩
  · obtain ⟨its, rv, pl, hz⟩ := I1.tuple hq
    exact wpAny_pyIter_tuple (show s1.heap.IsTuple a its.toArray from pl) ⟨s1.heap.objs.size, [s1.heap.objs.size], _, _, H1, rfl, I1.kept (t' := s1.toks) (fun b o e => Heap.get?_push_of_some _ e), turn_tuple a _, ⟨_, Heap.get?_push_size _ rfl, rfl, rfl⟩, fo, q⟩
def itemsQ (d : PyData) (K : List PyData → Prop) : Prop := match d with
  | .list ds => At ds K
  | .tuple ds => At ds K
  | _ => False
def dItF (f : PyData → (List PyData → Prop) → Prop) (we : DE) (env : List SD) (P : List PyData → List SD → Prop) : Prop := we env fun d env' => f d fun ds => P ds env'
theorem iseq {tg : Expr} (he : PE X e (liftE X.K Z we)) : PI X tg e (liftI X.K Z (dItF itemsQ we)) := PI.of (pi_seq he) fun σ H R ⟨g, F, env, P, k, w, q⟩ => ⟨g, F, env, _, k, w, fun d env1 v F1 H1 p e1 k1 r1 => by
  unfold itemsQ at p
  split at p
  · obtain ⟨a, xs, rfl, h1, h2⟩ := r1.inv_lst
    exact ⟨a, rfl, .inl ⟨xs, (h1.mono k1.fh).sq, q _ env1 _ F1 H1 p.out e1 k1 (walkD_list h1 h2)⟩⟩
  · obtain ⟨a, xs, rfl, h1, h2⟩ := r1.inv_tup
    exact ⟨a, rfl, .inr ⟨xs, Evl.ex_t k1.fh h1, q _ env1 _ F1 H1 p.out e1 k1 (walkD_tup h1 h2)⟩⟩
  · exact p.elim⟩
/-- zip of two lists, of two tuples -/
def zipD : List PyData → List PyData → List PyData
  | x :: xs, y :: ys => .tuple [x, y] :: zipD xs ys
  | _, _ => []
theorem zipD_length : ∀ xs ys : List PyData, (zipD xs ys).length = min xs.length ys.length
  | [], _ => by simp [zipD]
  | _ :: _, [] => by simp [zipD]
  | x :: xs, y :: ys => by simp [zipD, zipD_length xs ys]
theorem zipD_get : ∀ {xs ys : List PyData} {i : Nat} {d : PyData}, (zipD xs ys)[i]? = some d → ∃ x y, xs[i]? = some x ∧ ys[i]? = some y ∧ d = .tuple [x, y]
  | [], _, _, _, h => by simp [zipD] at h
  | _ :: _, [], _, _, h => by simp [zipD] at h
  | x :: xs, y :: ys, 0, d, h => by simp [zipD] at h; exact ⟨x, y, rfl, rfl, h.symm⟩
  | x :: xs, y :: ys, i + 1, d, h => by
    obtain ⟨u, v, h1, h2, h3⟩ := zipD_get (xs := xs) (ys := ys) (i := i) (d := d) (by simpa [zipD] using h)
    exact ⟨u, v, by simpa using h1, by simpa using h2, h3⟩
theorem walk_zipT {K : PySem.W.Frag} {a b : Addr} {xs ys : List V} : Walk (RZ.ItzT K a b) (min xs.length ys.length) (fun H => SqT K H a xs ∧ SqT K H b ys) (YPair (fun i => xs[i]?) (fun i => ys[i]?)) :=
  ⟨fun i H hi q => ⟨xs, ys, xs[i]'(by omega), ys[i]'(by omega), q.1, q.2, by simp [show i < xs.length by omega], by simp [show i < ys.length by omega]⟩,
   fun H q => ⟨xs, ys, q.1, q.2, by omega⟩,
   fun i H x H' hi q y => by
    obtain ⟨T, u, v, h1, h2, h3, h4, h5⟩ := y
    exact ⟨T, u, v, h1, h2, h3, h4 xs q.1, h5 ys q.2⟩⟩
def zipQ (ds : List PyData) (K : List PyData → Prop) : Prop := match ds with
  | [.list xs, .list ys] => At (zipD xs ys) K
  | [.tuple xs, .tuple ys] => At (zipD xs ys) K
  | _ => False
theorem yld_pair {K : PySem.W.Frag} {F H H' : Hp} {us ws : List V} {xs ys : List PyData} {x : V} {i : Nat} {d : PyData} (r : DRs K F us xs) (r2 : DRs K F ws ys) (e : (zipD xs ys)[i]? = some d) (y : YPair (fun i => us[i]?) (fun i => ws[i]?) i H x H') : Yld K F H x H' d := by
  obtain ⟨T, u, v, h1, h2, h3, h4, h5⟩ := y
  obtain ⟨dx, dy, e1, e2, rfl⟩ := zipD_get e
  obtain ⟨u', z1, z2⟩ := r.get e1
  obtain ⟨v', y1, y2⟩ := r2.get e2
  dsimp only at h4 h5
  rw [z1] at h4
  rw [y1] at h5
  cases h4
  cases h5
  exact .inr ⟨T, _, _, h1, h2, h3, rfl, .cons z2 (.one y2)⟩
theorem walkD_zipL {K : PySem.W.Frag} {F : Hp} {a b : Addr} {us ws : List V} {xs ys : List PyData} (h1 : RdL K F a us) (h3 : RdL K F b ws) (h2 : DRs K F us xs) (h4 : DRs K F ws ys) : WalkD K F (Itz K a b) (zipD xs ys) :=
  ⟨fun H => SqL K H a us ∧ SqL K H b ws, YPair (fun i => us[i]?) (fun i => ws[i]?), walk_zip (by rw [zipD_length, h2.length, h4.length]), fun H e => ⟨(h1.mono e).sq, (h3.mono e).sq⟩, fun i H x H' d _ e y => yld_pair h2 h4 e y⟩
theorem walkD_zipT {K : PySem.W.Frag} {F : Hp} {a b : Addr} {us ws : List V} {xs ys : List PyData} (h1 : SqT K F a us) (h3 : SqT K F b ws) (h2 : DRs K F us xs) (h4 : DRs K F ws ys) : WalkD K F (RZ.ItzT K a b) (zipD xs ys) :=
  ⟨fun H => SqT K H a us ∧ SqT K H b ws, YPair (fun i => us[i]?) (fun i => ws[i]?), by rw [zipD_length, ← h2.length, ← h4.length]; exact walk_zipT, fun H e => ⟨Evl.ex_t e h1, Evl.ex_t e h3⟩, fun i H x H' d _ e y => yld_pair h2 h4 e y⟩
theorem izip {elts : List Expr} {kk : Nat} {tpos p : Pos} (hm : X.mg "zip" = none) (ha : PA X [a, b] (liftA X.K Z was)) (hg : Gl X "zip" := by rfl) (hs : starEach [a, b] X.env = (false, eval a X.env) :: starEach [b] X.env := by rfl)
    (hpl : (backTo pos (starEach [b] X.env)).any (·.1) = false := by rfl) : PI X (.Tuple elts kk tpos) (.Call (.Name "zip" p) [a, b] [] pos) (liftI X.K Z (dIt zipQ was)) :=
  PI.of (RZ.pi_zipA hg hm ha hs hpl) fun σ H R ⟨g, F, env, P, k, w, q⟩ => ⟨g, F, env, _, k, w, fun ds env1 vs F1 H1 p e1 k1 r1 => by
    unfold zipQ at p
    split at p
    · obtain ⟨v, u, rfl, r2, r3⟩ := r1.inv2
      obtain ⟨a, us, rfl, h1, h2⟩ := r2.inv_lst
      obtain ⟨b, ws, rfl, h3, h4⟩ := r3.inv_lst
      exact ⟨a, b, us, ws, rfl, .inl ⟨(h1.mono k1.fh).sq, (h3.mono k1.fh).sq, q _ env1 _ F1 H1 p.out e1 k1 (walkD_zipL h1 h3 h2 h4)⟩⟩
    · obtain ⟨v, u, rfl, r2, r3⟩ := r1.inv2
      obtain ⟨a, us, rfl, h1, h2⟩ := r2.inv_tup
      obtain ⟨b, ws, rfl, h3, h4⟩ := r3.inv_tup
      exact ⟨a, b, us, ws, rfl, .inr ⟨Evl.ex_t k1.fh h1, Evl.ex_t k1.fh h3, q _ env1 _ F1 H1 p.out e1 k1 (walkD_zipT h1 h3 h2 h4)⟩⟩
    · exact p.elim⟩

/-! ### for -/
def qFor {I S : Type} (b : PyData → I → S → (I → S → Prop) → (I → S → Prop) → Prop) (i : I) : List PyData → S → (S → Prop) → Prop
  | [], s, K => K s
  | d :: r, s, K => b d i s (same i fun s => qFor b i r s K) (same i K)
def dForQ {κ I S : Type} (is : List Nat) (dec : List SD → Option (I × S)) (emb : I → S → List SD) (kk : RT → κ) (qb : κ → PyData → I → S → (I → S → Prop) → (I → S → Prop) → Prop) (wi : DI) (E : DEnds) (env : List SD) : Prop :=
  wi env fun items env1 => decP is dec (fun i s => qFor (qb (kk E.rt)) i items s fun s => E.nx (emb i s)) env1
theorem sforQ {κ I S : Type} (is : List Nat) (dec : List SD → Option (I × S)) (emb : I → S → List SD) (kk : RT → κ) (qb : κ → PyData → I → S → (I → S → Prop) → (I → S → Prop) → Prop)
    (hde : ∀ env i s, dec env = some (i, s) → env = emb i s) {tg iter : Expr} {body : List Stmt} {wi : DI} {t : DG} (hp : PassesOwn (model X.prog X.w) X.A X.env X.xe) (hc : X.calm = true) (hi : PI X tg iter (liftI X.K Z wi)) (hg : PG X tg (liftG X.K Z t)) (hb : PSs X body (liftS X.K Z m w))
    (hq : ∀ (R : RT) (d : PyData) (i : I) (s : S) (nx bk : I → S → Prop), qb (kk R) d i s nx bk → t d (emb i s) fun env1 => w { nx := decP is dec nx, ct := decP is dec nx, bk := decP is dec bk, rt := R } env1)
    (hs : ∀ x, foldedSetIterable iter X.env x = pure x := by intro _; rfl) : PS X (.For tg iter body [] pos) (liftS X.K Z m (dForQ is dec emb kk qb wi)) :=
  PS.of (ps_for hp hc hi hg hb hs) fun D σ H ⟨g, F, env, P, k, w0, q⟩ => ⟨g, F, env, _, k, w0, fun items env1 J F1 H1 p e1 k1 ⟨G, Y, wk, hG, hY⟩ => by
    have q := q.ex e1
    obtain ⟨i0, s0, d0, p⟩ := decP_inv p
    have fin : ∀ {env' : List SD} {σ' : L2.St} {F' H' : Hp}, decP is dec (same i0 fun s => P.nx (emb i0 s)) env' → Ex F1 F' → Ok X.K g F' env' σ' H' → D.nx σ' H' := fun {env' σ' F' H'} p e k => by
      obtain ⟨i, s, d, rfl, p⟩ := decP_inv p
      have k2 := k.unS (is := is)
      rw [hde _ _ _ d] at k2
      exact q.nx _ _ _ _ p e k2
    refine for_it wk (fun j σ' H' => ∃ env' F', Ex F1 F' ∧ Ok X.K g F' env' σ' H' ∧ decP is dec (same i0 fun s => qFor (qb (kk P.rt)) i0 (items.drop j) s fun s => P.nx (emb i0 s)) env') ⟨env1, F1, Ex.refl F1, k1, by unfold decP; rw [d0]; exact ⟨rfl, p⟩⟩ (fun i σ' H' _ ⟨env', F', e2, k2, _⟩ => hG H' (e2.trans k2.fh)) (fun j x σ' H' H2 hj ⟨env', F', e2, k2, w2⟩ y => ?_) fun σ' H' ⟨env', F', e2, k2, w2⟩ => ?_
    · obtain ⟨i, s, de, rfl, w3⟩ := decP_inv w2
      have k2 := k2.unS (is := is)
      rw [hde _ _ _ de] at k2
      have hd : items.drop j = items[j] :: items.drop (j + 1) := List.drop_eq_getElem_cons hj
      rw [hd] at w3
      obtain ⟨F3, e3, k3, r3⟩ := k2.yld e2 (hY j H' x H2 items[j] (e2.trans k2.fh) (by simp [hj]) y)
      have e13 := e2.trans e3
      refine ⟨g, F3, _, _, _, k3, r3, hq P.rt _ i s _ _ w3, fun env4 σ4 F4 H4 p4 e4 k4 => ⟨g, F4, env4, _, k4, p4, ?_⟩⟩
      have e14 := e13.trans e4
      exact .mk4 (.mk (fun env5 σ5 F5 H5 p5 e5 k5 => ⟨env5, F5, e14.trans e5, k5, p5⟩) (fun env5 σ5 F5 H5 p5 e5 k5 => fin p5 (e14.trans e5) k5) (fun env5 σ5 F5 H5 p5 e5 k5 => ⟨env5, F5, e14.trans e5, k5, p5⟩) (fun r env5 v σ5 F5 H5 p5 e5 k5 r5 => q.rt r env5 v σ5 F5 H5 p5 (e14.trans e5) k5 r5)) rfl
    · rw [List.drop_length] at w2
      exact fin w2 e2 k2⟩
end
end DL

/-! The data layer, part 6: comprehensions; a def by its body; the end. -/
namespace DL
variable {Z : Zx}
open PySem PySem.Spec PyProof.Rows L2
open Evl (Ex)

/-! ### slots forgotten, slots set -/
def wipeD (env : List SD) : List Nat → List SD
  | [] => env
  | v :: vs => (wipeD env vs).set v .un
def setAll (σ : L2.St) : List Nat → List V → L2.St
  | i :: is, v :: vs => setAll (σ.set i (some v)) is vs
  | _, _ => σ
def setAllD (env : List SD) : List Nat → List PyData → List SD
  | i :: is, d :: ds => setAllD (env.set i (.dat d)) is ds
  | _, _ => env
theorem wipe_get (σ : L2.St) : ∀ (vs : List Nat) (j : Nat), (wipe σ vs)[j]? = if j ∈ vs then (σ[j]?).map (fun _ => none) else σ[j]?
  | [], j => by simp [wipe]
  | v :: vs, j => by
    unfold wipe
    rw [List.getElem?_set]
    by_cases h : v = j
    · subst h
      rw [if_pos rfl, if_pos List.mem_cons_self, wipe_length]
      by_cases hl : v < σ.length
      · rw [if_pos hl]
        simp [hl]
      · rw [if_neg hl]
        simp [Nat.le_of_not_lt hl]
    · rw [if_neg h, wipe_get σ vs j]
      by_cases hj : j ∈ vs
      · rw [if_pos hj, if_pos (List.mem_cons_of_mem _ hj)]
      · rw [if_neg hj, if_neg (fun z => (List.mem_cons.mp z).elim (fun z => h z.symm) hj)]
theorem wipe_set {σ : L2.St} {vs : List Nat} {i : Nat} {o : Option V} (h : i ∈ vs) : wipe (σ.set i o) vs = wipe σ vs := List.ext_getElem? fun j => by
  rw [wipe_get, wipe_get]
  by_cases hj : j ∈ vs
  · rw [if_pos hj, if_pos hj, List.getElem?_set]
    by_cases e : i = j
    · subst e
      rw [if_pos rfl]
      by_cases hl : i < σ.length
      · simp [hl]
      · rw [if_neg hl]
        simp [Nat.le_of_not_lt hl]
    · rw [if_neg e]
  · have ne : i ≠ j := fun e => by subst e; exact hj h
    rw [if_neg hj, if_neg hj, List.getElem?_set, if_neg ne]
theorem wipe_all {vs : List Nat} : ∀ {is : List Nat} {us : List V} {σ : L2.St}, (∀ i ∈ is, i ∈ vs) → wipe (setAll σ is us) vs = wipe σ vs
  | [], _, _, _ => by simp [setAll]
  | i :: is, [], _, _ => by simp [setAll]
  | i :: is, u :: us, σ, h => by
    unfold setAll
    rw [wipe_all (fun j hj => h j (List.mem_cons_of_mem _ hj)), wipe_set (h i List.mem_cons_self)]
theorem wipe_wipe {vs : List Nat} {σ : L2.St} : wipe (wipe σ vs) vs = wipe σ vs := List.ext_getElem? fun j => by
  rw [wipe_get, wipe_get]
  by_cases hj : j ∈ vs
  · rw [if_pos hj, if_pos hj]
    cases σ[j]? <;> rfl
  · rw [if_neg hj, if_neg hj]
section
variable {K : PySem.W.Frag} {g : Gx Z} {F F' : Hp} {env : List SD} {σ : L2.St} {H : Hp}
theorem noPar_un {env : List SD} {i j : Nat} {r : SD} (h : NoPar env j) (hr : ∀ xs, r ≠ .cel true xs) : NoPar (env.set i r) j := fun xs e => by
  rcases get_set e with ⟨_, q⟩ | ⟨_, q⟩
  · exact hr xs q.symm
  · exact h xs q
theorem noPar_wipe {env : List SD} {j : Nat} (h : NoPar env j) : ∀ vs : List Nat, NoPar (wipeD env vs) j
  | [] => h
  | v :: vs => noPar_un (noPar_wipe h vs) (fun _ z => by cases z)
theorem Ok.wiped (k : Ok K g F env σ H) : ∀ {vs : List Nat}, (∀ v ∈ vs, NoPar env v) → Ok K g F (wipeD env vs) (wipe σ vs) H
  | [], _ => k
  | v :: vs, h => (k.wiped (vs := vs) fun u hu => h u (List.mem_cons_of_mem _ hu)).setU (noPar_wipe (h v List.mem_cons_self) vs)
theorem Ok.setAll : ∀ {is : List Nat} {us : List V} {ds : List PyData} {env : List SD} {σ : L2.St}, Ok K g F env σ H → (∀ i ∈ is, NoPar env i) → DRs K F us ds → Ok K g F (setAllD env is ds) (DL.setAll σ is us) H
  | [], _, _, _, _, k, _, _ => by simpa [DL.setAll, setAllD] using k
  | i :: is, _, _, _, _, k, h, .nil => by simpa [DL.setAll, setAllD] using k
  | i :: is, _, _, _, _, k, h, .cons a b => by
    unfold DL.setAll setAllD
    exact Ok.setAll (k.setD (h i List.mem_cons_self) a) (fun j hj => noPar_un (h j (List.mem_cons_of_mem _ hj)) (fun _ z => by cases z)) b
theorem Ok.unwiped {vs : List Nat} (k : Ok K g F env (wipe σ vs) H) : Ok K g F env σ H := by
  have up : ∀ {i : Nat} {v : V}, (wipe σ vs)[i]? = some (some v) → σ[i]? = some (some v) := fun {i v} e => by
    rw [wipe_get] at e
    by_cases hj : i ∈ vs
    · rw [if_pos hj] at e
      cases q : σ[i]? with
      | none => rw [q] at e; cases e
      | some o => rw [q] at e; cases e
    · rw [if_neg hj] at e
      exact e
  have dn : ∀ {j : Nat} {p : Bool} {ys : List PyData} {a : Addr}, env[j]? = some (.cel p ys) → σ[j]? = some (some (.ref a)) → (wipe σ vs)[j]? = some (some (.ref a)) := fun {j p ys a} e q => by
    obtain ⟨b, _, h1, _⟩ := k.cel j p ys e
    have := up h1
    rw [q] at this
    cases this
    exact h1
  refine ⟨k.len.trans (wipe_length σ vs), k.fh, fun i d e => ?_, fun i p xs e => ?_, fun i j p q xs ys a h1 h2 h3 h4 => k.sep i j p q xs ys a h1 h2 (dn h1 h3) (dn h2 h4), k.pin, k.frame, k.newF, k.oldF, fun a o e => ?_⟩
  · obtain ⟨v, h1, h2⟩ := k.dat i d e
    exact ⟨v, up h1, h2⟩
  · obtain ⟨a, us, h1, h2⟩ := k.cel i p xs e
    exact ⟨a, us, up h1, h2⟩
  · obtain ⟨z1, z2, z3⟩ := k.prot a o e
    exact ⟨z1, z2, fun j p ys e1 e2 => z3 j p ys e1 (dn e1 e2)⟩
theorem set_same {α : Type} {l : List α} {i : Nat} {x : α} (h : l[i]? = some x) : l.set i x = l := List.ext_getElem? fun j => by
  rw [List.getElem?_set]
  by_cases e : i = j
  · subst e
    rw [if_pos rfl, if_pos (List.getElem?_eq_some_iff.mp h).1, h]
  · rw [if_neg e]
/-- what stood at the slots vs is known again -/
def again (env1 : List SD) : List Nat → List SD → List SD
  | [], env2 => env2
  | v :: vs, env2 => match env1[v]? with
    | some (.dat d) => again env1 vs (env2.set v (.dat d))
    | _ => again env1 vs env2
theorem Ok.again {F1 H1 : Hp} {env1 : List SD} (k1 : Ok K g F1 env1 σ H1) (ex : Ex F1 F) : ∀ {vs : List Nat} {env2 : List SD}, Ok K g F env2 σ H → (∀ v ∈ vs, NoPar env2 v) → Ok K g F (DL.again env1 vs env2) σ H
  | [], _, k, _ => k
  | v :: vs, env2, k, h => by
    unfold DL.again
    split
    · rename_i d e
      obtain ⟨u, h1, h2⟩ := k1.dat v d e
      have k2 := k.setD (h v List.mem_cons_self) (h2.mono ex)
      rw [set_same h1] at k2
      exact Ok.again k1 ex k2 fun j hj => noPar_un (h j (List.mem_cons_of_mem _ hj)) (fun _ z => by cases z)
    · exact Ok.again k1 ex k fun j hj => h j (List.mem_cons_of_mem _ hj)
/-- the cell at D, no name's, protected -/
theorem Ok.hide (k : Ok K g F env σ H) {D : Addr} {vs : List V} (hF : F D = none) (hH : H D = some (.lst vs)) (nw : ∀ (j : Nat) (p : Bool) (ys : List PyData), env[j]? = some (.cel p ys) → σ[j]? ≠ some (some (.ref D))) (hp : g.Pr D = none) : Ok K (g.hid D vs hp) F env σ H :=
  ⟨k.len, k.fh, k.dat, k.cel, k.sep, k.pin, k.frame, k.newF, k.oldF, fun a o e => by
    by_cases z : a = D
    · subst z
      have e' : upd g.Pr a (.lst vs) a = some o := e
      rw [upd_same] at e'
      cases e'
      exact ⟨hH, hF, nw⟩
    · have e' : upd g.Pr D (.lst vs) a = some o := e
      rw [upd_ne z] at e'
      exact k.prot a o e'⟩
theorem Ok.bare {D : Addr} {vs : List V} (hp : g.Pr D = none) (k : Ok K (g.hid D vs hp) F env σ H) :
    Ok K g F env σ H ∧ F D = none ∧ H D = some (.lst vs) ∧ ∀ (j : Nat) (p : Bool) (ys : List PyData), env[j]? = some (.cel p ys) → σ[j]? ≠ some (some (.ref D)) := by
  obtain ⟨z1, z2, z3⟩ := k.prot D (.lst vs) upd_same
  refine ⟨⟨k.len, k.fh, k.dat, k.cel, k.sep, k.pin, k.frame, k.newF, k.oldF, fun a o e => ?_⟩, z2, z1, z3⟩
  have ne : a ≠ D := fun z => by rw [z, hp] at e; cases e
  exact k.prot a o (show upd g.Pr D (.lst vs) a = some o by rw [upd_ne ne]; exact e)
/-- a cell of no name is written -/
theorem Ok.writeP (k : Ok K g F env σ H) {D : Addr} {o : HO} (hF : F D = none) (h0 : g.H0 D = none) (hp : g.Pr D = none) (nw : ∀ (j : Nat) (p : Bool) (ys : List PyData), env[j]? = some (.cel p ys) → σ[j]? ≠ some (some (.ref D))) : Ok K g F env σ (upd H D o) := by
  refine ⟨k.len, fun a u e => ?_, k.dat, fun i p xs e => ?_, k.sep, k.pin, fun a u e n => ?_, k.newF, k.oldF, fun a u e => ?_⟩
  · have ne : a ≠ D := fun z => by rw [z, hF] at e; cases e
    rw [upd_ne ne]
    exact k.fh a u e
  · obtain ⟨a, us, h1, h2, h3, h4⟩ := k.cel i p xs e
    have ne : a ≠ D := fun z => by subst z; exact nw i p xs e h1
    exact ⟨a, us, h1, h2, by rw [upd_ne ne]; exact h3, h4⟩
  · have ne : a ≠ D := fun z => by rw [z, h0] at e; cases e
    rw [upd_ne ne]
    exact k.frame a u e n
  · obtain ⟨z1, z2, z3⟩ := k.prot a u e
    have ne : a ≠ D := fun z => by rw [z, hp] at e; cases e
    exact ⟨by rw [upd_ne ne]; exact z1, z2, z3⟩
end

/-! ### comprehensions -/
inductive CT where
  | one (i : Nat)
  | tup (is : List Nat)
def CT.slots : CT → List Nat
  | .one i => [i]
  | .tup is => is
def gNs : List Nat → TGs
  | [] => gNil
  | i :: is => gCons (gName i) (gNs is)
/-- the target's reading -/
def CT.g (K : PySem.W.Frag) : CT → TG
  | .one i => gName i
  | .tup is => gTup K is.length (gNs is)
def setK : List Nat → List PyData → List SD → (List SD → Prop) → Prop
  | [], ds, env, P => nilQ ds (P env)
  | i :: is, ds, env, P => consQ ds fun d r => setK is r (env.set i (.dat d)) P
theorem setK_inv : ∀ {is : List Nat} {ds : List PyData} {env : List SD} {P : List SD → Prop}, setK is ds env P → ds.length = is.length ∧ P (setAllD env is ds)
  | [], ds, env, P, h => by
    obtain ⟨rfl, h⟩ := nilQ_inv h
    exact ⟨rfl, h⟩
  | i :: is, ds, env, P, h => by
    obtain ⟨d, r, rfl, h⟩ := consQ_inv h
    obtain ⟨e, h⟩ := setK_inv (is := is) h
    exact ⟨by simp [e], h⟩
def CT.d : CT → DG
  | .one i => fun x env P => P (env.set i (.dat x))
  | .tup is => fun x env P => tupQ x fun ds => setK is ds env P
theorem gNs_ok : ∀ {is : List Nat} {vs : List V} {σ : L2.St} {H : Hp} {Q : L2.St → Hp → Prop}, vs.length = is.length → Q (setAll σ is vs) H → gNs is vs σ H Q
  | [], [], σ, H, Q, _, h => ⟨rfl, by simpa [setAll] using h⟩
  | [], _ :: _, _, _, _, e, _ => by simp at e
  | _ :: _, [], _, _, _, e, _ => by simp at e
  | i :: is, v :: vs, σ, H, Q, e, h => ⟨v, vs, rfl, gNs_ok (by simpa using e) (by unfold setAll at h; exact h)⟩
theorem CT.ok {K : PySem.W.Frag} {g : Gx Z} {F H : Hp} {env : List SD} {σ : L2.St} {t : CT} {x : V} {d : PyData} {P : List SD → Prop} {Q : L2.St → Hp → Prop} (k : Ok K g F env σ H) (hn : ∀ i ∈ t.slots, NoPar env i) (r : DR K F x d) (w : t.d d env P)
    (q : ∀ env' σ', P env' → Ok K g F env' σ' H → (∃ us, σ' = setAll σ t.slots us) → Q σ' H) : t.g K x σ H Q := by
  cases t with
  | one i => exact q _ _ w (k.setD (hn i (List.mem_singleton.mpr rfl)) r) ⟨[x], by simp [CT.slots, setAll]⟩
  | tup is =>
    obtain ⟨ds, rfl, w⟩ := tupQ_inv w
    have w := setK_inv w
    obtain ⟨a, xs, rfl, h1, h2⟩ := r.inv_tup
    exact ⟨a, xs, rfl, Evl.ex_t k.fh h1, h2.length.trans w.1, gNs_ok (h2.length.trans w.1) (q _ _ w.2 (k.setAll hn h2) ⟨xs, rfl⟩)⟩
def decQ {I S : Type} (dec : List SD → Option (I × S)) (N : I → S → Prop) (env : List SD) : Prop := match dec env with
  | some (i, s) => N i s
  | none => False
theorem decQ_inv {I S : Type} {dec : List SD → Option (I × S)} {N : I → S → Prop} {env : List SD} (h : decQ dec N env) : ∃ i s, dec env = some (i, s) ∧ N i s := by
  unfold decQ at h
  split at h
  · exact ⟨_, _, ‹_›, h⟩
  · exact h.elim
def qLc {I S : Type} (b : PyData → I → S → (I → S → Prop) → (PyData → I → S → Prop) → Prop) (i : I) : List PyData → List PyData → S → (List PyData → S → Prop) → Prop
  | [], acc, s, K => K acc s
  | d :: r, acc, s, K => b d i s (same i fun s => qLc b i r acc s K) fun y => same i fun s => acc.length < 100000 ∧ qLc b i r (acc ++ [y]) s K
def dLcQ {I S : Type} (dec : List SD → Option (I × S)) (emb : I → S → List SD) (qb : PyData → I → S → (I → S → Prop) → (PyData → I → S → Prop) → Prop) (wi : DI) (t : CT) (env : List SD) (P : SD → List SD → Prop) : Prop :=
  wi env fun items env1 => bIf (t.slots.all (noPar env1)) (decQ dec (fun i s => qLc qb i items [] s fun acc s => bIf (t.slots.all (noPar (emb i s))) (P (.cel false acc) (again env1 t.slots (emb i s))) False) (wipeD env1 t.slots)) False
def LcHyp {I S : Type} (dec : List SD → Option (I × S)) (emb : I → S → List SD) (qb : PyData → I → S → (I → S → Prop) → (PyData → I → S → Prop) → Prop) (t : CT) (c : DT) (we : DE) : Prop :=
  ∀ (d : PyData) (i : I) (s : S) (sk : I → S → Prop) (yd : PyData → I → S → Prop), qb d i s sk yd → t.d d (emb i s) fun env1 => c env1 fun b env2 => bIf b
    (we env2 fun y env3 => bIf (t.slots.all (noPar env3)) (decQ dec (yd y) (wipeD env3 t.slots)) False)
    (bIf (t.slots.all (noPar env2)) (decQ dec sk (wipeD env2 t.slots)) False)
theorem noPar_all {env : List SD} {vs : List Nat} (h : vs.all (noPar env) = true) : ∀ v ∈ vs, NoPar env v := fun v hv => noPar_of (List.all_eq_true.mp h v hv)
theorem lift_lc {K : PySem.W.Frag} {I S : Type} {dec : List SD → Option (I × S)} {emb : I → S → List SD} {qb : PyData → I → S → (I → S → Prop) → (PyData → I → S → Prop) → Prop} (hde : ∀ env i s, dec env = some (i, s) → env = emb i s)
    {wi : DI} {t : CT} {c : DT} {we : DE} (hq : LcHyp dec emb qb t c we) {σ : L2.St} {H : Hp} {Q : VK} (h : liftX K Z (dLcQ dec emb qb wi t) σ H Q) : tLc (liftI K Z wi) (t.g K) (liftT K Z c) (liftE K Z we) t.slots σ H Q := by
  obtain ⟨g, F, env, P, k, w, q⟩ := h
  refine ⟨g, F, env, _, k, w, fun items env1 J F1 H1 p e1 k1 ⟨G, Y, wk, hG, hY⟩ D hD => ?_⟩
  obtain ⟨np, p⟩ := bIf_and p
  obtain ⟨i0, s0, d0, p⟩ := decQ_inv p
  have kw := k1.wiped (noPar_all np)
  obtain ⟨kn, rn⟩ := kw.newCell hD (vs := []) (xs := []) .nil
  refine lc_it wk (fun j H' => ∃ env' F' acc, Ex F1 F' ∧ Ok K g F' env' (wipe σ t.slots) H' ∧ ResOk K g F' env' (wipe σ t.slots) H' (.ref D) (.cel false acc) ∧ (∀ v ∈ t.slots, NoPar env' v) ∧
      decQ dec (same i0 fun s => qLc qb i0 (items.drop j) acc s fun acc s => bIf (t.slots.all (noPar (emb i0 s))) (P (.cel false acc) (again env1 t.slots (emb i0 s))) False) env')
    ⟨_, F1, [], Ex.refl F1, kn, rn, fun v hv => noPar_wipe (noPar_all np v hv) _, by unfold decQ; rw [d0]; exact ⟨rfl, p⟩⟩ (fun i H' _ ⟨env', F', acc, e2, k2, _⟩ => hG H' (e2.trans k2.fh)) (fun j x H' H2 hi ⟨env', F', acc, e2, k2, r2, n2, w2⟩ y => ?_) fun H' ⟨env', F', acc, e2, k2, r2, n2, w2⟩ => ?_
  · obtain ⟨i, s, de, rfl, w3⟩ := decQ_inv w2
    obtain rfl := hde _ _ _ de
    rw [List.drop_eq_getElem_cons hi] at w3
    have w2 := hq _ _ _ _ _ w3
    obtain ⟨D', vsA, eD, hF, hHD, rA, h0, hpr, nw⟩ := r2
    cases eD
    have kh := k2.hide hF hHD nw hpr
    obtain ⟨F3, e3, k3, r3⟩ := kh.yld e2 (hY j H' x H2 items[j] (e2.trans k2.fh) (by simp [hi]) y)
    refine CT.ok k3 n2 r3 w2 fun env4 σ4 p4 k4 ⟨us, hσ⟩ => ?_
    have hw : wipe σ4 t.slots = wipe σ t.slots := by rw [hσ, wipe_all (fun i hi => hi), wipe_wipe]
    refine ⟨hw, _, F3, env4, _, k4, p4, fun b env5 F5 H5 p5 e5 k5 => ?_⟩
    cases b with
    | false =>
      refine iteF ?_
      have p5 := bIf_and p5
      obtain ⟨k6, z1, z2, z3⟩ := Ok.bare hpr k5
      have k7 := k6.wiped (noPar_all p5.1)
      rw [hw] at k7
      refine ⟨_, F5, acc, (e2.trans e3).trans e5, k7, ?_, fun v hv => noPar_wipe (noPar_all p5.1 v hv) _, p5.2⟩
      refine ⟨D, vsA, rfl, z1, z2, rA.mono (e3.trans e5), h0, hpr, fun j p ys ej ez => ?_⟩
      rw [← hw] at ez
      exact wiped_cell z3 ej ez
    | true =>
      refine iteT ⟨_, F5, env5, _, k5, p5, fun d env6 v F6 H6 p6 e6 k6 r6 => ?_⟩
      obtain ⟨np6, p6⟩ := bIf_and p6
      obtain ⟨i6, s6, d6, hi6, p6⟩ := decQ_inv p6
      obtain ⟨k7, z1, z2, z3⟩ := Ok.bare hpr k6
      refine ⟨vsA, z2, by rw [rA.length]; exact Evl.sz_lt p6.1, ?_⟩
      have k8 := k7.wiped (noPar_all np6)
      have z4 : ∀ (j : Nat) (p : Bool) (ys : List PyData), (wipeD env6 t.slots)[j]? = some (.cel p ys) → (wipe σ4 t.slots)[j]? ≠ some (some (.ref D)) := fun j p ys ej ez => wiped_cell z3 ej ez
      have k9 := k8.writeP (o := .lst (vsA ++ [v])) z1 h0 hpr z4
      rw [hw] at k9 z4
      exact ⟨_, F6, acc ++ [d], ((e2.trans e3).trans e5).trans e6, k9, ⟨D, vsA ++ [v], rfl, z1, upd_same, (rA.mono ((e3.trans e5).trans e6)).append (.one r6), h0, hpr, z4⟩, fun v hv => noPar_wipe (noPar_all np6 v hv) _, by unfold decQ; rw [d6]; exact ⟨hi6, p6.2⟩⟩
  · obtain ⟨i, s, de, rfl, w3⟩ := decQ_inv w2
    obtain rfl := hde _ _ _ de
    rw [List.drop_length] at w3
    have w2 := bIf_and w3
    have k3 := k2.unwiped
    have k4 := Ok.again k1 e2 k3 (noPar_all w2.1)
    obtain ⟨D', vsA, eD, hF, hHD, rA, h0, hpr, nw⟩ := r2
    cases eD
    refine q _ _ _ F' H' w2.2 (e1.trans e2) k4 ⟨D, vsA, rfl, hF, hHD, rA, h0, hpr, fun j p ys ej ez => ?_⟩
    have ej' := again_cell ej
    obtain ⟨a, _, b1, _⟩ := k3.cel j p ys ej'
    obtain ⟨a2, _, b2, _⟩ := k2.cel j p ys ej'
    have b3 := wipe_some b2
    rw [ez] at b1
    cases b1
    rw [ez] at b3
    cases b3.1
    exact nw j p ys ej' b2
where
  wiped_cell {env : List SD} {σ : L2.St} {D : Addr} {vs : List Nat} (z : ∀ (j : Nat) (p : Bool) (ys : List PyData), env[j]? = some (.cel p ys) → σ[j]? ≠ some (some (.ref D))) {j : Nat} {p : Bool} {ys : List PyData} (e : (wipeD env vs)[j]? = some (.cel p ys)) (e2 : (wipe σ vs)[j]? = some (some (.ref D))) : False := by
    have h1 := (wipe_some e2).1
    have : ∀ vs : List Nat, (wipeD env vs)[j]? = some (.cel p ys) → env[j]? = some (.cel p ys) := fun vs => by
      induction vs with
      | nil => exact id
      | cons v vs ih =>
        intro h
        rcases get_set h with ⟨_, q⟩ | ⟨_, q⟩
        · cases q
        · exact ih q
    exact z j p ys (this vs e) h1
  again_cell {env1 : List SD} {vs : List Nat} {env2 : List SD} {j : Nat} {p : Bool} {ys : List PyData} (e : (again env1 vs env2)[j]? = some (.cel p ys)) : env2[j]? = some (.cel p ys) := by
    induction vs generalizing env2 with
    | nil => exact e
    | cons v vs ih =>
      unfold again at e
      split at e
      · have := ih e
        rcases get_set this with ⟨_, q⟩ | ⟨_, q⟩
        · cases q
        · exact q
      · exact ih e
section
variable {X : Cx} {elt tg iter : Expr} {ifs : List Expr} {scope : Scope} {own : List (Str × Nat)} {pos : Pos} {wi : DI} {t : CT} {c : DT} {we : DE} {m : Nat} {I S : Type} {dec : List SD → Option (I × S)} {emb : I → S → List SD} {qb : PyData → I → S → (I → S → Prop) → (PyData → I → S → Prop) → Prop}
def dYes (env : List SD) (P : Bool → List SD → Prop) : Prop := P true env
theorem tyes : PTs X [] (liftT X.K Z dYes) := ⟨fun pins s σ H Q I ⟨g, F, env, P, k, w, q⟩ => pts_nil.run pins s σ H Q I (q true env F H w (Ex.refl F) k)⟩
theorem tif1 {e : Expr} (h : PT X e (liftT X.K Z c)) : PTs X [e] (liftT X.K Z c) := pts_one h
/-- [elt for tg in iter if ..] -/
theorem dlc (own : List (Str × Nat)) (t : CT) (hde : ∀ env i s, dec env = some (i, s) → env = emb i s) (hc : X.calm = true) (hN : X.N.Nodup) (hi : PI X tg iter (liftI X.K Z wi)) (ok : BlkOk X.N X.env.scope scope own)
    (hg : ∀ (s : Shared) (H : Hp) (C : Addr) (cl : List (Str × Addr)) (fp : List Addr), PG (X.blk s H scope (compEnvC scope cl C X.env) fp) tg (t.g X.K)) (ht : ∀ (s : Shared) (H : Hp) (C : Addr) (cl : List (Str × Addr)) (fp : List Addr), PTs (X.blk s H scope (compEnvC scope cl C X.env) fp) ifs (liftT X.K Z c))
    (he : ∀ (s : Shared) (H : Hp) (C : Addr) (cl : List (Str × Addr)) (fp : List Addr), PE (X.blk s H scope (compEnvC scope cl C X.env) fp) elt (liftE X.K Z we)) (hq : LcHyp dec emb qb t c we) (hsl : t.slots = own.map (·.2) := by rfl) (hs : ∀ x, foldedSetIterable iter X.env x = pure x := by intro _; rfl) :
    PE X (.ListComp elt [⟨tg, iter, ifs, 0⟩] scope pos) (liftX X.K Z (dLcQ dec emb qb wi t)) := PE.of (pe_lc hc hN hi ok hg ht he hs) fun σ H Q h => by
  have h2 := lift_lc hde hq h
  rw [hsl] at h2
  exact h2
/-- name = [elt for tg in iter if ..] -/
theorem ssetLc (i : Nat) (own : List (Str × Nat)) (t : CT) (hde : ∀ env i s, dec env = some (i, s) → env = emb i s) {y : Str} {py spos : Pos} (hc : X.calm = true) (hN : X.N.Nodup) (hi : PI X tg iter (liftI X.K Z wi)) (ok : BlkOk X.N X.env.scope scope own)
    (hg : ∀ (s : Shared) (H : Hp) (C : Addr) (cl : List (Str × Addr)) (fp : List Addr), PG (X.blk s H scope (compEnvC scope cl C X.env) fp) tg (t.g X.K)) (ht : ∀ (s : Shared) (H : Hp) (C : Addr) (cl : List (Str × Addr)) (fp : List Addr), PTs (X.blk s H scope (compEnvC scope cl C X.env) fp) ifs (liftT X.K Z c))
    (he : ∀ (s : Shared) (H : Hp) (C : Addr) (cl : List (Str × Addr)) (fp : List Addr), PE (X.blk s H scope (compEnvC scope cl C X.env) fp) elt (liftE X.K Z we)) (hq : LcHyp dec emb qb t c we) (hsw : swapsWith (.ListComp elt [⟨tg, iter, ifs, 0⟩] scope pos) (some (.Name y py)) spos.line X.env = pure true)
    (hsl : t.slots = own.map (·.2) := by rfl) (hy : X.N[i]? = some y := by rfl) (hyl : X.env.scope.names.lookup y = some .local := by rfl) (hs : ∀ x, foldedSetIterable iter X.env x = pure x := by intro _; rfl) :
    PS X (.Assign [.Name y py] (.ListComp elt [⟨tg, iter, ifs, 0⟩] scope pos) spos) (liftS X.K Z m (dSet i (dLcQ dec emb qb wi t))) := PS.of (ps_setLc hc hN hy hyl hsw hi ok hg ht he hs) fun D σ H ⟨g, F, env, P, k, w, q⟩ => by
  have h2 : liftX X.K Z (dLcQ dec emb qb wi t) σ H fun v H1 => D.nx (σ.set i (some v)) H1 := ⟨g, F, env, _, k, w, fun r env1 v F1 H1 p e1 k1 r1 => q.nx _ _ F1 H1 (bIf_and p).2 e1 (k1.setR (bIf_and p).1 (res_own r1) own_ne)⟩
  have h3 := lift_lc hde hq h2
  rw [hsl] at h3
  exact h3
end
end DL

/-! The data layer, part 7: a def by its body; the law's end. -/
namespace DL
variable {Z : Zx}
open PySem PySem.Spec PyProof.Rows L2
open Evl (Ex)

section
variable {K : PySem.W.Frag} {F H : Hp} {vs : List V} {as : List SD}
/-- where the cells handed in stand -/
def cellsAt (vs : List V) (as : List SD) (i : Nat) : Option Addr := match as[i]?, vs[i]? with
  | some (.cel _ _), some (.ref a) => some a
  | _, _ => none
theorem cellsAt_of {i : Nat} {p : Bool} {xs : List PyData} {a : Addr} (h1 : as[i]? = some (.cel p xs)) (h2 : vs[i]? = some (.ref a)) : cellsAt vs as i = some a := by
  unfold cellsAt
  rw [h1, h2]
theorem cellsAt_inv {i : Nat} {a : Addr} (h : cellsAt vs as i = some a) : ∃ p xs, as[i]? = some (.cel p xs) ∧ vs[i]? = some (.ref a) := by
  unfold cellsAt at h
  split at h
  · rename_i p xs b h1 h2
    cases h
    exact ⟨p, xs, h1, h2⟩
  · cases h
def entryZ (F H : Hp) (vs : List V) (as : List SD) : Zx := ⟨F, H, cellsAt vs as, fun _ => none⟩
def entryG (F H : Hp) (vs : List V) (as : List SD) : Gx (entryZ F H vs as) := ⟨fun _ => none, fun _ _ h => h⟩
theorem start_get {N : List Str} {i : Nat} {v : V} (h : vs[i]? = some v) : (start N vs)[i]? = some (some v) := by
  unfold L2.start
  have hi : i < vs.length := (List.getElem?_eq_some_iff.mp h).1
  rw [List.getElem?_append_left (by simpa using hi), List.getElem?_map, h]
  rfl
theorem args_get {m i : Nat} {r : SD} (h : (as ++ List.replicate m SD.un)[i]? = some r) (hr : r ≠ .un) : as[i]? = some r := by
  by_cases hi : i < as.length
  · rwa [List.getElem?_append_left hi] at h
  · rw [List.getElem?_append_right (by omega), List.getElem?_replicate] at h
    split at h
    · cases h
      exact absurd rfl hr
    · cases h
theorem entry_ok {N ps : List Str} (ha : ArgsOk K F H vs as) (hl : as.length = ps.length) (hN : ps.length ≤ N.length) : Ok K (entryG F H vs as) F (as ++ List.replicate (N.length - ps.length) .un) (start N vs) H where
  len := by
    unfold L2.start
    have := ha.len
    simp
    omega
  fh := ha.fh
  dat := fun i d e => by
    obtain ⟨v, h1, h2⟩ := ha.dat i d (args_get e (fun z => by cases z))
    exact ⟨v, start_get h1, h2⟩
  cel := fun i p xs e => by
    have e := args_get e (fun z => by cases z)
    obtain ⟨rfl, a, us, h1, h2, h3, h4⟩ := ha.cel i p xs e
    exact ⟨a, us, start_get h1, h2, h3, h4, fun _ => cellsAt_of e h1, fun z => by cases z⟩
  sep := fun i j p q xs ys a e1 e2 h1 h2 => by
    have e1 := args_get e1 (fun z => by cases z)
    have e2 := args_get e2 (fun z => by cases z)
    obtain ⟨_, b, _, b1, _⟩ := ha.cel i p xs e1
    obtain ⟨_, c, _, c1, _⟩ := ha.cel j q ys e2
    rw [start_get b1] at h1
    rw [start_get c1] at h2
    cases h1
    cases h2
    exact ha.sep i j p q xs ys _ e1 e2 b1 c1
  pin := fun i a e => by
    obtain ⟨p, xs, h1, h2⟩ := cellsAt_inv e
    obtain ⟨rfl, _⟩ := ha.cel i p xs h1
    refine ⟨xs, ?_⟩
    rw [List.getElem?_append_left (List.getElem?_eq_some_iff.mp h1).1]
    exact h1
  frame := fun a o e _ => e
  newF := fun a o e => .inl e
  oldF := Ex.refl F
  prot := fun a o e => by cases e
theorem post_of {env : List SD} {σ : L2.St} {F' H' : Hp} {v : V} {r : SD} {n : Nat} (k : Ok K (entryG F H vs as) F' env σ H') (hn : ∀ (i : Nat) (p : Bool) (xs : List PyData), as[i]? = some (.cel p xs) → i < n) (hr : ResOk K (entryG F H vs as) F' env σ H' v r) : PostOk K F H vs as F' H' (env.take n) v r where
  ex := k.oldF
  fh := k.fh
  newF := k.newF
  frame := fun a o e n => k.frame a o e fun i z => by
    obtain ⟨p, xs, h1, h2⟩ := cellsAt_inv z
    exact n i p xs h1 h2
  cel := fun i p xs a h1 h2 => by
    have e : (entryG F H vs as).A0 i = some a := cellsAt_of h1 h2
    obtain ⟨ys, h3⟩ := k.pin i a e
    obtain ⟨b, us, _, c2, c3, c4, c5, _⟩ := k.cel i true ys h3
    have c5 := c5 rfl
    rw [e] at c5
    cases c5
    refine ⟨ys, us, ?_, c2, c3, c4⟩
    rw [List.getElem?_take_of_lt (hn _ _ _ h1)]
    exact h3
  res := by
    cases r with
    | un => exact hr
    | dat d => exact hr
    | cel b xs =>
      obtain ⟨a, us, h1, h2, h3, h4, h5, _⟩ := hr
      exact ⟨a, us, h1, h2, h3, h4, h5⟩
end

section
variable {P : Program} {w : World} {K : PySem.W.Frag} {mg : Str → Option Value} {base : Heap}
/-- the ends of a def's body -/
def defEnds (m : Nat) (Q : SD → List SD → Prop) : DEnds := { nx := fun env => Q (.dat .none) (env.take m), rt := Q }
/-- cells stand ahead of place m alone -/
def CelsIn (m : Nat) (S : DSp) : Prop := ∀ as Q, S as Q → ∀ (i : Nat) (p : Bool) (xs : List PyData), as[i]? = some (.cel p xs) → i < m
/-- a def of the text, by its body read as data -/
theorem dfn (m : Nat) {x qual : Str} {st : Stmt} {f : Addr} {fd : FuncData} {N ps : List Str} {k : Nat} {S : DSp} (Fn : Fun K x qual st f fd) (sc : FnScope N ps (defScope st)) (len : ∀ as Q, S as Q → as.length = ps.length) (cels : CelsIn m S)
    (hbody : ∀ {Z : Zx} (cdv : Value) (A : Around) (outer : List Env) (s : Shared) (H : Hp), Room k (A.deeper (envOfC qual (defScope st) s.heap.objs.size f cdv)) → (A.deeper (envOfC qual (defScope st) s.heap.objs.size f cdv)).guards = some [] →
      ∃ t : DS, PSs (cxOf CX0 P w K mg base N qual (defScope st) f cdv A outer s H E0).nox (defBody st) (liftS K Z m t) ∧
        ∀ as Q, S as Q → t (defEnds m Q) (as ++ List.replicate (N.length - ps.length) .un)) : FnG P w K mg base (k + 1) f fd ps S := by
  obtain ⟨oc, od, kV, doc, pm, an, cdv, ct, osl, rfl, lk, hcd⟩ := Fn.ex
  refine ⟨len, fun A outer s H args us vs Q hr hg e0 hb rv ⟨F0, as, PP, ha, hS, hQ⟩ => ?_⟩
  have hl : vs.length = ps.length := ha.len.symm.trans (len as PP hS)
  have hpl : ps.length ≤ N.length := by
    have := congrArg List.length sc.pre
    rw [List.length_take] at this
    omega
  have KX : K.In s.heap := e0.mod.kin.keeps fun b o e => (e0.bs b o e).1
  refine codeAny_call_function hr.depth (KX _ _ lk) rfl sc.co sc.gen rfl (PySem.W.codeRec_of KX hcd) (hb _ _ _ _ (wpAny_newFunctionEnv_cells sc.kind (fun ⟨n, v⟩ hy => ?_) fun env he s1 x => ?_))
  · rcases sc.par n (List.of_mem_zip hy).1 with q | q
    · exact .inl q
    · exact .inr ⟨q, PySem.W.cellsFrom_some _ _ _ (.inl q)⟩
  · subst he
    obtain ⟨t, ht, hq⟩ := hbody (Z := entryZ F0 H vs as) cdv A outer s H (hr.deeper _) hg
    have I : Inv (cxOf CX0 P w K mg base N qual (defScope st) f cdv A outer s H E0) [] (start N vs) H s1 := inv_start sc hr.hd e0 hl rv x
    refine ⟨(e0.mod.nolimit.keeps fun b o e => (e0.bs b o e).1).keeps x.toInCall.keep, codeAny_func (wpAny_mono (ht.nox.run [] s1 (start N vs) H { nx := fun _ H' => Q .non H', rt := Q } I ?_) (fun fl s' hs => ?_) fun e s' hs => hs)⟩
    · have al : as.length = ps.length := len as PP hS
      refine ⟨entryG F0 H vs as, F0, _, _, entry_ok ha al hpl, hq as PP hS, ?_⟩
      exact .mk4 (.mk (fun env' σ' F' H' p _ k' => hQ _ _ _ _ _ p (post_of k' (cels _ _ hS) .non)) (fun _ _ _ _ p => p.elim) (fun _ _ _ _ p => p.elim) (fun r env' v σ' F' H' p _ k' r' => hQ _ _ _ _ _ p (post_of k' (cels _ _ hS) r'))) rfl
    · have fin : ∀ {σ' : L2.St} {H' : Hp} {v : V} {u : Value}, Inv (cxOf CX0 P w K mg base N qual (defScope st) f cdv A outer s H E0) [] σ' H' s' → RelV v u → Q v H' → CE outer P w H s Q u s' :=
        fun {σ' H' v u} J r q => ⟨v, H', J.os, J.bare, J.base, J.hok, r, q⟩
      match fl, hs with
      | .ret u, ⟨v, σ', H', J, r, q⟩ => exact fin J r q
      | .next, ⟨σ', H', J, q⟩ => exact fin (v := V.non) (u := Value.none) J rfl q
      | .brk, ⟨_, _, _, q⟩ => exact q.elim
      | .cont, ⟨_, _, _, q⟩ => exact q.elim
/-- what is asked of a law's def: of a list of the script's numbers it tells True -/
def lawS (n : Nat) : DSp := fun as Q => match as with
  | [.dat (.list ds)] => (∃ ns : List Int, ds = ns.map .int ∧ ns.length ≤ n) ∧ ∀ as', Q (.dat (.bool true)) as'
  | _ => False
theorem drs_ints {F : Hp} : ∀ ns : List Int, DRs K F (ns.map V.int) (ns.map PyData.int)
  | [] => .nil
  | n :: ns => .cons (.int n) (drs_ints ns)
/-- the modules' dict stands -/
def SysD (h : Heap) : Prop := ∃ o es ep, h.get? sysModules = some o ∧ o.data = .dict es ep
class SysB (base : Heap) : Prop where
  out : SysD base
theorem law_data {mb : Str → Option Value} {k n : Nat} {fa a : Addr} {fd : FuncData} {x : Str} {s₁ : Shared} {vs : List Value} {ns : List Int}
    (KX : K.In s₁.heap) (hns : s₁.heap.Ns mainGlobals mg) (hb : s₁.heap.Ns builtinsNs mb) (hbb : ∀ x : Str, x ≠ "__name__" → mb x = bootBuiltins x) (hlim : s₁.heap.NoLimit) (hgn : s₁.gens = #[])
    (ha : s₁.heap.get? a = some { cls := .type "list", data := .seq vs.toArray }) (hi : IntsAre vs ns) (hn : ns.length ≤ n) (hz : n ≤ sizeLine) (hr : Room k callerA)
    (hsys : SysD s₁.heap) (Fn : ∀ base : Heap, K.In base → base.Ns mainGlobals mg → SysD base → FnG P w K mg base k fa fd [x] (lawS n)) (hbind : ∀ (s : Shared) (u : Value), BindsTo s fd ⟨[u], []⟩ [(x, u)]) :
    codeAny (model P w) callerA (.call (.ref fa) ⟨[.ref a], []⟩) (fun r s' => r = .ok (.ret (.bool true)) ∧ OldK s₁.heap s'.heap ∧ s'.os = s₁.os ∧ AllBare s'.gens) s₁ := by
  have rv := vals_ints hi
  have lenV := hi.length
  have hl : ns.length ≤ sizeLine := Nat.le_trans hn hz
  have core : ∀ H : Hp, Only H → RdL K H a (ns.map V.int) → HOk P w H s₁.heap → (∀ b, H b ≠ none → b = a) → (H a ≠ none → K.lookup a = none) →
      codeAny (model P w) callerA (.call (.ref fa) ⟨[.ref a], []⟩) (fun r s' => r = .ok (.ret (.bool true)) ∧ OldK s₁.heap s'.heap ∧ s'.os = s₁.os ∧ AllBare s'.gens) s₁ := by
    intro H hO hS hok hA hK
    have isA : ∀ {b : Addr} {u : HO}, H b = some u → b = a := fun {b u} q => hA b (by rw [q]; simp)
    have noA : ∀ {b : Addr} {o : Obj} {es : Array DictEntry} {ep : Nat}, s₁.heap.get? b = some o → o.data = .dict es ep → H b = none := fun {b o es ep} e d => by
      cases q : H b with
      | none => rfl
      | some u =>
        cases isA q
        rw [ha] at e; cases e
        cases (show Data.seq vs.toArray _ = Data.dict es ep from d)
    have nsK : ∀ {b : Addr} {m : Str → Option Value}, s₁.heap.Ns b m → (hidT s₁.heap H).Ns b m := fun {b m} ⟨o, es, ep, e, d, r⟩ => ⟨o, es, ep, hidT_get e (noA e d), d, r⟩
    have hKb : K.In (hidT s₁.heap H) := fun b o e => hidT_get (KX b o e) (by
      cases q : H b with
      | none => rfl
      | some u =>
        cases isA q
        rw [hK (by rw [q]; simp)] at e; cases e)
    have hM : Mod K mg (hidT s₁.heap H) := ⟨hKb, nsK hns, ⟨mb, nsK hb, hbb⟩, let ⟨mc, h1, h2⟩ := hlim; ⟨mc, nsK h1, h2⟩⟩
    have e0 : Env0 P w K mg (hidT s₁.heap H) callerA [] s₁ H := ⟨rfl, hM, fun b o e => of_hidT e, Nat.le_of_eq (hidT_size _ _), trivial, fun b hb => absurd (show b ∈ ([] : List Addr) from hb) (by simp), hok, .of_eq hgn⟩
    have goal : spD K (lawS n) [.ref a] H (fun v _ => v = .bl true) := by
      refine ⟨H, [.dat (.list (ns.map .int))], fun r _ => r = .dat (.bool true), args_dat (Ex.refl H) (ds := [.list (ns.map .int)]) (.one (.lst hS (drs_ints ns))), ⟨⟨ns, rfl, hn⟩, fun _ => rfl⟩, fun r as' v F' H' p po => ?_⟩
      subst p
      exact DR.inv_bool po.res
    refine codeAny_mono ((Fn _ hKb (nsK hns) (let ⟨o, es, ep, e, d⟩ := hsys; ⟨o, es, ep, hidT_get e (noA e d), d⟩)).go callerA [] s₁ H ⟨[.ref a], []⟩ [.ref a] [.ref a] _ hr rfl e0 (hbind s₁ (.ref a)) (.cons rfl .nil) goal) fun r s' h => ?_
    match r, h with
    | .error e, h =>
      exact h.elim
    | .ok .next, h => exact h.elim
    | .ok .brk, h => exact h.elim
    | .ok .cont, h => exact h.elim
    | .ok (.ret u), ⟨v, H', os, bare, un, hok', r', q⟩ =>
      have q' : v = .bl true := q
      subst q'
      obtain rfl : u = Value.bool true := r'
      refine ⟨rfl, OldK.of_keep fun b o e => ?_, os, bare⟩
      cases q : H b with
      | none => exact un.keep b o e q (by intro z; exact absurd (show b ∈ ([] : List Addr) from z) (by simp)) (by simp)
      | some u =>
        rcases hO b with z | ⟨ob, xs, z⟩
        · rw [q] at z; cases z
        · have z2 := un.frzs b ob _ z
          obtain ⟨e1, _⟩ := hok b _ z
          obtain ⟨e2, _⟩ := hok' b _ z2
          rw [e] at e1; cases e1
          exact e2
  cases hk : K.lookup a with
  | some o =>
    have e := KX a o hk
    rw [ha] at e
    cases e
    exact core (fun _ => none) (fun _ => .inl rfl) (.inr ⟨vs, 0, hk, rv, by rw [lenV]; exact hl⟩) (fun b u z => by cases (show (none : Option HO) = some u from z)) (fun b z => absurd rfl z) fun z => absurd rfl z
  | none =>
    refine core (fun b => if b = a then some (.frz { cls := .type "list", data := .seq vs.toArray } (.lst (ns.map V.int))) else none) (fun b => ?_) (.inl (.inr ⟨{ cls := .type "list", data := .seq vs.toArray }, if_pos rfl⟩)) (fun b u z => ?_) (fun b z => ?_) fun _ => hk
    · by_cases hb : b = a
      · exact .inr ⟨_, _, if_pos hb⟩
      · exact .inl (if_neg hb)
    · by_cases hb : b = a
      · cases (if_pos hb).symm.trans z
        subst hb
        exact ⟨ha, by rw [List.length_map]; exact hl, vs, _, rv, ha⟩
      · cases (if_neg hb).symm.trans z
    · by_cases hb : b = a
      · exact hb
      · exact absurd (if_neg hb) z
end
end DL

/-! The data layer, part 8: names of the top; the end over a head by facts. -/
namespace DL
variable {Z : Zx}
open PySem PySem.Spec PyProof.Rows L2
open Evl (Ex)

/-- a def of the top that keeps its promise -/
structure Dn (P : Program) (w : World) (K : PySem.W.Frag) (mg : Str → Option Value) (base : Heap) (x : Str) (k : Nat) (ps : List Str) (S : DSp) : Prop where
  ex : ∃ fd, FnG P w K mg base k (He.ga K x) fd ps S ∧ Binds K fd ps []
  glo : mg x = some (.ref (He.ga K x))
  kp : PySem.W.keepIn K (.ref (He.ga K x)) = true
/-- what the head says of the top -/
structure Top (fa : List He.Fa) (fn : List He.FnD) (K : PySem.W.Frag) (mg : Str → Option Value) : Prop where
  says : He.SaysE fa fn K
  ns : ∃ h, K.In h ∧ h.Ns mainGlobals mg
section
variable {fa : List He.Fa} {fn : List He.FnD} {K : PySem.W.Frag} {mg : Str → Option Value}
theorem Top.glo (T : Top fa fn K mg) (x : Str) (i : Nat) (h : fa[i]? = some (.glo x) := by rfl) : mg x = some (.ref (He.ga K x)) := by
  obtain ⟨hp, h1, h2⟩ := T.ns
  exact He.glo_ok h1 h2 (T.says.fact i h)
theorem Top.free (T : Top fa fn K mg) (x : Str) (i : Nat) (h : fa[i]? = some (.free x) := by rfl) : mg x = none := by
  obtain ⟨hp, h1, h2⟩ := T.ns
  exact He.free_ok h1 h2 (T.says.fact i h)
theorem Top.int (T : Top fa fn K mg) (x : Str) (n : Int) (i : Nat) (h : fa[i]? = some (.int x n) := by rfl) : ∃ t, mg x = some (.int n t) := by
  obtain ⟨hp, h1, h2⟩ := T.ns
  exact He.int_ok h1 h2 (T.says.fact i h)
theorem Top.keep (T : Top fa fn K mg) (x : Str) (i : Nat) (h : fa[i]? = some (.keep x) := by rfl) : PySem.W.keepIn K (.ref (He.ga K x)) = true := He.keep_ok (T.says.fact i h)
theorem Top.fun_ (T : Top fa fn K mg) (x : Str) (st : Stmt) (i j : Nat) (h : fn[i]? = some ⟨(x, none), x, x, defArgs st, defBody st, defScope st⟩ := by rfl) (hk : fa[j]? = some (.keep x) := by rfl) :
    ∃ kV doc pm an cdv ct, Fun K x x st (He.ga K x) (PySem.W.fnOf x x (defArgs st) (defBody st) (defScope st) .none kV doc pm an cdv ct) := by
  obtain ⟨oc, od, osl, kV, doc, pm, an, cdv, ct, h1, h2⟩ := T.says.def_ i h
  exact ⟨kV, doc, pm, an, cdv, ct, fun_mk h1 h2 (T.keep x j hk)⟩
/-- a module's whole number -/
theorem dnum {X : Cx} {x : Str} {n : Int} {pos : Pos} (hm : ∃ t, X.mg x = some (.int n t)) (hg : Gl X x := by rfl) (hdb : (x == ("__debug__" : Str)) = false := by decide) : PE X (.Name x pos) (liftE X.K Z (dC (.int n))) := by
  obtain ⟨t, h⟩ := hm
  exact dglob (v := .int n) h ⟨t, rfl⟩ (fun _ => .int n) hg hdb
end
section
variable {X : Cx} {k : Nat} {ps : List Str} {S : DSp} {x : Str} {p pos : Pos} {e : Expr} {es : List Expr} {was : DA}
theorem dcn (D : Dn X.prog X.w X.K X.mg X.base x k ps S) (hr : Room k X.A) (hA : X.A.guards = some [])
    (ha : PA X (e :: es) (liftA X.K Z was)) (hg : Gl X x := by rfl) (hdb : (x == ("__debug__" : Str)) = false := by decide)
    (he : starEach (e :: es) X.env = (false, eval e X.env) :: starEach es X.env := by rfl) (hpl : (backTo pos (starEach es X.env)).any (·.1) = false := by rfl) : PE X (.Call (.Name x p) (e :: es) [] pos) (liftX X.K Z (dCall S was)) := by
  obtain ⟨fd, h1, h2⟩ := D.ex
  exact dcall h1 hr hA D.glo D.kp h2 ha hg hdb he hpl
theorem dcnC (i : Nat) {y : Str} {p0 : Pos} (D : Dn X.prog X.w X.K X.mg X.base x k ps S) (hr : Room k X.A) (hA : X.A.guards = some [])
    (ha : PA X es (liftA X.K Z was)) (hN : X.N[i]? = some y := by rfl) (hv : Vis X.env.scope y := by first | exact Or.inl rfl | exact Or.inr (Or.inl rfl) | exact Or.inr (Or.inr rfl)) (hd : (y == ("__debug__" : Str)) = false := by decide)
    (hcd : (y == ("__classdict__" : Str)) = false := by decide) (hg : Gl X x := by rfl) (hdb : (x == ("__debug__" : Str)) = false := by decide)
    (he : starEach (.Name y p0 :: es) X.env = (false, eval (.Name y p0) X.env) :: starEach es X.env := by rfl) (hpl : (backTo pos (starEach es X.env)).any (·.1) = false := by rfl) :
    PE X (.Call (.Name x p) (.Name y p0 :: es) [] pos) (liftX X.K Z (dCallC S i was)) := by
  obtain ⟨fd, h1, h2⟩ := D.ex
  exact dcallC i h1 hr hA D.glo D.kp h2 ha hN hv hd hcd hg hdb he hpl
end
/-- the goal that a head by facts leaves -/
theorem walk_dataE {l : PySem.W.OpenLaw} {n k : Nat} {q : Program} {loose : List Str} {XP : (Str → Option Value) → Heap → Prop} {YP : World → Heap → Prop} {d : DefRec} {x : Str}
    (hn : l.most = some n) (hn2 : n ≤ sizeLine) (hdf : d.params.defaults = []) (hr : Room k callerA)
    (Fn : ∀ (w : World) (mg : Str → Option Value) (fa : Addr) (h : Heap), YP w h → h.Ns mainGlobals mg → mg d.name = some (.ref fa) →
      ∃ (K : PySem.W.Frag) (fd : FuncData), K.In h ∧ SysD h ∧ (∀ (s : Shared) (u : Value), BindsTo s fd ⟨[u], []⟩ [(x, u)]) ∧
        ∀ base : Heap, K.In base → base.Ns mainGlobals mg → SysD base → FnG l.prog w K mg base k fa fd [x] (lawS n)) :
    PySem.W.WalkO q loose XP YP l.row.toRowW d [] (fun f vs => PySem.call f vs) := by
  refine Att.attach_call hn hdf fun w s₀ s₁ mg mb fa o pm cd doc a vs ns G Y ho hd hcd hmg hobj hints hlen hg => ?_
  obtain ⟨K, fd, KX, hsys, hb, hF⟩ := Fn w mg fa _ Y G.T.g hmg
  exact law_data KX G.T.g G.T.b G.T.builtins G.T.nolimit hg hobj hints hlen hn2 hr hsys hF hb
/-- the head's facts, and that the modules' dict stands -/
def sysB (g : Addr → Option Obj) : Bool := match g sysModules with
  | some ⟨_, _, .dict _ _, _⟩ => true
  | _ => false
theorem sysB_of {h : Heap} (e : sysB h.get? = true) : SysD h := by
  unfold sysB at e
  split at e
  · rename_i c di es ep sl z
    exact ⟨_, es, ep, z, rfl⟩
  · cases e
def hookS (n : Nat) (fa : List He.Fa) (fn : List He.FnD) : PySem.W.Hook where
  α := He.Al × Bool
  obs := fun s => (He.obsG n fa fn s.heap.get?, sysB s.heap.get?)
  val := fun _ => (He.valE fn, true)
  says := fun _ h => (∃ K : PySem.W.Frag, K.In h ∧ He.SaysE fa fn K) ∧ SysD h
  of := fun w s e => ⟨(He.hookE n fa fn).of w s (congrArg Prod.fst e), sysB_of (congrArg Prod.snd e)⟩
  keeps := fun w h h' ⟨a, o, es, ep, e, d⟩ k => ⟨(He.hookE n fa fn).keeps w h h' a k, o, es, ep, k _ _ e, d⟩
theorem obsS_eq {n : Nat} {fa : List He.Fa} {fn : List He.FnD} {g : Addr → Option Obj} {s : Shared} (h : ∀ a, g a = s.heap.get? a) : (He.obsG n fa fn g, sysB g) = (hookS n fa fn).obs s := by
  have e : g = s.heap.get? := funext h
  rw [e] <;> rfl
end DL

/-! The data layer, part 9: repr; sums. -/
namespace DL
variable {Z : Zx}
open PySem PySem.Spec PyProof.Rows L2
open Evl (Ex)

mutual
/-- leaves that can be shown -/
def rp : PyData → Bool
  | .none => true
  | .bool _ => true
  | .int i => decide (i.natAbs < 10 ^ 250)
  | .str x => x.cps.toList.all fun c => decide (c < 16 ^ 8)
  | .list xs => rpAll xs
  | .tuple xs => rpAll xs
  | .dict kvs => kvs.isEmpty
def rpAll : List PyData → Bool
  | [] => true
  | x :: xs => rp x && rpAll xs
end
theorem int_short {i : Int} (h : i.natAbs < 10 ^ 250) : (PyData.shown (.int i)).length ≤ 300 := by
  have e := int_text_length_le10 (k := 250) (by decide) h
  clear h
  show (Str.ofString (toString i)).length ≤ 300
  rw [PySem.ofString_length]
  omega
mutual
theorem rp_short : ∀ {d : PyData}, rp d = true → d.leavesShort 300 = true ∧ d.showable = true
  | .none, _ => ⟨by simp [PyData.leavesShort], by simp [PyData.showable]⟩
  | .bool _, _ => ⟨by simp [PyData.leavesShort], by simp [PyData.showable]⟩
  | .int i, h => by
    have h1 : i.natAbs < 10 ^ 250 := by simpa only [rp, decide_eq_true_eq] using h
    refine ⟨?_, ?_⟩
    · simp only [PyData.leavesShort, decide_eq_true_eq]
      exact int_short h1
    · simp only [PyData.showable, decide_eq_true_eq]
      exact Nat.lt_trans (log250 h1) (by decide)
  | .str x, h => by
    refine ⟨?_, by simp [PyData.showable]⟩
    simpa only [rp, PyData.leavesShort] using h
  | .list xs, h => by
    have := rp_shortAll (by simpa only [rp] using h : rpAll xs = true)
    simpa only [PyData.leavesShort, PyData.showable] using this
  | .tuple xs, h => by
    have := rp_shortAll (by simpa only [rp] using h : rpAll xs = true)
    simpa only [PyData.leavesShort, PyData.showable] using this
  | .dict [], h => ⟨by simp [PyData.leavesShort, PyData.leavesShortKv], by simp [PyData.showable, PyData.showableKv]⟩
  | .dict (_ :: _), h => by simp [rp] at h
theorem rp_shortAll : ∀ {ds : List PyData}, rpAll ds = true → PyData.leavesShortAll 300 ds = true ∧ PyData.showableAll ds = true
  | [], _ => ⟨by simp [PyData.leavesShortAll], by simp [PyData.showableAll]⟩
  | d :: ds, h => by
    simp only [rpAll, Bool.and_eq_true] at h
    obtain ⟨a1, a2⟩ := rp_short h.1
    obtain ⟨b1, b2⟩ := rp_shortAll h.2
    exact ⟨by simp [PyData.leavesShortAll, a1, b1], by simp [PyData.showableAll, a2, b2]⟩
end
theorem rp_len {d : PyData} (h : rp d = true) (hb : d.bulk ≤ 50000) : d.shown.length ≤ sizeLine := by
  have h1 := PyData.shown_le_bulk 300 (by decide) d (rp_short h).1
  have h2 : (300 + 2) * d.bulk ≤ 302 * 50000 := Nat.mul_le_mul_left _ hb
  rw [sizeLine_eq]
  omega
section
variable {X : Cx} {K : PySem.W.Frag} {e : Expr} {es : List Expr} {p pos : Pos} {was : DA} {k : Nat}
theorem no_sys (hB : SysD X.base) {pins : List (Addr × Obj)} {σ : L2.St} {H : Hp} {s : Shared} (I : Inv X pins σ H s) {a : Addr} {o : Obj} {its : Array Value} {n : Nat} (h : s.heap.get? a = some o) (hd : o.data = .seq its n) : sysModules ≠ a := fun e => by
  subst e
  obtain ⟨o', es, ep, h1, h2⟩ := hB
  have := I.bk _ _ h1
  rw [h] at this
  cases this
  rw [hd] at h2
  cases h2
mutual
theorem DR.readsS (hB : SysD X.base) {pins : List (Addr × Obj)} {σ : L2.St} {H : Hp} {s : Shared} (I : Inv X pins σ H s) : ∀ (d : PyData) (v : V) (u : Value), DR X.K H v d → rp d = true → RelV v u → ∃ as, Reads s.heap u d as ∧ sysModules ∉ as
  | .none, _, _, h, _, r => by
    cases h
    cases r
    exact ⟨_, Reads.none, by simp⟩
  | .bool b, _, _, h, _, r => by
    cases h
    cases r
    exact ⟨_, Reads.bool b, by simp⟩
  | .int i, _, _, h, _, r => by
    cases h
    obtain ⟨t, rfl⟩ := r
    exact ⟨_, Reads.int i t, by simp⟩
  | .str x, _, _, h, _, r => by
    cases h
    obtain ⟨t, rfl⟩ := r
    exact ⟨_, Reads.str x t, by simp⟩
  | .list ds, _, _, h, hr, r => by
    cases h with
    | lst hs ha =>
      cases r
      obtain ⟨_, its, n, rv, ho⟩ := hs.obj I
      obtain ⟨as, q, hn⟩ := DRs.readsS hB I ds _ its ha (by simpa only [rp] using hr) rv
      refine ⟨_, Reads.list ho rfl rfl q, fun hm => ?_⟩
      rcases List.mem_cons.mp hm with e | hm
      · exact no_sys hB I ho rfl e
      · exact hn hm
  | .tuple ds, _, _, h, hr, r => by
    cases h with
    | tup hs ha =>
      cases r
      obtain ⟨its, rv, ⟨o, ho, hc, n, hd⟩, _⟩ := I.tuple hs
      obtain ⟨as, q, hn⟩ := DRs.readsS hB I ds _ its ha (by simpa only [rp] using hr) rv
      exact ⟨_, Reads.tuple ho hc hd q, hn⟩
  | .dict [], _, _, h, _, r => by
    cases h with
    | dct hs =>
      rename_i a
      cases r
      obtain ⟨_, hsm, vs, rel, dd⟩ := dk_of I.hok hs
      cases rel
      obtain ⟨o, es, ep, ho, hx, hd, hes⟩ : ∃ o es ep, s.heap.get? a = some o ∧ o.cls = .type "dict" ∧ o.data = .dict es ep ∧ es.toList = [] := by
        obtain ⟨o, es, ep, ho, hx, hd, _, hp, _⟩ := dd
        refine ⟨o, es, ep, ho, ?_, hd, ?_⟩
        · first | exact hx.1 | exact hx
        · have := hp.length
          exact List.eq_nil_of_length_eq_zero (by simpa using this)
      refine ⟨_, Reads.dict (as := []) (bs := []) ho hx hd (by rw [hes]; exact .nil) (by rw [hes]; exact .nil), fun hm => ?_⟩
      rcases List.mem_cons.mp hm with e | hm
      · rw [← e] at hsm
        simp at hsm
      · simp at hm
  | .dict (_ :: _), _, _, _, hr, _ => by simp [rp] at hr
theorem DRs.readsS (hB : SysD X.base) {pins : List (Addr × Obj)} {σ : L2.St} {H : Hp} {s : Shared} (I : Inv X pins σ H s) : ∀ (ds : List PyData) (vs : List V) (us : List Value), DRs X.K H vs ds → rpAll ds = true → Vals vs us → ∃ as, ReadsAll s.heap us ds as ∧ sysModules ∉ as
  | [], _, _, h, _, r => by
    cases h
    cases r
    exact ⟨_, ReadsAll.nil, by simp⟩
  | d :: ds, _, _, h, hr, r => by
    simp only [rpAll, Bool.and_eq_true] at hr
    cases h with
    | cons h1 h2 =>
      cases r with
      | cons r1 r2 =>
        obtain ⟨as, q1, n1⟩ := DR.readsS hB I d _ _ h1 hr.1 r1
        obtain ⟨bs, q2, n2⟩ := DRs.readsS hB I ds _ _ h2 hr.2 r2
        exact ⟨_, ReadsAll.cons q1 q2, fun hm => (List.mem_append.mp hm).elim n1 n2⟩
end
def rRepr (K : PySem.W.Frag) : List V → Hp → VK → Prop := fun xs H Q => ∃ x d, xs = [x] ∧ DR K H x d ∧ rp d = true ∧ d.depth ≤ 40 ∧ d.shown.length ≤ sizeLine ∧ Q (.str d.shown) H
theorem call_repr (hB : SysD X.base) (hg : X.A.guards = some []) (hu : X.A.units + 64 < cLine) : CallR X (.builtin "repr") (rRepr X.K) := by
  intro pins s σ H xs us Q I r h
  obtain ⟨x, d, rfl, dp, hr, hdep, hz, q⟩ := h
  obtain ⟨u, rfl, rx⟩ := vals1 r
  have hs := (rp_short hr).2
  have big : ∀ a, u = .ref a → wpAny (model X.prog X.w) X.A (call (.builtin "repr") [u]) (EP X pins σ Q) X.xe s := fun a ea => by
    obtain ⟨as, rd, hn⟩ := DR.readsS hB I d x u dp hr rx
    subst ea
    exact repr_of_reads' rd hs (fun _ => hn) hg (by omega) (fun _ _ e => e) (fun h' t tk kk => ⟨.str d.shown, H, I.kept kk, ⟨_, rfl⟩, q⟩) hz
  cases dp with
  | non =>
    cases rx
    exact PySem.P.repr_of_none ⟨.str _, H, I.tok _, ⟨_, rfl⟩, q⟩
  | bl b =>
    cases rx
    exact PySem.P.repr_of_bool ⟨.str _, H, I.tok _, ⟨_, rfl⟩, (by cases b <;> exact q)⟩
  | int i =>
    obtain ⟨t, rfl⟩ := rx
    exact PySem.P.repr_of_int (by simpa only [PyData.showable, decide_eq_true_eq] using hs) ⟨.str _, H, I.tok _, ⟨_, rfl⟩, q⟩
  | str z =>
    obtain ⟨t, rfl⟩ := rx
    exact PySem.P.repr_of_str ⟨.str _, H, I.tok _, ⟨_, rfl⟩, q⟩ hz
  | lst _ _ => cases rx; exact big _ rfl
  | tup _ _ => cases rx; exact big _ rfl
  | dct _ => cases rx; exact big _ rfl
  | row _ _ => simp [rp] at hr
  | exc _ _ => simp [rp] at hr
def nRepr (xs : List PyData) (P : PyData → Prop) : Prop := match xs with
  | [d] => (rp d = true ∧ d.bulk ≤ 50000 ∧ d.depth ≤ 40) ∧ P (.str d.shown)
  | _ => False
theorem drepr (hB : SysD X.base) (hm : X.mg "repr" = none) (hr : Room k X.A) (hA : X.A.guards = some []) (ha : PA X (e :: es) (liftA X.K Z was)) (hg : Gl X "repr" := by rfl)
    (he : starEach (e :: es) X.env = (false, eval e X.env) :: starEach es X.env := by rfl) (hpl : (backTo pos (starEach es X.env)).any (·.1) = false := by rfl) : PE X (.Call (.Name "repr" p) (e :: es) [] pos) (liftE X.K Z (dB nRepr was)) :=
  dcb (call_repr hB hA hr.units) (fun _ g F env σ H vs ds P Q k r f q => by
    unfold nRepr at f
    split at f
    · obtain ⟨v, rfl, r0⟩ := r.inv1
      obtain ⟨⟨h1, h2, h3⟩, f⟩ := f
      exact ⟨v, _, rfl, drH k r0, h1, h3, rp_len h1 h2, q _ _ F H f (Ex.refl F) k (.str _)⟩
    · exact f.elim) hm (by decide +kernel) ha hg (by decide) (by decide) he hpl
/-- sum of a list, of a tuple of whole numbers -/
def rSumD (K : PySem.W.Frag) : List V → Hp → VK → Prop := fun vs H Q => ∃ (a : Addr) (ns : List Int), vs = [.ref a] ∧ (SqL K H a (ns.map V.int) ∨ SqT K H a (ns.map V.int)) ∧ Q (.int ns.sum) H
theorem call_sumD (hc : X.calm = true) : CallR X (.builtin "sum") (rSumD X.K) := by
  intro pins s σ H xs us Q I r h
  obtain ⟨a, ns, rfl, h | h, q⟩ := h
  · exact cr_sum hc pins s σ H _ us Q I r ⟨a, ns, rfl, h, q⟩
  · cases r.ref1
    obtain ⟨its, rv, ht, hz⟩ := I.tuple h
    have hi := rv.ints
    obtain ⟨xs, hx⟩ := hi.allInts.items
    have hn : numsOf its.toArray.toList = ns := by rw [show its.toArray.toList = its from rfl, hi.numsOf]
    have ht2 : s.heap.IsTuple a its.toArray := ht
    rw [hx] at ht2 hn
    rw [nums_intItems] at hn
    refine PySem.W.ktm_sumG (I.ok.hd hc) ht2 fun h' tk t' hk => ?_
    rw [preSum_eq, List.take_of_length_le (by simp), hn]
    exact ⟨.int ns.sum, H, I.kept hk, ⟨_, rfl⟩, q⟩
def nSum (xs : List PyData) (P : PyData → Prop) : Prop := match xs with
  | [.list ds] => (match intsD ds with | some ns => P (.int ns.sum) | none => False)
  | [.tuple ds] => (match intsD ds with | some ns => P (.int ns.sum) | none => False)
  | _ => False
theorem dsum (hm : X.mg "sum" = none) (hc : X.calm = true) (ha : PA X (e :: es) (liftA X.K Z was)) (hg : Gl X "sum" := by rfl)
    (he : starEach (e :: es) X.env = (false, eval e X.env) :: starEach es X.env := by rfl) (hpl : (backTo pos (starEach es X.env)).any (·.1) = false := by rfl) : PE X (.Call (.Name "sum" p) (e :: es) [] pos) (liftE X.K Z (dB nSum was)) :=
  dcb (call_sumD hc) (fun _ g F env σ H vs ds P Q k r f q => by
    unfold nSum at f
    split at f
    · split at f
      · rename_i ns e
        obtain ⟨v, rfl, r0⟩ := r.inv1
        obtain ⟨a, us, rfl, h1, h2⟩ := r0.inv_lst
        cases ints_rel h2 e
        exact ⟨a, ns, rfl, .inl (h1.mono k.fh).sq, q _ _ F H f (Ex.refl F) k (.int _)⟩
      · exact f.elim
    · split at f
      · rename_i ns e
        obtain ⟨v, rfl, r0⟩ := r.inv1
        obtain ⟨a, us, rfl, h1, h2⟩ := r0.inv_tup
        cases ints_rel h2 e
        exact ⟨a, ns, rfl, .inr (Evl.ex_t k.fh h1), q _ _ F H f (Ex.refl F) k (.int _)⟩
      · exact f.elim
    · exact f.elim) hm (by decide +kernel) ha hg (by decide) (by decide) he hpl
end
end DL

/-! The data layer, part 10: loops and comprehensions read as data. -/
namespace DL
variable {Z : Zx}
open PySem PySem.Spec PyProof.Rows L2

section
variable {I S : Type}
theorem qFor_go {b : PyData → I → S → (I → S → Prop) → (I → S → Prop) → Prop} {items : List PyData} {i : I} {K : S → Prop} (Inv : Nat → S → Prop)
    (step : ∀ (k : Nat) (d : PyData) (s : S) (nx : I → S → Prop), items[k]? = some d → Inv k s → (∀ s', Inv (k + 1) s' → nx i s') → b d i s nx (same i K))
    (fin : ∀ s, Inv items.length s → K s) : ∀ (m k : Nat) (s : S), k + m = items.length → Inv k s → qFor b i (items.drop k) s K
  | 0, k, s, hm, h => by
    have e : k = items.length := by omega
    subst e
    rw [List.drop_length]
    exact fin s h
  | m + 1, k, s, hm, h => by
    have hk : k < items.length := by omega
    rw [List.drop_eq_getElem_cons hk]
    exact step k _ s _ (by simp [hk]) h fun s' h' => ⟨rfl, qFor_go Inv step fin m (k + 1) s' (by omega) h'⟩
/-- a for, by what holds ahead of each turn -/
theorem qFor_ind {b : PyData → I → S → (I → S → Prop) → (I → S → Prop) → Prop} {items : List PyData} {i : I} {s : S} {K : S → Prop} (Inv : Nat → S → Prop) (h0 : Inv 0 s)
    (step : ∀ (k : Nat) (d : PyData) (s : S) (nx : I → S → Prop), items[k]? = some d → Inv k s → (∀ s', Inv (k + 1) s' → nx i s') → b d i s nx (same i K))
    (fin : ∀ s, Inv items.length s → K s) : qFor b i items s K := qFor_go Inv step fin items.length 0 s (by omega) h0
/-- a for over a range -/
theorem qFor_range {b : PyData → I → S → (I → S → Prop) → (I → S → Prop) → Prop} {lo : Int} {n : Nat} {i : I} {s : S} {K : S → Prop} (Inv : Nat → S → Prop) (h0 : Inv 0 s)
    (step : ∀ (k : Nat) (s : S) (nx : I → S → Prop), k < n → Inv k s → (∀ s', Inv (k + 1) s' → nx i s') → b (.int (lo + k)) i s nx (same i K))
    (fin : ∀ s, Inv n s → K s) : qFor b i (rangeD lo n) s K := by
  have hl : (rangeD lo n).length = n := by simp [rangeD]
  refine qFor_ind Inv h0 (fun k d s nx hd hi hn => ?_) fun s h => fin s (by rwa [hl] at h)
  unfold rangeD at hd
  rw [List.getElem?_map] at hd
  by_cases hk : k < n
  · rw [List.getElem?_range hk] at hd
    cases hd
    exact step k s nx hk hi hn
  · rw [List.getElem?_eq_none (by simp; omega)] at hd
    cases hd
/-- a for whose turns carry nothing -/
theorem qFor_all {b : PyData → I → S → (I → S → Prop) → (I → S → Prop) → Prop} {items : List PyData} {i : I} {s : S} {K : S → Prop} (Inv : S → Prop) (h0 : Inv s)
    (step : ∀ (d : PyData) (s : S) (nx : I → S → Prop), d ∈ items → Inv s → (∀ s', Inv s' → nx i s') → b d i s nx (same i K)) (fin : ∀ s, Inv s → K s) : qFor b i items s K :=
  qFor_ind (fun _ s => Inv s) h0 (fun _ d s nx hd hi hn => step d s nx (List.mem_of_getElem? hd) hi hn) fun s h => fin s h
theorem qWhile_go {b : I → S → (I → S → Prop) → (I → S → Prop) → Prop} {i : I} {K : S → Prop} (Inv : Nat → S → Prop)
    (step : ∀ (m : Nat) (s : S) (nx : I → S → Prop), Inv m s → (∀ m' s', m' < m → Inv m' s' → nx i s') → b i s nx (same i K)) : ∀ (n m : Nat) (s : S), m < n → Inv m s → qWhileN b i n s K
  | 0, _, _, h, _ => absurd h (Nat.not_lt_zero _)
  | n + 1, m, s, h, hi => step m s _ hi fun m' s' hm hi' => ⟨rfl, qWhile_go Inv step n m' s' (by omega) hi'⟩
/-- a while, by a measure that falls -/
theorem qWhile_ind {b : I → S → (I → S → Prop) → (I → S → Prop) → Prop} {i : I} {s : S} {K : S → Prop} (Inv : Nat → S → Prop) {m : Nat} (h0 : Inv m s)
    (step : ∀ (m : Nat) (s : S) (nx : I → S → Prop), Inv m s → (∀ m' s', m' < m → Inv m' s' → nx i s') → b i s nx (same i K)) : qWhile b i s K := ⟨m + 1, qWhile_go Inv step (m + 1) m s (Nat.lt_succ_self m) h0⟩
theorem qLc_go {b : PyData → I → S → (I → S → Prop) → (PyData → I → S → Prop) → Prop} {items : List PyData} {i : I} {K : List PyData → S → Prop} (Inv : Nat → List PyData → S → Prop)
    (step : ∀ (k : Nat) (d : PyData) (acc : List PyData) (s : S) (sk : I → S → Prop) (yd : PyData → I → S → Prop), items[k]? = some d → Inv k acc s → (∀ s', Inv (k + 1) acc s' → sk i s') →
      (∀ y s', acc.length < 100000 → Inv (k + 1) (acc ++ [y]) s' → yd y i s') → b d i s sk yd) (hz : ∀ k acc s, k < items.length → Inv k acc s → acc.length < 100000)
    (fin : ∀ acc s, Inv items.length acc s → K acc s) : ∀ (m k : Nat) (acc : List PyData) (s : S), k + m = items.length → Inv k acc s → qLc b i (items.drop k) acc s K
  | 0, k, acc, s, hm, h => by
    have e : k = items.length := by omega
    subst e
    rw [List.drop_length]
    exact fin acc s h
  | m + 1, k, acc, s, hm, h => by
    have hk : k < items.length := by omega
    rw [List.drop_eq_getElem_cons hk]
    exact step k _ acc s _ _ (by simp [hk]) h (fun s' h' => ⟨rfl, qLc_go Inv step hz fin m (k + 1) acc s' (by omega) h'⟩) fun y s' hl h' => ⟨rfl, hz k acc s hk h, qLc_go Inv step hz fin m (k + 1) (acc ++ [y]) s' (by omega) h'⟩
/-- a comprehension, by what holds ahead of each turn -/
theorem qLc_ind {b : PyData → I → S → (I → S → Prop) → (PyData → I → S → Prop) → Prop} {items : List PyData} {i : I} {s : S} {K : List PyData → S → Prop} (Inv : Nat → List PyData → S → Prop) (h0 : Inv 0 [] s)
    (hz : ∀ k acc s, k < items.length → Inv k acc s → acc.length < 100000)
    (step : ∀ (k : Nat) (d : PyData) (acc : List PyData) (s : S) (sk : I → S → Prop) (yd : PyData → I → S → Prop), items[k]? = some d → Inv k acc s → (∀ s', Inv (k + 1) acc s' → sk i s') →
      (∀ y s', Inv (k + 1) (acc ++ [y]) s' → yd y i s') → b d i s sk yd)
    (fin : ∀ acc s, Inv items.length acc s → K acc s) : qLc b i items [] s K :=
  qLc_go Inv (fun k d acc s sk yd hd hi h1 h2 => step k d acc s sk yd hd hi h1 fun y s' h => h2 y s' (hz k acc s (List.getElem?_eq_some_iff.mp hd).1 hi) h) hz fin items.length 0 [] s (by omega) h0
/-- each item gives one, a state is carried -/
theorem qLc_each {b : PyData → I → S → (I → S → Prop) → (PyData → I → S → Prop) → Prop} {items : List PyData} {i : I} {s : S} {K : List PyData → S → Prop} (T : PyData → Prop) (Inv : Nat → S → Prop) (h0 : Inv 0 s) (hz : items.length ≤ 100000)
    (step : ∀ (k : Nat) (d : PyData) (s : S) (sk : I → S → Prop) (yd : PyData → I → S → Prop), items[k]? = some d → Inv k s → (∀ y s', T y → Inv (k + 1) s' → yd y i s') → b d i s sk yd)
    (fin : ∀ acc s, acc.length = items.length → (∀ y ∈ acc, T y) → Inv items.length s → K acc s) : qLc b i items [] s K :=
  qLc_ind (fun k acc s => acc.length = k ∧ (∀ y ∈ acc, T y) ∧ Inv k s) ⟨rfl, by simp, h0⟩ (fun k acc s hk h => by have := h.1; omega) (fun k d acc s sk yd hd ⟨h1, h2, h3⟩ _ hy => step k d s sk yd hd h3 fun y s' ty h' => hy y s' ⟨by simp [h1], fun z hz => by
    rcases List.mem_append.mp hz with hz | hz
    · exact h2 z hz
    · rw [List.mem_singleton.mp hz]; exact ty, h'⟩) fun acc s ⟨h1, h2, h3⟩ => fin acc s h1 h2 h3
/-- [f x for x in items], nothing changed -/
theorem qLc_map {b : PyData → I → S → (I → S → Prop) → (PyData → I → S → Prop) → Prop} {items : List PyData} {i : I} {s : S} {K : List PyData → S → Prop} (f : PyData → PyData) (hz : items.length ≤ 100000)
    (step : ∀ d ∈ items, ∀ (sk : I → S → Prop) (yd : PyData → I → S → Prop), yd (f d) i s → b d i s sk yd) (fin : K (items.map f) s) : qLc b i items [] s K :=
  qLc_ind (fun k acc s' => acc = (items.take k).map f ∧ s' = s) ⟨by simp, rfl⟩ (fun k acc s' hk h => by rw [h.1]; simp; omega)
    (fun k d acc s' sk yd hd ⟨h1, h2⟩ _ hy => by
      subst h2
      refine step d (List.mem_of_getElem? hd) sk yd (hy _ _ ⟨?_, rfl⟩)
      rw [List.take_add_one, hd, h1]
      simp) fun acc s' ⟨h1, h2⟩ => by
      subst h1 h2
      rw [List.take_length]
      exact fin
/-- [.. for x in items if ..], nothing changed -/
theorem qLc_fmap {b : PyData → I → S → (I → S → Prop) → (PyData → I → S → Prop) → Prop} {items : List PyData} {i : I} {s : S} {K : List PyData → S → Prop} (f : PyData → Option PyData) (hz : items.length ≤ 100000)
    (step : ∀ d ∈ items, ∀ (sk : I → S → Prop) (yd : PyData → I → S → Prop), (∀ y, f d = some y → yd y i s) → (f d = none → sk i s) → b d i s sk yd) (fin : K (items.filterMap f) s) : qLc b i items [] s K :=
  qLc_ind (fun k acc s' => acc = (items.take k).filterMap f ∧ s' = s) ⟨by simp, rfl⟩ (fun k acc s' hk h => by
      rw [h.1]
      exact Nat.lt_of_le_of_lt (List.length_filterMap_le f _) (by simp; omega))
    (fun k d acc s' sk yd hd ⟨h1, h2⟩ hs hy => by
      subst h2
      refine step d (List.mem_of_getElem? hd) sk yd (fun y e => hy _ _ ⟨?_, rfl⟩) fun e => hs _ ⟨?_, rfl⟩
      · rw [List.take_add_one, hd, h1]
        simp [e]
      · rw [List.take_add_one, hd, h1]
        simp [e]) fun acc s' ⟨h1, h2⟩ => by
      subst h1 h2
      rw [List.take_length]
      exact fin
end
theorem ixN_in {n : Nat} {k : Int} (h0 : 0 ≤ k) (h1 : k < n) : ixN n k = some k.toNat := by
  unfold ixN
  rw [if_pos h0, if_pos h1]
theorem atI_in {xs : List PyData} {k : Int} (h0 : 0 ≤ k) (h1 : k < xs.length) : ∃ d, atI xs k = some d ∧ d ∈ xs := by
  unfold atI
  rw [ixN_in h0 h1]
  have hk : k.toNat < xs.length := by omega
  exact ⟨xs[k.toNat], by simp [hk], List.getElem_mem hk⟩
theorem at_of {xs : List PyData} {k : Int} {P : PyData → Prop} (h0 : 0 ≤ k) (h1 : k < xs.length) (h : ∀ d ∈ xs, P d) : pick xs k P := by
  obtain ⟨d, e, m⟩ := atI_in h0 h1
  unfold pick
  rw [e]
  exact h d m
theorem pick_at {xs : List PyData} {k : Nat} {P : PyData → Prop} {d : PyData} (e : xs[k]? = some d) (h : P d) : pick xs (k : Int) P := by
  unfold pick atI
  rw [ixN_in (by omega) (by have := (List.getElem?_eq_some_iff.mp e).1; omega)]
  show match xs[(k : Int).toNat]? with | some d => P d | none => False
  rw [Int.toNat_natCast, e]
  exact h
theorem pick_eq {xs : List PyData} {k : Int} {P : PyData → Prop} {d : PyData} (e : atI xs k = some d) : pick xs k P = P d := by
  unfold pick
  rw [e]
theorem range_get {lo : Int} {n i : Nat} {d : PyData} (h : (rangeD lo n)[i]? = some d) : i < n ∧ d = .int (lo + i) := by
  unfold rangeD at h
  rw [List.getElem?_map] at h
  by_cases hi : i < n
  · rw [List.getElem?_range hi] at h
    cases h
    exact ⟨hi, rfl⟩
  · rw [List.getElem?_eq_none (by simp; omega)] at h
    cases h
theorem range_len {lo : Int} {n : Nat} : (rangeD lo n).length = n := by simp [rangeD]
end DL

/-! The data layer, part 11: slices, tuple(..), list(..), int(..), enumerate. -/
namespace DL
variable {Z : Zx}
open PySem PySem.Spec PyProof.Rows L2
open Evl (Ex)

section
variable {X : Cx} {a b e : Expr} {es : List Expr} {we wa wb : DE} {was : DA} {pos p2 p : Pos} {K : PySem.W.Frag}
/-! ### slices -/
abbrev DO := List SD → (Option Int → List SD → Prop) → Prop
def liftO (K : PySem.W.Frag) (Z : Zx) (w : DO) : TO := fun σ H Q => ∃ (g : Gx Z) (F : Hp) (env : List SD) (P : Option Int → List SD → Prop), Ok K g F env σ H ∧ w env P ∧
  ∀ o env' F' H', P o env' → Ex F F' → Ok K g F' env' σ H' → Q o H'
theorem PO.of {e : Option Expr} {t t' : TO} (h : PO X e t) (w : ∀ σ H Q, t' σ H Q → t σ H Q) : PO X e t' := ⟨fun pins s σ H Q I q => h.run pins s σ H Q I (w σ H Q q)⟩
def dNo (env : List SD) (P : Option Int → List SD → Prop) : Prop := P none env
def soQ (x : PyData) (K : Option Int → Prop) : Prop := match x with
  | .int i => K (some i)
  | _ => False
def dSo (w : DE) (env : List SD) (P : Option Int → List SD → Prop) : Prop := w env fun x env' => soQ x fun o => P o env'
theorem so_none : PO X none (liftO X.K Z dNo) := PO.of po_none fun σ H Q ⟨g, F, env, P, k, w, q⟩ => q none env F H w (Ex.refl F) k
theorem so_some (h : PE X e (liftE X.K Z we)) : PO X (some e) (liftO X.K Z (dSo we)) := PO.of (po_some h) fun σ H Q ⟨g, F, env, P, k, w, q⟩ =>
  ⟨g, F, env, _, k, w, fun d env1 v F1 H1 p e1 k1 r1 => by
    unfold soQ at p
    split at p
    · cases r1.inv_int
      exact ⟨_, rfl, q _ env1 F1 H1 p e1 k1⟩
    · exact p.elim⟩
/-- the items of ds[lo:hi] -/
def cutD (ds : List PyData) (lo hi : Option Int) : List PyData := (ds.drop (HT.sIx ds.length 0 lo)).take (HT.sIx ds.length ds.length hi - HT.sIx ds.length 0 lo)
theorem DRs.cut {H : Hp} {vs : List V} {ds : List PyData} (lo hi : Option Int) (h : DRs K H vs ds) : DRs K H (cutV vs lo hi) (cutD ds lo hi) := by
  unfold cutV cutD
  rw [h.length]
  exact (h.drop _).take _
def oSl (x : PyData) (lo hi : Option Int) (P : PyData → Prop) : Prop := match x with
  | .tuple ds => P (.tuple (cutD ds lo hi))
  | .list ds => P (.list (cutD ds lo hi))
  | .str z => z.length ≤ 100000 ∧ P (.str (cutS z lo hi))
  | _ => False
def dSl (w : DE) (l h : DO) (env : List SD) (P : PyData → List SD → Prop) : Prop := w env fun x env1 => l env1 fun lo env2 => h env2 fun hi env3 => oSl x lo hi fun d => P d env3
theorem cutV_whole {xs : List V} {lo hi : Option Int} (h : HT.sIx xs.length 0 lo = 0 ∧ HT.sIx xs.length xs.length hi = xs.length) : cutV xs lo hi = xs := by
  unfold cutV
  rw [h.1, h.2]
  simp
theorem cutD_whole {xs : List PyData} {lo hi : Option Int} (h : HT.sIx xs.length 0 lo = 0 ∧ HT.sIx xs.length xs.length hi = xs.length) : cutD xs lo hi = xs := by
  unfold cutD
  rw [h.1, h.2]
  simp
theorem dsl {l u : Option Expr} {tl tu : DO} (he : PE X e (liftE X.K Z we)) (hl : PO X l (liftO X.K Z tl)) (hu : PO X u (liftO X.K Z tu)) : PE X (.Subscript e (.Slice l u none p2) pos) (liftE X.K Z (dSl we tl tu)) :=
  PE.of (pe_slice (SlR.or sl_tupA (SlR.or sl_list sl_str)) he hl hu) fun σ H Q ⟨g, F, env, P, k, w, q⟩ =>
    ⟨g, F, env, _, k, w, fun d env1 v F1 H1 p e1 k1 r1 => ⟨g, F1, env1, _, k1, p, fun lo env2 F2 H2 p2 e2 k2 => ⟨g, F2, env2, _, k2, p2, fun hi env3 F3 H3 p3 e3 k3 => by
      have r3 := (r1.mono e2).mono e3
      have e13 := e1.trans (e2.trans e3)
      unfold oSl at p3
      split at p3
      · rename_i ds
        obtain ⟨a, us, rfl, h1, h2⟩ := r3.inv_tup
        refine .inl ⟨a, us, rfl, Evl.ex_t k3.fh h1, fun hw => ?_, fun _ x hx => ?_⟩
        · rw [h2.length] at hw
          rw [cutD_whole hw] at p3
          exact q _ env3 _ F3 H3 p3 e13 k3 r3
        · obtain ⟨e4, k4, r4⟩ := k3.newTup hx (h2.cut lo hi)
          exact q _ env3 _ _ _ p3 (e13.trans e4) k4 r4
      · rename_i ds
        obtain ⟨a, us, rfl, h1, h2⟩ := r3.inv_lst
        refine .inr (.inl ⟨a, us, rfl, (h1.mono k3.fh).sq, fun x hx => ?_⟩)
        obtain ⟨e4, k4, r4⟩ := k3.newLst hx (h2.cut lo hi)
        exact q _ env3 _ _ _ p3 (e13.trans e4) k4 r4
      · cases r3.inv_str
        exact .inr (.inr ⟨_, rfl, sz2 p3.1, q _ env3 _ F3 H3 p3.2 e13 k3 (.str _)⟩)
      · exact p3.elim⟩⟩⟩
def lstQ (x : PyData) (K : List PyData → Prop) : Prop := match x with
  | .list ds => K ds
  | _ => False
/-- a slice of a list, as a new cell -/
def dSlN (w : DE) (l h : DO) (env : List SD) (P : SD → List SD → Prop) : Prop := w env fun x env1 => l env1 fun lo env2 => h env2 fun hi env3 => lstQ x fun ds => P (.cel false (cutD ds lo hi)) env3
theorem dslN {l u : Option Expr} {tl tu : DO} (he : PE X e (liftE X.K Z we)) (hl : PO X l (liftO X.K Z tl)) (hu : PO X u (liftO X.K Z tu)) : PE X (.Subscript e (.Slice l u none p2) pos) (liftX X.K Z (dSlN we tl tu)) :=
  PE.of (pe_slice sl_list he hl hu) fun σ H Q ⟨g, F, env, P, k, w, q⟩ =>
    ⟨g, F, env, _, k, w, fun d env1 v F1 H1 p e1 k1 r1 => ⟨g, F1, env1, _, k1, p, fun lo env2 F2 H2 p2 e2 k2 => ⟨g, F2, env2, _, k2, p2, fun hi env3 F3 H3 p3 e3 k3 => by
      have r3 := (r1.mono e2).mono e3
      unfold lstQ at p3
      split at p3
      · rename_i ds
        obtain ⟨a, us, rfl, h1, h2⟩ := r3.inv_lst
        refine ⟨a, us, rfl, (h1.mono k3.fh).sq, fun x hx => ?_⟩
        obtain ⟨k4, r4⟩ := k3.newCell hx (h2.cut lo hi)
        exact q _ env3 _ _ _ p3 (e1.trans (e2.trans e3)) k4 r4
      · exact p3.elim⟩⟩⟩
/-- a slice of a name's own cell, as a new cell -/
def dSlC (i : Nat) (l h : DO) (env : List SD) (P : SD → List SD → Prop) : Prop := match env[i]? with
  | some (.cel _ _) => l env fun lo env2 => h env2 fun hi env3 => match env3[i]? with
    | some (.cel _ xs) => P (.cel false (cutD xs lo hi)) env3
    | _ => False
  | _ => False
theorem dslC (i : Nat) {x : Str} {p0 : Pos} {l u : Option Expr} {tl tu : DO} (hl : PO X l (liftO X.K Z tl)) (hu : PO X u (liftO X.K Z tu)) (hN : X.N[i]? = some x := by rfl)
    (hv : Vis X.env.scope x := by first | exact Or.inl rfl | exact Or.inr (Or.inl rfl) | exact Or.inr (Or.inr rfl)) (hd : (x == ("__debug__" : Str)) = false := by decide) (hcd : (x == ("__classdict__" : Str)) = false := by decide) :
    PE X (.Subscript (.Name x p0) (.Slice l u none p2) pos) (liftX X.K Z (dSlC i tl tu)) :=
  PE.of (pe_slice sl_list (pe_var hN hv hd hcd) hl hu) fun σ H Q ⟨g, F, env, P, k, w, q⟩ => by
    unfold dSlC at w
    split at w
    · rename_i p xs e
      obtain ⟨a0, vs, h1, _⟩ := k.cel i p xs e
      refine ⟨_, h1, g, F, env, _, k, w, fun lo env2 F2 H2 p2 e2 k2 => ⟨g, F2, env2, _, k2, p2, fun hi env3 F3 H3 p3 e3 k3 => ?_⟩⟩
      split at p3
      · rename_i p' ys e'
        obtain ⟨a1, ws, z1, z2, z3, z4, z5⟩ := k3.cel i _ _ e'
        rw [h1] at z1
        cases z1
        refine ⟨a0, ws, rfl, SqL.of z3, fun x hx => ?_⟩
        obtain ⟨k4, r4⟩ := k3.newCell hx (z4.cut lo hi)
        exact q _ env3 _ _ _ p3 (e2.trans e3) k4 r4
      · exact p3.elim
    · exact w.elim

/-! ### int(..), tuple(..), list(..) -/
def nInt (xs : List PyData) (P : PyData → Prop) : Prop := match xs with
  | [.int i] => P (.int i)
  | [.bool i] => P (.int (if i then 1 else 0))
  | _ => False
theorem dintOf (hm : X.mg "int" = none) (ha : PA X (e :: es) (liftA X.K Z was)) (hg : Gl X "int" := by rfl)
    (he : starEach (e :: es) X.env = (false, eval e X.env) :: starEach es X.env := by rfl) (hpl : (backTo pos (starEach es X.env)).any (·.1) = false := by rfl) : PE X (.Call (.Name "int" p) (e :: es) [] pos) (liftE X.K Z (dB nInt was)) :=
  dct call_int1 (fun _ g F env σ H vs ds P Q k r f q => by
    unfold nInt at f
    split at f
    · obtain ⟨v, rfl, r0⟩ := r.inv1
      cases r0.inv_int
      exact .inl ⟨_, rfl, q _ _ F H f (Ex.refl F) k (.int _)⟩
    · obtain ⟨v, rfl, r0⟩ := r.inv1
      cases r0.inv_bool
      exact .inr ⟨_, rfl, q _ _ F H f (Ex.refl F) k (.int _)⟩
    · exact f.elim) hm (by decide +kernel) ha hg (by decide) (by decide) he hpl
def nTuple (xs : List PyData) (P : PyData → Prop) : Prop := match xs with
  | [.list ds] => P (.tuple ds)
  | [.tuple ds] => P (.tuple ds)
  | [.dict [(.none, .list ds)]] => P (.tuple ds)
  | _ => False
theorem call_tupleR : CallR X (.type "tuple") (fun xs H Q => ∃ x, xs = [x] ∧ kTup X.K x H Q) := by
  intro pins s σ H xs us Q I r h
  obtain ⟨x, rfl, q⟩ := h
  cases r with
  | cons r rr =>
    cases rr
    exact rl_tuple pins s σ H x _ Q I r q
theorem dtupleOf (hm : X.mg "tuple" = none) (ha : PA X (e :: es) (liftA X.K Z was)) (hg : Gl X "tuple" := by rfl)
    (he : starEach (e :: es) X.env = (false, eval e X.env) :: starEach es X.env := by rfl) (hpl : (backTo pos (starEach es X.env)).any (·.1) = false := by rfl) : PE X (.Call (.Name "tuple" p) (e :: es) [] pos) (liftE X.K Z (dB nTuple was)) :=
  dct call_tupleR (fun _ g F env σ H vs ds P Q k r f q => by
    unfold nTuple at f
    split at f
    · obtain ⟨v, rfl, r0⟩ := r.inv1
      obtain ⟨a, us, rfl, h1, h2⟩ := r0.inv_lst
      refine ⟨_, rfl, .inl ⟨a, us, rfl, (h1.mono k.fh).sq, fun x hx => ?_⟩⟩
      obtain ⟨e4, k4, r4⟩ := k.newTup hx h2
      exact q _ _ _ _ f e4 k4 r4
    · obtain ⟨v, rfl, r0⟩ := r.inv1
      obtain ⟨a, us, rfl, h1, h2⟩ := r0.inv_tup
      exact ⟨_, rfl, .inr ⟨a, us, rfl, Evl.ex_t k.fh h1, q _ _ F H f (Ex.refl F) k r0⟩⟩
    · obtain ⟨v, rfl, r0⟩ := r.inv1
      cases r0 with
      | row h1 h2 =>
        refine ⟨_, rfl, .inl ⟨_, _, rfl, SqL.of (k.fh _ _ h1), fun x hx => ?_⟩⟩
        obtain ⟨e4, k4, r4⟩ := k.newTup hx h2
        exact q _ _ _ _ f e4 k4 r4
    · exact f.elim) hm (by decide +kernel) ha hg (by decide) (by decide) he hpl
/-- tuple(xs) of a name's own cell -/
def dTupC (i : Nat) (env : List SD) (P : PyData → List SD → Prop) : Prop := match env[i]? with
  | some (.cel _ xs) => P (.tuple xs) env
  | _ => False
theorem dtupC (i : Nat) {x : Str} {p0 : Pos} (hm : X.mg "tuple" = none) (hN : X.N[i]? = some x := by rfl)
    (hv : Vis X.env.scope x := by first | exact Or.inl rfl | exact Or.inr (Or.inl rfl) | exact Or.inr (Or.inr rfl)) (hd : (x == ("__debug__" : Str)) = false := by decide) (hcd : (x == ("__classdict__" : Str)) = false := by decide) (hg : Gl X "tuple" := by rfl)
    (na : starEach [.Name x p0] X.env = (false, eval (.Name x p0) X.env) :: starEach [] X.env := by rfl) : PE X (.Call (.Name "tuple" p) [.Name x p0] [] pos) (liftE X.K Z (dTupC i)) :=
  PE.of (pe_tupleOf hg hm (pe_var hN hv hd hcd) na) fun σ H Q ⟨g, F, env, P, k, w, q⟩ => by
    unfold dTupC at w
    split at w
    · rename_i p xs e
      obtain ⟨a0, vs, h1, h2, h3, h4, h5⟩ := k.cel i p xs e
      refine ⟨_, h1, .inl ⟨a0, vs, rfl, SqL.of h3, fun x hx => ?_⟩⟩
      obtain ⟨e4, k4, r4⟩ := k.newTup hx h4
      exact q _ _ _ _ _ w e4 k4 r4
    · exact w.elim
/-- len(xs) of a name's own cell -/
def dLenC (i : Nat) (env : List SD) (P : PyData → List SD → Prop) : Prop := match env[i]? with
  | some (.cel _ xs) => P (.int (xs.length : Nat)) env
  | _ => False
theorem dlenC (i : Nat) {x : Str} {p0 : Pos} (hm : X.mg "len" = none) (hN : X.N[i]? = some x := by rfl)
    (hv : Vis X.env.scope x := by first | exact Or.inl rfl | exact Or.inr (Or.inl rfl) | exact Or.inr (Or.inr rfl)) (hd : (x == ("__debug__" : Str)) = false := by decide) (hcd : (x == ("__classdict__" : Str)) = false := by decide) (hg : Gl X "len" := by rfl)
    (na : starEach [.Name x p0] X.env = (false, eval (.Name x p0) X.env) :: starEach [] X.env := by rfl) (hpl : (backTo pos (starEach [] X.env)).any (·.1) = false := by rfl) : PE X (.Call (.Name "len" p) [.Name x p0] [] pos) (liftE X.K Z (dLenC i)) :=
  PE.of (pe_callB call_len hg hm PySem.boot_len (pa_cons (pe_var hN hv hd hcd) pa_nil na) (by decide) (by decide) na hpl) fun σ H Q ⟨g, F, env, P, k, w, q⟩ => by
    unfold dLenC at w
    split at w
    · rename_i p xs e
      obtain ⟨a0, vs, h1, h2, h3, h4, h5⟩ := k.cel i p xs e
      exact ⟨_, h1, _, vs.length, rfl, .inl ⟨vs, SqL.of h3, rfl⟩, by rw [h4.length]; exact q _ _ _ F H w (Ex.refl F) k (.int _)⟩
    · exact w.elim
def nList (xs : List PyData) (P : List PyData → Prop) : Prop := match xs with
  | [.list ds] => P ds
  | [.tuple ds] => P ds
  | _ => False
/-- list(..): a new cell -/
def dListOf (wa : DA) (env : List SD) (P : SD → List SD → Prop) : Prop := wa env fun xs env' => nList xs fun ds => P (.cel false ds) env'
theorem dlistOf (hm : X.mg "list" = none) (ha : PA X (e :: es) (liftA X.K Z was)) (hg : Gl X "list" := by rfl)
    (he : starEach (e :: es) X.env = (false, eval e X.env) :: starEach es X.env := by rfl) (hpl : (backTo pos (starEach es X.env)).any (·.1) = false := by rfl) : PE X (.Call (.Name "list" p) (e :: es) [] pos) (liftX X.K Z (dListOf was)) :=
  PE.of (pe_callTy call_list_of hg hm (by decide +kernel) ha (by decide) (by decide) he hpl) fun σ H Q ⟨g, F, env, P, k, w, q⟩ =>
    ⟨g, F, env, _, k, w, fun ds env1 vs F1 H1 p e1 k1 r1 => by
      unfold nList at p
      split at p
      · obtain ⟨v, rfl, r0⟩ := r1.inv1
        obtain ⟨a, us, rfl, h1, h2⟩ := r0.inv_lst
        refine ⟨a, us, rfl, .inl (h1.mono k1.fh).sq, fun x hx => ?_⟩
        obtain ⟨k4, r4⟩ := k1.newCell hx h2
        exact q _ _ _ _ _ p e1 k4 r4
      · obtain ⟨v, rfl, r0⟩ := r1.inv1
        obtain ⟨a, us, rfl, h1, h2⟩ := r0.inv_tup
        refine ⟨a, us, rfl, .inr (Evl.ex_t k1.fh h1), fun x hx => ?_⟩
        obtain ⟨k4, r4⟩ := k1.newCell hx h2
        exact q _ _ _ _ _ p e1 k4 r4
      · exact p.elim⟩
/-- a name's own cell stays as it is from here on, or its datum -/
def dFreeze2 (i : Nat) (w : DS) (E : DEnds) (env : List SD) : Prop := match env[i]? with
  | some (.cel false xs) => w E (env.set i (.dat (.list xs)))
  | some (.dat _) => w E env
  | _ => False
theorem ssfreeze2 {sts : List Stmt} {m : Nat} {w : DS} (i : Nat) (h : PSs X sts (liftS X.K Z m w)) : PSs X sts (liftS X.K Z m (dFreeze2 i w)) := PSs.of h fun D σ H ⟨g, F, env, P, k, w, q⟩ => by
  unfold dFreeze2 at w
  split at w
  · rename_i xs e
    obtain ⟨F', e1, k1⟩ := k.freeze e
    exact ⟨g, F', _, P, k1, w, q.ex e1⟩
  · exact ⟨g, F, env, P, k, w, q⟩
  · exact w.elim
end
end DL

/-! The data layer, part 12: xs[::-1]. -/
namespace DL
variable {Z : Zx}
open PySem PySem.Spec PyProof.Rows L2
open Evl (Ex)

section
variable {X : Cx} {a b e : Expr} {es : List Expr} {we wa wb : DE} {was : DA} {pos p p1 p2 p3 : Pos} {K : PySem.W.Frag}
theorem DRs.snoc {H : Hp} {v : V} {d : PyData} : ∀ {vs : List V} {ds : List PyData}, DRs K H vs ds → DR K H v d → DRs K H (vs ++ [v]) (ds ++ [d])
  | _, _, .nil, r => .cons r .nil
  | _, _, .cons h t, r => .cons h (DRs.snoc t r)
theorem DRs.rev {H : Hp} : ∀ {vs : List V} {ds : List PyData}, DRs K H vs ds → DRs K H vs.reverse ds.reverse
  | _, _, .nil => .nil
  | _, _, .cons h t => by
    rw [List.reverse_cons, List.reverse_cons]
    exact DRs.snoc (DRs.rev t) h
/-- xs[::-1] of a list: a new cell -/
def dRevN (w : DE) (env : List SD) (P : SD → List SD → Prop) : Prop := w env fun x env1 => lstQ x fun ds => P (.cel false ds.reverse) env1
theorem drevN {k : Nat} (he : PE X e (liftE X.K Z we)) : PE X (.Subscript e (.Slice none none (some (.UnaryOp .USub (.Constant (.int 1) k p1) p2)) p3) pos) (liftX X.K Z (dRevN we)) :=
  PE.of (pe_revL he) fun σ H Q ⟨g, F, env, P, kk, w, q⟩ => ⟨g, F, env, _, kk, w, fun d env1 v F1 H1 p e1 k1 r1 => by
    unfold lstQ at p
    split at p
    · rename_i ds
      obtain ⟨a, us, rfl, h1, h2⟩ := r1.inv_lst
      refine ⟨a, us, rfl, (h1.mono k1.fh).sq, fun x hx => ?_⟩
      obtain ⟨k4, r4⟩ := k1.newCell hx h2.rev
      exact q _ env1 _ _ _ p e1 k4 r4
    · exact p.elim⟩
end
end DL

/-! The data layer, part 13: what readings are told in. -/
namespace DL
variable {Z : Zx}
open PySem PySem.Spec PyProof.Rows L2
open Evl (Ex)

def jn {α : Type} (f : α → Prop) (k : α) : Prop := f k
def tAnd (b : Bool) (u : (Bool → Prop) → Prop) (K : Bool → Prop) : Prop := bIf b (u K) (K false)
def tOr (b : Bool) (u : (Bool → Prop) → Prop) (K : Bool → Prop) : Prop := bIf b (K true) (u K)
def vAnd (b : Bool) (u : (PyData → Prop) → Prop) (K : PyData → Prop) : Prop := bIf b (u K) (K (.bool false))
def vOr (b : Bool) (u : (PyData → Prop) → Prop) (K : PyData → Prop) : Prop := bIf b (K (.bool true)) (u K)
def vIf (b : Bool) (u v : (PyData → Prop) → Prop) (K : PyData → Prop) : Prop := bIf b (u K) (v K)
theorem at_env {t : DS} {E : DEnds} {a b : List SD} (e : a = b) (h : t E b) : t E a := e ▸ h
theorem cels1 {c : List PyData} {ds : List PyData} {i : Nat} {p : Bool} {xs : List PyData} (e : (SD.cel true c :: ds.map .dat)[i]? = some (.cel p xs)) : i < 1 := by
  cases i with
  | zero => exact Nat.zero_lt_one
  | succ i => exact absurd (by simpa using e) (no_cel (ds := ds) i p xs)
end DL

/-! The data layer, part 14: products, xs[::-1] as a datum, is True. -/
namespace DL
variable {Z : Zx}
open PySem PySem.Spec PyProof.Rows L2
open Evl (Ex)
section
variable {X : Cx} {a b e : Expr} {es : List Expr} {we wa wb : DE} {was : DA} {pos p p1 p2 p3 : Pos} {K : PySem.W.Frag} {m : Nat}
theorem DRs.flat {F : Hp} {vs : List V} {ds : List PyData} (r : DRs K F vs ds) : ∀ n : Nat, DRs K F (List.replicate n vs).flatten (List.replicate n ds).flatten
  | 0 => .nil
  | n + 1 => by
    rw [List.replicate_succ, List.replicate_succ, List.flatten_cons, List.flatten_cons]
    exact r.append (DRs.flat r n)
theorem tuple_mul1 (l : Addr) (items : Array Value) (n : Nat) (dd : Option Addr) (sl : Array (Option Value)) (u : Tok) :
    Meets (Builtin.«tuple.__mul__» ⟨[.ref l, .int 1 u], []⟩) (fun _ R s => s.heap.get? l = some { cls := .type "tuple", dict := dd, data := .seq items n, slots := sl } ∧ R (.ok (.ret (Value.ref l))) s) :=
  .of_wp fun prog w A R s h => by
    obtain ⟨hp, g, d, tk, os⟩ := s
    obtain ⟨hl, h⟩ := h
    have f1 := AutoSeq1.idx_int
    have c1 : (items.isEmpty || (1 : Int) == 1) = true := by simp
    wp_walk using wpAny_loadPart' hl
    repeat (first
      | (refine wpAny_ite_false (decide_eq_false (by decide)) ?_; wp_walk using wpAny_loadPart' hl)
      | (refine wpAny_ite_true (decide_eq_true c1) ?_; wp_walk using wpAny_loadPart' hl))
    exact ⟨_, rfl, h⟩
def rRepT1 (K : PySem.W.Frag) : R2 := fun x y H Q => ∃ l xs, x = .ref l ∧ y = .int 1 ∧ SqT K H l xs ∧ Q (.ref l) H
theorem op_repT1 {X : Cx} : OpR X (binaryOp .Mult) (rRepT1 X.K) := by
  intro pins s σ H x y v u Q I rx ry h
  obtain ⟨l, xs, rfl, rfl, hT, q⟩ := h
  cases rx
  obtain ⟨t, rfl⟩ := ry
  obtain ⟨its, r, ⟨⟨cls, dd, data, sl⟩, ho, hc, n, hd⟩, hs⟩ := I.tuple hT
  simp only at hc hd
  subst hc hd
  exact wpAny_binaryOp_repeat_ref (T := "tuple") (U := "int") (by decide) ⟨_, ho, rfl⟩ (fun s' => typeIs_int s' 1 t) noFill_tuple_mul F.fills_int_mul F.slot_int_rmul repeat_tuple F.slot_int_index.lookup
    (call_meets F.slot_int_rmul (typeIs_int s 1 t) F.entry_int_rmul (F.args_int_rmul_2 _ _) (int_rmul_tuple 1 t l its.toArray n dd sl)
      ⟨ho, rfl, ⟨_, ho, rfl⟩, call_meets F.slot_tuple_mul ⟨_, ho, rfl⟩ F.entry_tuple_mul (F.args_tuple_mul_2 _ _) (tuple_mul1 l its.toArray n dd sl t) ⟨ho, ⟨.ref l, H, I, rfl, q⟩⟩⟩)
def oMul (x y : PyData) (P : PyData → Prop) : Prop := match x, y with
  | .int i, .int j => (Sz i ∧ Sz j) ∧ P (.int (i * j))
  | .tuple xs, .int k => (xs ≠ [] ∧ 1 ≤ k ∧ k ≤ 1000 ∧ xs.length ≤ 1000) ∧ P (.tuple (List.replicate k.toNat xs).flatten)
  | _, _ => False
theorem opd_mul {r : R2} (h : OpD K r oMulI) : OpD K (fun x y H Q => r x y H Q ∨ (rRepT1 K x y H Q ∨ rRepT K x y H Q)) oMul := by
  intro _ g F env σ H vx vy dx dy P Q k rx ry p q
  unfold oMul at p
  split at p
  · exact .inl (h _ g F env σ H vx vy _ _ P Q k rx ry p q)
  · rename_i xs n
    cases ry.inv_int
    obtain ⟨a, us, rfl, h1, h2⟩ := rx.inv_tup
    obtain ⟨⟨z1, z2, z3, z4⟩, p⟩ := p
    by_cases e1 : n = 1
    · subst e1
      have e : (List.replicate (Int.toNat 1) xs).flatten = xs := by
        show (List.replicate 1 xs).flatten = xs
        simp
      rw [e] at p
      exact .inr (.inl ⟨a, us, rfl, rfl, Evl.ex_t k.fh h1, q _ _ F H p (Ex.refl F) k rx⟩)
    refine .inr (.inr ⟨a, n, us, rfl, rfl, Evl.ex_t k.fh h1, fun e => z1 ?_, by omega, z3, by rw [h2.length]; exact z4, fun x hx => ?_⟩)
    · subst e
      cases h2
      rfl
    · obtain ⟨e2, k2, r2⟩ := k.newTup hx (DRs.flat h2 n.toNat)
      exact q _ _ _ _ p e2 k2 r2
  · exact p.elim
theorem dmul (ha : PE X a (liftE X.K Z wa)) (hb : PE X b (liftE X.K Z wb)) : PE X (.BinOp a .Mult b pos) (liftE X.K Z (dOp oMul wa wb)) := dop (OpR.or op_mulW (OpR.or op_repT1 op_repT)) (opd_mul (opd_I (fun _ _ h => by have h1 := h.1.log; have h2 := h.2.log; unfold CMulW; omega) fun _ _ _ => .int _)) ha hb
/-- xs[::-1] of a list, that stays -/
def oRev (x : PyData) (P : PyData → Prop) : Prop := lstQ x fun ds => P (.list ds.reverse)
theorem drev {k : Nat} (he : PE X e (liftE X.K Z we)) : PE X (.Subscript e (.Slice none none (some (.UnaryOp .USub (.Constant (.int 1) k p1) p2)) p3) pos) (liftE X.K Z (dUn oRev we)) :=
  PE.of (dfrz (drevN he)) fun σ H Q ⟨g, F, env, P, kk, w, q⟩ => ⟨g, F, env, P, kk, w, q⟩
end
end DL

/-! The data layer, part 15: plain laws of the readings' words. -/
namespace DL
variable {Z : Zx}
open PySem PySem.Spec PyProof.Rows L2
section
variable {P K : PyData → Prop} {a b c : Int} {x y : PyData} {xs ys : List PyData} {T : Bool → Prop}
theorem q_bT : bT (.bool t) T = T t := rfl
theorem q_add : oAdd (.int a) (.int b) P = P (.int (a + b)) := rfl
theorem q_addT : oAdd (.tuple xs) (.tuple ys) P = (xs.length + ys.length ≤ 100000 ∧ P (.tuple (xs ++ ys))) := rfl
theorem q_addL : oAdd (.list xs) (.list ys) P = (xs.length + ys.length ≤ 100000 ∧ P (.list (xs ++ ys))) := rfl
theorem q_addS {i j : Str} : oAdd (.str i) (.str j) P = (i.length + j.length ≤ 100000 ∧ P (.str (i ++ j))) := rfl
theorem q_sub : oSub (.int a) (.int b) P = P (.int (a - b)) := rfl
theorem q_mul : oMul (.int a) (.int b) P = ((Sz a ∧ Sz b) ∧ P (.int (a * b))) := rfl
theorem q_mulT : oMul (.tuple xs) (.int b) P = ((xs ≠ [] ∧ 1 ≤ b ∧ b ≤ 1000 ∧ xs.length ≤ 1000) ∧ P (.tuple (List.replicate b.toNat xs).flatten)) := rfl
theorem q_div : oDiv (.int a) (.int b) P = ((0 < b ∧ Sz b) ∧ P (.int (a / b))) := rfl
theorem q_mod : oMod (.int a) (.int b) P = (0 < b ∧ P (.int (a % b))) := rfl
theorem q_pow : oPow (.int a) (.int b) P = ((Sz a ∧ 0 ≤ b ∧ b ≤ 10000) ∧ P (.int (a ^ b.toNat))) := rfl
theorem q_neg : oNeg (.int a) P = P (.int (-a)) := rfl
theorem q_lt : oLt (.int a) (.int b) P = P (.bool (decide (a < b))) := rfl
theorem q_le : oLe (.int a) (.int b) P = P (.bool (decide (a ≤ b))) := rfl
theorem q_gt : oGt (.int a) (.int b) P = P (.bool (decide (b < a))) := rfl
theorem q_ge : oGe (.int a) (.int b) P = P (.bool (decide (b ≤ a))) := rfl
theorem q_oI {f : Int → Int → PyData} : oI f (.int a) (.int b) P = P (f a b) := rfl
theorem shaped_int : SeqAt.shaped (.int a) = true := by unfold SeqAt.shaped; rfl
theorem q_eq : oEq (.int a) (.int b) P = P (.bool (decide (a = b))) := by
  show ((SeqAt.shaped (.int a) = true ∧ SeqAt.shaped (.int b) = true) ∧ P (.bool (eqD (.int a) (.int b)))) = _
  rw [eqD_int]
  simp only [shaped_int, and_self, true_and]
theorem q_ne : oNe (.int a) (.int b) P = P (.bool (!decide (a = b))) := by
  show ((SeqAt.shaped (.int a) = true ∧ SeqAt.shaped (.int b) = true) ∧ P (.bool (!eqD (.int a) (.int b)))) = _
  rw [eqD_int]
  simp only [shaped_int, and_self, true_and]
theorem shaped_bool {t : Bool} : SeqAt.shaped (.bool t) = true := by unfold SeqAt.shaped; rfl
theorem eqD_bool {t u : Bool} : eqD (.bool t) (.bool u) = decide (t = u) := by
  rw [eqD_eq]
  cases t <;> cases u <;> simp [PyData.eqv]
theorem q_eqB {t u : Bool} : oEq (.bool t) (.bool u) P = P (.bool (decide (t = u))) := by
  show ((SeqAt.shaped (.bool t) = true ∧ SeqAt.shaped (.bool u) = true) ∧ P (.bool (eqD (.bool t) (.bool u)))) = _
  rw [eqD_bool]
  simp only [shaped_bool, and_self, true_and]
theorem q_neB {t u : Bool} : oNe (.bool t) (.bool u) P = P (.bool (!decide (t = u))) := by
  show ((SeqAt.shaped (.bool t) = true ∧ SeqAt.shaped (.bool u) = true) ∧ P (.bool (!eqD (.bool t) (.bool u)))) = _
  rw [eqD_bool]
  simp only [shaped_bool, and_self, true_and]
theorem q_eqS {i j : Str} : oEq (.str i) (.str j) P = P (.bool (decide (i = j))) := rfl
theorem q_neS {i j : Str} : oNe (.str i) (.str j) P = P (.bool (!decide (i = j))) := rfl
theorem eqD_self (x : PyData) (h : PyData.eqv x x = true) : eqD x x = true := by rw [eqD_eq]; exact h
/-- == of like things -/
theorem eq_same (h : x = y) (hs : SeqAt.shaped x = true) (he : PyData.eqv x x = true) (k : P (.bool true)) : oEq x y P := by
  subst h
  unfold oEq
  split
  · rw [decide_eq_true rfl]; exact k
  · exact ⟨⟨hs, hs⟩, by rw [eqD_self _ he]; exact k⟩
theorem ne_same (h : x = y) (hs : SeqAt.shaped x = true) (he : PyData.eqv x x = true) (k : P (.bool false)) : oNe x y P := by
  subst h
  unfold oNe
  split
  · rw [decide_eq_true rfl]; exact k
  · exact ⟨⟨hs, hs⟩, by rw [eqD_self _ he]; exact k⟩
theorem q_isN : oIsN .none P = P (.bool true) := rfl
theorem q_isNi : oIsN (.int a) P = P (.bool false) := rfl
theorem q_isNt : oIsN (.tuple xs) P = P (.bool false) := rfl
theorem q_isNs {i : Str} : oIsN (.str i) P = P (.bool false) := rfl
theorem q_notN : oNotN .none P = P (.bool false) := rfl
theorem q_notNi : oNotN (.int a) P = P (.bool true) := rfl
theorem q_notNt : oNotN (.tuple xs) P = P (.bool true) := rfl
theorem q_ix : oIx (.tuple xs) (.int a) P = pick xs a P := rfl
theorem q_ixL : oIx (.list xs) (.int a) P = pick xs a P := rfl
theorem q_ixQ : ixQ xs (.int a) P = pick xs a P := rfl
theorem q_len : nLen [.list xs] P = P (.int (xs.length : Nat)) := rfl
theorem q_lenT : nLen [.tuple xs] P = P (.int (xs.length : Nat)) := rfl
theorem q_lenS {i : Str} : nLen [.str i] P = (i.length ≤ 100000 ∧ P (.int (i.length : Nat))) := rfl
theorem q_abs : nAbs [.int a] P = P (.int (if a < 0 then -a else a)) := rfl
theorem q_min : nMin2 [.int a, .int b] P = P (.int (if b < a then b else a)) := rfl
theorem q_max : nMax2 [.int a, .int b] P = P (.int (if b > a then b else a)) := rfl
theorem q_tupleOf : nTuple [.list xs] P = P (.tuple xs) := rfl
theorem q_tupleOfT : nTuple [.tuple xs] P = P (.tuple xs) := rfl
theorem q_int : nInt [.int a] P = P (.int a) := rfl
theorem q_intB {t : Bool} : nInt [.bool t] P = P (.int (if t then 1 else 0)) := rfl
theorem q_list {P : List PyData → Prop} : nList [.list xs] P = P xs := rfl
theorem q_listT {P : List PyData → Prop} : nList [.tuple xs] P = P xs := rfl
theorem q_tup {K : List PyData → Prop} : tupQ (.tuple xs) K = K xs := rfl
theorem q_cons {K : PyData → List PyData → Prop} : consQ (x :: xs) K = K x xs := rfl
theorem q_nil {p : Prop} : nilQ [] p = p := rfl
theorem q_so {K : Option Int → Prop} : soQ (.int a) K = K (some a) := rfl
theorem q_lst {K : List PyData → Prop} : lstQ (.list xs) K = K xs := rfl
theorem q_items {K : List PyData → Prop} : itemsQ (.list xs) K = K xs := At.eq
theorem q_itemsT {K : List PyData → Prop} : itemsQ (.tuple xs) K = K xs := At.eq
theorem q_slT {lo hi : Option Int} : oSl (.tuple xs) lo hi P = P (.tuple (DL.cutD xs lo hi)) := rfl
theorem q_slL {lo hi : Option Int} : oSl (.list xs) lo hi P = P (.list (DL.cutD xs lo hi)) := rfl
theorem q_rev : oRev (.list xs) P = P (.list xs.reverse) := rfl
theorem q_zip {K : List PyData → Prop} : zipQ [.list xs, .list ys] K = K (zipD xs ys) := At.eq
theorem q_zipT {K : List PyData → Prop} : zipQ [.tuple xs, .tuple ys] K = K (zipD xs ys) := At.eq
theorem q_rng1 {K : List PyData → Prop} : rng1 [.int a] K = ((-1000000 ≤ a ∧ a ≤ 1000000) ∧ K (rangeD 0 a.toNat)) := by
  show (_ ∧ At _ _) = _
  rw [At.eq]
theorem q_rng2 {K : List PyData → Prop} : rng2 [.int a, .int b] K = ((-1000000 ≤ a ∧ a ≤ 1000000 ∧ -1000000 ≤ b ∧ b ≤ 1000000) ∧ K (rangeD a (b - a).toNat)) := by
  show (_ ∧ At _ _) = _
  rw [At.eq]
theorem q_all : nAll [.list xs] P = (match boolsD xs with | some bs => P (.bool (bs.all id)) | none => False) := rfl
theorem q_any : nAny [.list xs] P = (match boolsD xs with | some bs => P (.bool (bs.any id)) | none => False) := rfl
theorem q_sum : nSum [.list xs] P = (match intsD xs with | some bs => P (.int bs.sum) | none => False) := rfl
theorem q_sumT : nSum [.tuple xs] P = (match intsD xs with | some bs => P (.int bs.sum) | none => False) := rfl
theorem q_ap {K : List PyData → Prop} : apQ xs x K = (xs.length < 100000 ∧ K (xs ++ [x])) := rfl
theorem bools_map (ds : List PyData) (f : PyData → Bool) : boolsD (ds.map fun d => .bool (f d)) = some (ds.map f) := by
  induction ds with
  | nil => rfl
  | cons d ds ih => simp [boolsD, ih]
theorem ints_map (ns : List Int) : intsD (ns.map .int) = some ns := by
  induction ns with
  | nil => rfl
  | cons d ds ih => simp [intsD, ih]
theorem q_sumI {ns : List Int} : nSum [.list (ns.map .int)] P = P (.int ns.sum) := by rw [q_sum, ints_map]
theorem q_sumTI {ns : List Int} : nSum [.tuple (ns.map .int)] P = P (.int ns.sum) := by rw [q_sumT, ints_map]
theorem q_allB {ds : List PyData} {f : PyData → Bool} : nAll [.list (ds.map fun d => .bool (f d))] P = P (.bool (ds.all f)) := by
  rw [q_all, bools_map]
  simp only [List.all_map]
  rfl
theorem q_anyB {ds : List PyData} {f : PyData → Bool} : nAny [.list (ds.map fun d => .bool (f d))] P = P (.bool (ds.any f)) := by
  rw [q_any, bools_map]
  simp only [List.any_map]
  rfl
theorem ints0 : intsD [] = some [] := rfl
theorem ints1 {r : List PyData} : intsD (.int a :: r) = (intsD r).map (a :: ·) := rfl
theorem bools0 : boolsD [] = some [] := rfl
theorem bools1 {t : Bool} {r : List PyData} : boolsD (.bool t :: r) = (boolsD r).map (t :: ·) := rfl
theorem cut1 {a : PyData} {l : List PyData} : DL.cutD (a :: l) (some 1) none = l := by
  unfold DL.cutD HT.sIx
  simp
theorem cut_len {xs : List PyData} {lo hi : Option Int} : (DL.cutD xs lo hi).length ≤ xs.length := by
  unfold DL.cutD
  rw [List.length_take, List.length_drop]
  omega
/-! ### truths -/
section
variable {S : Prop} {t : Bool} {u : (Bool → Prop) → Prop} {v : (PyData → Prop) → Prop} {K : Bool → Prop} {L : PyData → Prop}
theorem q_same {I S : Type} {i : I} {N : S → Prop} {s : S} : same i N i s = N s := propext ⟨fun h => h.2, fun h => ⟨rfl, h⟩⟩
theorem q_jn {α : Type} {f : α → Prop} {k : α} : jn f k = f k := rfl
theorem q_tAnd_k {b c : Bool} {K : Bool → Prop} : tAnd b (fun k => k c) K = K (b && c) := by cases b <;> rfl
theorem q_tOr_k {b c : Bool} {K : Bool → Prop} : tOr b (fun k => k c) K = K (b || c) := by cases b <;> rfl
theorem q_vAnd_k {b c : Bool} : vAnd b (fun k => k (.bool c)) L = L (.bool (b && c)) := by cases b <;> rfl
theorem q_vOr_k {b c : Bool} : vOr b (fun k => k (.bool c)) L = L (.bool (b || c)) := by cases b <;> rfl
theorem q_tAnd_s {b c : Bool} {K : Bool → Prop} {S : Prop} : tAnd b (fun k => S ∧ k c) K = ((b = true → S) ∧ K (b && c)) := by
  cases b
  · simp only [Bool.false_eq_true, false_imp_iff, true_and]; rfl
  · simp only [true_imp_iff, Bool.true_and]; rfl
theorem q_tOr_s {b c : Bool} {K : Bool → Prop} {S : Prop} : tOr b (fun k => S ∧ k c) K = ((b = false → S) ∧ K (b || c)) := by
  cases b
  · simp only [true_imp_iff, Bool.false_or]; rfl
  · simp only [Bool.true_eq_false, false_imp_iff, true_and]; rfl
theorem q_vAnd_s {b c : Bool} {S : Prop} : vAnd b (fun k => S ∧ k (.bool c)) L = ((b = true → S) ∧ L (.bool (b && c))) := by
  cases b
  · simp only [Bool.false_eq_true, false_imp_iff, true_and]; rfl
  · simp only [true_imp_iff, Bool.true_and]; rfl
theorem q_vOr_s {b c : Bool} {S : Prop} : vOr b (fun k => S ∧ k (.bool c)) L = ((b = false → S) ∧ L (.bool (b || c))) := by
  cases b
  · simp only [true_imp_iff, Bool.false_or]; rfl
  · simp only [Bool.true_eq_false, false_imp_iff, true_and]; rfl
theorem q_vIf_k {b : Bool} {x y : PyData} : vIf b (fun k => k x) (fun k => k y) L = L (if b then x else y) := by cases b <;> rfl
theorem q_tAnd_t {K : Bool → Prop} : tAnd true u K = u K := rfl
theorem q_tAnd_f {K : Bool → Prop} : tAnd false u K = K false := rfl
theorem q_tOr_t {K : Bool → Prop} : tOr true u K = K true := rfl
theorem q_tOr_f {K : Bool → Prop} : tOr false u K = u K := rfl
theorem q_vAnd_t : vAnd true v L = v L := rfl
theorem q_vAnd_f : vAnd false v L = L (.bool false) := rfl
theorem q_vOr_t : vOr true v L = L (.bool true) := rfl
theorem q_vOr_f : vOr false v L = v L := rfl
theorem q_vIf_t {v' : (PyData → Prop) → Prop} : vIf true v v' L = v L := rfl
theorem q_vIf_f {v' : (PyData → Prop) → Prop} : vIf false v v' L = v' L := rfl
theorem bIf_of {b : Bool} {p q : Prop} (h1 : b = true → p) (h2 : b = false → q) : bIf b p q := by
  cases b
  · exact h2 rfl
  · exact h1 rfl
theorem bIf_d {c : Prop} [Decidable c] {p q : Prop} (h1 : c → p) (h2 : ¬ c → q) : bIf (decide c) p q := by
  by_cases h : c
  · rw [decide_eq_true h]; exact h1 h
  · rw [decide_eq_false h]; exact h2 h
end
/-! ### items by place -/
theorem pick_lit {xs : List PyData} (n : Nat) {d : PyData} (e : xs[n]? = some d) : pick xs (n : Int) P = P d := pick_eq (by
  unfold atI
  rw [ixN_in (by omega) (by have := (List.getElem?_eq_some_iff.mp e).1; omega)]
  exact e)
theorem at0 {a : PyData} {l : List PyData} : pick (a :: l) 0 P = P a := pick_lit 0 rfl
theorem at1 {a b : PyData} {l : List PyData} : pick (a :: b :: l) 1 P = P b := pick_lit 1 rfl
theorem at2 {a b c : PyData} {l : List PyData} : pick (a :: b :: c :: l) 2 P = P c := pick_lit 2 rfl
theorem at3 {a b c d : PyData} {l : List PyData} : pick (a :: b :: c :: d :: l) 3 P = P d := pick_lit 3 rfl
theorem at4 {a b c d e : PyData} {l : List PyData} : pick (a :: b :: c :: d :: e :: l) 4 P = P e := pick_lit 4 rfl
theorem at5 {a b c d e f : PyData} {l : List PyData} : pick (a :: b :: c :: d :: e :: f :: l) 5 P = P f := pick_lit 5 rfl
theorem at6 {a b c d e f g : PyData} {l : List PyData} : pick (a :: b :: c :: d :: e :: f :: g :: l) 6 P = P g := pick_lit 6 rfl
theorem atLast {xs : List PyData} {d : PyData} : pick (xs ++ [d]) (-1) P = P d := pick_eq (by
  unfold atI ixN
  rw [if_neg (by decide), if_pos (by simp; omega)]
  show (xs ++ [d])[((-1 : Int) + ((xs ++ [d]).length : Nat)).toNat]? = some d
  rw [show ((-1 : Int) + ((xs ++ [d]).length : Nat)).toNat = xs.length by simp; omega]
  simp)
/-- any item -/
theorem pick_mem {xs : List PyData} {k : Int} (h0 : 0 ≤ k) (h1 : k < xs.length) (h : ∀ d ∈ xs, P d) : pick xs k P := at_of h0 h1 h
theorem st0 {x a : PyData} {r : List PyData} {K : List PyData → Prop} : stQ (a :: r) (.int 0) x K = K (x :: r) := by
  show (match ixN (a :: r).length 0 with | some j => K ((a :: r).set j x) | none => False) = _
  rw [ixN_in (by decide) (by simp)]
  rfl
theorem st1 {x a b : PyData} {r : List PyData} {K : List PyData → Prop} : stQ (a :: b :: r) (.int 1) x K = K (a :: x :: r) := by
  show (match ixN (a :: b :: r).length 1 with | some j => K ((a :: b :: r).set j x) | none => False) = _
  rw [ixN_in (by decide) (by simp; omega)]
  rfl
theorem st2 {x a b c : PyData} {r : List PyData} {K : List PyData → Prop} : stQ (a :: b :: c :: r) (.int 2) x K = K (a :: b :: x :: r) := by
  show (match ixN (a :: b :: c :: r).length 2 with | some j => K ((a :: b :: c :: r).set j x) | none => False) = _
  rw [ixN_in (by decide) (by simp; omega)]
  rfl
theorem st3 {x a b c d : PyData} {r : List PyData} {K : List PyData → Prop} : stQ (a :: b :: c :: d :: r) (.int 3) x K = K (a :: b :: c :: x :: r) := by
  show (match ixN (a :: b :: c :: d :: r).length 3 with | some j => K ((a :: b :: c :: d :: r).set j x) | none => False) = _
  rw [ixN_in (by decide) (by simp; omega)]
  rfl
theorem st4 {x a b c d e : PyData} {r : List PyData} {K : List PyData → Prop} : stQ (a :: b :: c :: d :: e :: r) (.int 4) x K = K (a :: b :: c :: d :: x :: r) := by
  show (match ixN (a :: b :: c :: d :: e :: r).length 4 with | some j => K ((a :: b :: c :: d :: e :: r).set j x) | none => False) = _
  rw [ixN_in (by decide) (by simp; omega)]
  rfl
theorem st_in {x : PyData} {k : Int} {K : List PyData → Prop} (h0 : 0 ≤ k) (h1 : k < xs.length) (h : K (xs.set k.toNat x)) : stQ xs (.int k) x K := by
  show (match ixN xs.length k with | some j => K (xs.set j x) | none => False)
  rw [ixN_in h0 h1]
  exact h
end
/-! ### of what kind -/
theorem isi_non_int : isiB .none "int" = false := rfl
theorem isi_non_bool : isiB .none "bool" = false := rfl
theorem isi_non_str : isiB .none "str" = false := rfl
theorem isi_non_list : isiB .none "list" = false := rfl
theorem isi_non_tuple : isiB .none "tuple" = false := rfl
theorem isi_non_dict : isiB .none "dict" = false := rfl
theorem isi_bl_int {t : Bool} : isiB (.bool t) "int" = true := rfl
theorem isi_bl_bool {t : Bool} : isiB (.bool t) "bool" = true := rfl
theorem isi_bl_str {t : Bool} : isiB (.bool t) "str" = false := rfl
theorem isi_bl_list {t : Bool} : isiB (.bool t) "list" = false := rfl
theorem isi_bl_tuple {t : Bool} : isiB (.bool t) "tuple" = false := rfl
theorem isi_bl_dict {t : Bool} : isiB (.bool t) "dict" = false := rfl
theorem isi_int_int {a : Int} : isiB (.int a) "int" = true := rfl
theorem isi_int_bool {a : Int} : isiB (.int a) "bool" = false := rfl
theorem isi_int_str {a : Int} : isiB (.int a) "str" = false := rfl
theorem isi_int_list {a : Int} : isiB (.int a) "list" = false := rfl
theorem isi_int_tuple {a : Int} : isiB (.int a) "tuple" = false := rfl
theorem isi_int_dict {a : Int} : isiB (.int a) "dict" = false := rfl
theorem isi_str_int {x : Str} : isiB (.str x) "int" = false := rfl
theorem isi_str_bool {x : Str} : isiB (.str x) "bool" = false := rfl
theorem isi_str_str {x : Str} : isiB (.str x) "str" = true := rfl
theorem isi_str_list {x : Str} : isiB (.str x) "list" = false := rfl
theorem isi_str_tuple {x : Str} : isiB (.str x) "tuple" = false := rfl
theorem isi_str_dict {x : Str} : isiB (.str x) "dict" = false := rfl
theorem isi_lst_int {xs : List PyData} : isiB (.list xs) "int" = false := rfl
theorem isi_lst_bool {xs : List PyData} : isiB (.list xs) "bool" = false := rfl
theorem isi_lst_str {xs : List PyData} : isiB (.list xs) "str" = false := rfl
theorem isi_lst_list {xs : List PyData} : isiB (.list xs) "list" = true := rfl
theorem isi_lst_tuple {xs : List PyData} : isiB (.list xs) "tuple" = false := rfl
theorem isi_lst_dict {xs : List PyData} : isiB (.list xs) "dict" = false := rfl
theorem isi_tup_int {xs : List PyData} : isiB (.tuple xs) "int" = false := rfl
theorem isi_tup_bool {xs : List PyData} : isiB (.tuple xs) "bool" = false := rfl
theorem isi_tup_str {xs : List PyData} : isiB (.tuple xs) "str" = false := rfl
theorem isi_tup_list {xs : List PyData} : isiB (.tuple xs) "list" = false := rfl
theorem isi_tup_tuple {xs : List PyData} : isiB (.tuple xs) "tuple" = true := rfl
theorem isi_tup_dict {xs : List PyData} : isiB (.tuple xs) "dict" = false := rfl
theorem isi_dct_int : isiB (.dict []) "int" = false := rfl
theorem isi_dct_bool : isiB (.dict []) "bool" = false := rfl
theorem isi_dct_str : isiB (.dict []) "str" = false := rfl
theorem isi_dct_list : isiB (.dict []) "list" = false := rfl
theorem isi_dct_tuple : isiB (.dict []) "tuple" = false := rfl
theorem isi_dct_dict : isiB (.dict []) "dict" = true := rfl
end DL

/-! The data layer, part 16: == [] and == (), is True, {}, t[::-1]. -/
namespace DL
variable {Z : Zx}
open PySem PySem.Spec PyProof.Rows L2
open Evl (Ex)
section
variable {X : Cx} {a b e : Expr} {es : List Expr} {we wa wb : DE} {was : DA} {pos p p1 p2 p3 p0 : Pos} {K : PySem.W.Frag} {m : Nat}
/-! ### like nothing -/
def rEmp (K : PySem.W.Frag) (n : Bool) : R2 := fun x y H Q => ∃ a b xs, x = .ref a ∧ y = .ref b ∧ ((SqL K H a xs ∧ SqL K H b []) ∨ (SqT K H a xs ∧ SqT K H b [])) ∧ Q (.bl (xs.isEmpty != n)) H
theorem op_empE (hu : X.A.units + 64 < cLine) : OpR X (compareOp .Eq) (rEmp X.K false) := by
  intro pins s σ H x y v u Q I rx ry h
  obtain ⟨a, b, xs, rfl, rfl, h, q⟩ := h
  cases rx
  cases ry
  have hu2 : X.A.units < cLine := by omega
  rcases h with ⟨h1, h2⟩ | ⟨h1, h2⟩
  · obtain ⟨its, r1, t1, _⟩ := I.list h1
    obtain ⟨its2, r2, t2, _⟩ := I.list h2
    cases r2
    cases r1 with
    | nil => exact SeqAt.RcAt.lists (e := fun _ => true) t1.isList t2.isList rfl hu2 (fun j h1 => absurd h1 (by simp)) _ _ _ _ ⟨.bl true, H, I, rfl, q⟩
    | cons _ _ => exact SeqAt.RcAt.lists_lengths t1.isList t2.isList (by simp) hu2 _ _ _ _ ⟨.bl false, H, I, rfl, q⟩
  · obtain ⟨its, r1, t1, _⟩ := I.tuple h1
    obtain ⟨its2, r2, t2, _⟩ := I.tuple h2
    cases r2
    refine SeqAt.RcAt.tuples (e := fun _ => true) t1 t2 hu2 (fun j h1 h2 => absurd h2 (by simp)) _ _ _ _ ?_
    cases r1 with
    | nil => exact ⟨.bl true, H, I, rfl, q⟩
    | cons _ _ => exact ⟨.bl false, H, I, rfl, q⟩
theorem op_empN (hu : X.A.units + 64 < cLine) : OpR X (compareOp .NotEq) (rEmp X.K true) := by
  intro pins s σ H x y v u Q I rx ry h
  obtain ⟨a, b, xs, rfl, rfl, h, q⟩ := h
  cases rx
  cases ry
  have hu2 : X.A.units < cLine := by omega
  rcases h with ⟨h1, h2⟩ | ⟨h1, h2⟩
  · obtain ⟨its, r1, t1, _⟩ := I.list h1
    obtain ⟨its2, r2, t2, _⟩ := I.list h2
    cases r2
    cases r1 with
    | nil => exact SeqAt.RcNeAt.lists (e := fun _ => true) t1.isList t2.isList rfl hu2 (fun j h1 => absurd h1 (by simp)) _ _ _ _ ⟨.bl false, H, I, rfl, q⟩
    | cons _ _ => exact SeqAt.RcNeAt.lists_lengths t1.isList t2.isList (by simp) hu2 _ _ _ _ ⟨.bl true, H, I, rfl, q⟩
  · obtain ⟨its, r1, t1, _⟩ := I.tuple h1
    obtain ⟨its2, r2, t2, _⟩ := I.tuple h2
    cases r2
    refine SeqAt.RcNeAt.tuples (e := fun _ => true) t1 t2 hu2 (fun j h1 h2 => absurd h2 (by simp)) _ _ _ _ ?_
    cases r1 with
    | nil => exact ⟨.bl false, H, I, rfl, q⟩
    | cons _ _ => exact ⟨.bl true, H, I, rfl, q⟩
/-- x == [] of a list, x == () of a tuple -/
def oEmp (n : Bool) (x y : PyData) (P : PyData → Prop) : Prop := match x, y with
  | .list xs, .list [] => P (.bool (xs.isEmpty != n))
  | .tuple xs, .tuple [] => P (.bool (xs.isEmpty != n))
  | _, _ => False
theorem drs_empty {F : Hp} {vs : List V} {ds : List PyData} (r : DRs K F vs ds) : vs.isEmpty = ds.isEmpty := by cases r <;> rfl
theorem opd_emp {n : Bool} : OpD K (rEmp K n) (oEmp n) := by
  intro _ g F env σ H vx vy dx dy P Q k rx ry p q
  unfold oEmp at p
  split at p
  · obtain ⟨a, us, rfl, h1, h2⟩ := rx.inv_lst
    obtain ⟨b, ws, rfl, h3, h4⟩ := ry.inv_lst
    cases h4
    exact ⟨a, b, us, rfl, rfl, .inl ⟨(h1.mono k.fh).sq, (h3.mono k.fh).sq⟩, q _ _ F H (by rw [drs_empty h2]; exact p) (Ex.refl F) k (.bl _)⟩
  · obtain ⟨a, us, rfl, h1, h2⟩ := rx.inv_tup
    obtain ⟨b, ws, rfl, h3, h4⟩ := ry.inv_tup
    cases h4
    exact ⟨a, b, us, rfl, rfl, .inr ⟨Evl.ex_t k.fh h1, Evl.ex_t k.fh h3⟩, q _ _ F H (by rw [drs_empty h2]; exact p) (Ex.refl F) k (.bl _)⟩
  · exact p.elim
theorem q_empL {n : Bool} {xs : List PyData} {P : PyData → Prop} : oEmp n (.list xs) (.list []) P = P (.bool (xs.isEmpty != n)) := rfl
theorem q_empT {n : Bool} {xs : List PyData} {P : PyData → Prop} : oEmp n (.tuple xs) (.tuple []) P = P (.bool (xs.isEmpty != n)) := rfl
/-- x == [] of a name's own cell -/
def dEmpC (n : Bool) (i : Nat) (env : List SD) (P : PyData → List SD → Prop) : Prop := match env[i]? with
  | some (.cel _ xs) => P (.bool (xs.isEmpty != n)) env
  | _ => False
theorem lift_empC {n : Bool} {i : Nat} {σ : L2.St} {H : Hp} {Q : VK} (h : liftE K Z (dEmpC n i) σ H Q) : tOp (rEmp K n) (tVar i) (tLst tNil) σ H Q := by
  obtain ⟨g, F, env, P, k, w, q⟩ := h
  unfold dEmpC at w
  split at w
  · rename_i p xs e
    obtain ⟨a0, vs, h1, h2, h3, h4, h5⟩ := k.cel i p xs e
    refine ⟨_, h1, Nat.zero_le _, fun p hp => ?_⟩
    have ne : a0 ≠ p := ne_of_none h3 hp
    refine ⟨a0, p, vs, rfl, rfl, .inl ⟨SqL.of (by rw [upd_ne ne]; exact h3), SqL.of upd_same⟩, ?_⟩
    rw [drs_empty h4]
    exact q _ env _ _ _ w (Ex.refl F) (k.extra hp) (.bl _)
  · exact w.elim
variable {x : Str}
theorem dempC (i : Nat) {pl : Pos} (hu : X.A.units + 64 < cLine) (hN : X.N[i]? = some x := by rfl) (hv : Vis X.env.scope x := by first | exact Or.inl rfl | exact Or.inr (Or.inl rfl) | exact Or.inr (Or.inr rfl)) (hd : (x == ("__debug__" : Str)) = false := by decide)
    (hcd : (x == ("__classdict__" : Str)) = false := by decide) : PE X (.Compare (.Name x p0) [.Eq] [.List [] pl] pos) (liftE X.K Z (dEmpC false i)) := PE.of (pe_cmpR (op_empE hu) (pe_var hN hv hd hcd) (pe_lst pa_nil) (nomark _)) fun _ _ _ h => lift_empC h
theorem dempCn (i : Nat) {pl : Pos} (hu : X.A.units + 64 < cLine) (hN : X.N[i]? = some x := by rfl) (hv : Vis X.env.scope x := by first | exact Or.inl rfl | exact Or.inr (Or.inl rfl) | exact Or.inr (Or.inr rfl)) (hd : (x == ("__debug__" : Str)) = false := by decide)
    (hcd : (x == ("__classdict__" : Str)) = false := by decide) : PE X (.Compare (.Name x p0) [.NotEq] [.List [] pl] pos) (liftE X.K Z (dEmpC true i)) := PE.of (pe_cmpR (op_empN hu) (pe_var hN hv hd hcd) (pe_lst pa_nil) (nomark _)) fun _ _ _ h => lift_empC h
theorem tempC (i : Nat) {pl : Pos} (hu : X.A.units + 64 < cLine) (hN : X.N[i]? = some x := by rfl) (hv : Vis X.env.scope x := by first | exact Or.inl rfl | exact Or.inr (Or.inl rfl) | exact Or.inr (Or.inr rfl)) (hd : (x == ("__debug__" : Str)) = false := by decide)
    (hcd : (x == ("__classdict__" : Str)) = false := by decide) : PT X (.Compare (.Name x p0) [.Eq] [.List [] pl] pos) (liftT X.K Z (dTest (dEmpC false i))) := PT.of (pt_cmpR (op_empE hu) (pe_var hN hv hd hcd) (pe_lst pa_nil) (nomark _)) fun _ _ _ h => lift_test (fun _ _ _ h => lift_empC h) h
theorem tempCn (i : Nat) {pl : Pos} (hu : X.A.units + 64 < cLine) (hN : X.N[i]? = some x := by rfl) (hv : Vis X.env.scope x := by first | exact Or.inl rfl | exact Or.inr (Or.inl rfl) | exact Or.inr (Or.inr rfl)) (hd : (x == ("__debug__" : Str)) = false := by decide)
    (hcd : (x == ("__classdict__" : Str)) = false := by decide) : PT X (.Compare (.Name x p0) [.NotEq] [.List [] pl] pos) (liftT X.K Z (dTest (dEmpC true i))) := PT.of (pt_cmpR (op_empN hu) (pe_var hN hv hd hcd) (pe_lst pa_nil) (nomark _)) fun _ _ _ h => lift_test (fun _ _ _ h => lift_empC h) h

/-! ### is True, is False -/
def oIsB (n t : Bool) (x : PyData) (P : PyData → Prop) : Prop := match x with
  | .bool b => P (.bool (decide (b = t) != n))
  | _ => False
theorem q_isB {n t b : Bool} {P : PyData → Prop} : oIsB n t (.bool b) P = P (.bool (decide (b = t) != n)) := rfl
theorem lift_isB {t : Bool} {σ : L2.St} {H : Hp} {Q : VK} (h : liftE K Z (dUn (oIsB false t) wa) σ H Q) : tOp rIsB (liftE K Z wa) (tC (.bl t)) σ H Q := by
  obtain ⟨g, F, env, P, k, w, q⟩ := h
  refine ⟨g, F, env, _, k, w, fun d env1 v F1 H1 p e1 k1 r1 => ?_⟩
  unfold oIsB at p
  split at p
  · cases r1.inv_bool
    refine ⟨_, _, rfl, rfl, q _ env1 _ F1 H1 ?_ e1 k1 (.bl _)⟩
    simpa using p
  · exact p.elim
theorem lift_isBn {t : Bool} {σ : L2.St} {H : Hp} {Q : VK} (h : liftE K Z (dUn (oIsB true t) wa) σ H Q) : tOp rNotB (liftE K Z wa) (tC (.bl t)) σ H Q := by
  obtain ⟨g, F, env, P, k, w, q⟩ := h
  refine ⟨g, F, env, _, k, w, fun d env1 v F1 H1 p e1 k1 r1 => ?_⟩
  unfold oIsB at p
  split at p
  · cases r1.inv_bool
    refine ⟨_, _, rfl, rfl, q _ env1 _ F1 H1 ?_ e1 k1 (.bl _)⟩
    simpa using p
  · exact p.elim
theorem disB {t : Bool} {j pos'} (ha : PE X a (liftE X.K Z wa)) : PE X (.Compare a [.Is] [.Constant (.bool t) j pos'] pos) (liftE X.K Z (dUn (oIsB false t) wa)) := PE.of (pe_cmpR op_isBl ha pe_bl (nomark _)) fun _ _ _ h => lift_isB h
theorem dnotB {t : Bool} {j pos'} (ha : PE X a (liftE X.K Z wa)) : PE X (.Compare a [.IsNot] [.Constant (.bool t) j pos'] pos) (liftE X.K Z (dUn (oIsB true t) wa)) := PE.of (pe_cmpR op_notBl ha pe_bl (nomark _)) fun _ _ _ h => lift_isBn h
theorem tisB {t : Bool} {j pos'} (ha : PE X a (liftE X.K Z wa)) : PT X (.Compare a [.Is] [.Constant (.bool t) j pos'] pos) (liftT X.K Z (dTest (dUn (oIsB false t) wa))) := PT.of (pt_cmpR op_isBl ha pe_bl (nomark _)) fun _ _ _ h => lift_test (fun _ _ _ h => lift_isB h) h
theorem tnotB {t : Bool} {j pos'} (ha : PE X a (liftE X.K Z wa)) : PT X (.Compare a [.IsNot] [.Constant (.bool t) j pos'] pos) (liftT X.K Z (dTest (dUn (oIsB true t) wa))) := PT.of (pt_cmpR op_notBl ha pe_bl (nomark _)) fun _ _ _ h => lift_test (fun _ _ _ h => lift_isBn h) h

/-! ### {} -/
theorem ddict0 : PE X (.Dict [] [] pos) (liftE X.K Z (dC (.dict []))) := PE.of pe_dnewK fun σ H Q ⟨g, F, env, P, k, w, q⟩ => fun p hp =>
  q _ env _ (upd F p (.dK [])) _ w (Ex.new (fnone k.fh hp)) (k.alloc hp) (.dct upd_same)
end

/-! ### t[::-1] -/
section
variable {prog : Program} {w : World} {A : Around} {E : Value → Shared → Prop} {s : Shared}
theorem sliceApplied_rev {sl : Addr} {t : Tok} {n : Nat} {Q : Int × Int × Nat → Shared → Prop} (hs : s.heap.IsSliceOf sl .none .none (.int (-1) t))
    (h : Q ((n : Int) - 1, -1, n) s) : wpAny (model prog w) A (Builtin.Slice.sliceApplied (.ref sl) (pure (n : Int))) Q E s := by
  obtain ⟨os, hos, hcs, hds⟩ := id hs
  unfold Builtin.Slice.sliceApplied Builtin.Slice.sliceFields
  refine wpAny_bind (wpAny_bind (wpAny_field hos hds (x := .none) rfl (wpAny_bind (wpAny_field hos hds (x := .none) rfl (wpAny_bind (wpAny_field hos hds (x := .int (-1) t) rfl (wpAny_pure ?_)))))))
  refine wpAny_bind (HT.slicePart_ (.int (-1) t) ?_)
  show wpAny _ _ (if ((-1 : Int) == 0) = true then _ else _) _ _ s
  rw [if_neg (by decide)]
  refine wpAny_bind (HT.slicePart_ .none (wpAny_bind (HT.slicePart_ .none (wpAny_bind (wpAny_pure ?_)))))
  show wpAny _ _ (match Builtin.Slice.sliceAdjust none none (-1) (n : Int) with | (lo, hi) => pure (lo, (-1 : Int), Builtin.Slice.slicePlaces lo hi (-1))) _ _ s
  have e1 : Builtin.Slice.sliceAdjust none none (-1) (n : Int) = ((n : Int) - 1, -1) := by
    unfold Builtin.Slice.sliceAdjust
    simp
  rw [e1]
  have e2 : Builtin.Slice.slicePlaces ((n : Int) - 1) (-1) (-1) = n := by
    unfold Builtin.Slice.slicePlaces
    have h1 : ¬ ((-1 : Int) > 0) := by decide
    simp only [h1, if_false, show (- -1 : Int) = 1 from by decide, Int.ediv_one]
    split <;> omega
  show wpAny _ _ (pure ((n : Int) - 1, (-1 : Int), Builtin.Slice.slicePlaces ((n : Int) - 1) (-1) (-1))) _ _ s
  rw [e2]
  exact wpAny_pure h
theorem fm_congr {α β : Type} {f g : α → Option β} : ∀ {l : List α}, (∀ m ∈ l, f m = g m) → l.filterMap f = l.filterMap g
  | [], _ => rfl
  | a :: l, h => by
    rw [List.filterMap_cons, List.filterMap_cons, h a List.mem_cons_self, fm_congr fun m hm => h m (List.mem_cons_of_mem _ hm)]
theorem pick_rev (xs : Array Value) : ((List.range xs.size).filterMap fun (m : Nat) => xs[(((xs.size : Int) - 1) + (m : Int) * (-1)).toNat]?).toArray = xs.toList.reverse.toArray := by
  have e : (List.range xs.size).filterMap (fun (m : Nat) => xs[(((xs.size : Int) - 1) + (m : Int) * (-1)).toNat]?) = ((List.range xs.size).map fun k => xs.size - 1 - k).filterMap (xs[·]?) := by
    rw [List.filterMap_map]
    refine fm_congr fun m hm => ?_
    have hm := List.mem_range.mp hm
    have : (((xs.size : Int) - 1) + (m : Int) * (-1)).toNat = xs.size - 1 - m := by omega
    show xs[(((xs.size : Int) - 1) + (m : Int) * (-1)).toNat]? = xs[xs.size - 1 - m]?
    rw [this]
  rw [e, PySem.W.krv_range, List.filterMap_reverse, PySem.W.krv_all]
theorem getItem_tuple_rev {t sl : Addr} {tk : Tok} {items : Array Value} {Q : Value → Shared → Prop} (ht : IsTup s.heap t items) (hs : s.heap.IsSliceOf sl .none .none (.int (-1) tk))
    (h : Q (.ref s.heap.objs.size) { s with heap := s.heap.push { cls := .type "tuple", data := .seq items.toList.reverse.toArray } })
    (hsz : items.size ≤ sizeLine) : wpAny (model prog w) A (getItem (.ref t) (.ref sl)) Q E s := by
  have htake : sizeOk (.seq items.toList.reverse.toArray) := by
    show items.toList.reverse.toArray.size ≤ sizeLine
    rw [List.size_toArray, List.length_reverse, Array.length_toList]
    exact hsz
  obtain ⟨os, hos, hcs, hds⟩ := id hs
  have hTs : s.TypeIs (.ref sl) "slice" := ⟨os, hos, hcs⟩
  unfold getItem
  try with_reducible refine wpAny_holding ?_
  first | refine wpAny_bind (wpAny_pure ?_) | skip
  refine wpAny_bind (wpAny_sequenceKey ht.typeIs (by decide) ?_)
  refine wpAny_bind (wpAny_callSpecial?_slot (name := Str.ofString "__getitem__") ht.typeIs PyProof.Rows.slot_tuple_getitem
    (wpAny_call_entry PyProof.Rows.slot_tuple_getitem ht.typeIs entry_tuple_getitem ?_ (args_tuple_getitem _ _)))
  show wpAny _ _ (Builtin.Tuple.tupleItemsOf (.ref t) >>= _) _ _ s
  refine wpAny_bind (tupleItemsOf_ ht ?_)
  refine wpAny_bind (wpAny_typeOf hTs ?_)
  rw [if_pos (by decide)]
  refine wpAny_bind (sliceApplied_rev hs ?_)
  have hno : ¬ ((((items.size : Int) - 1) == 0 && (-1 : Int) == 1 && items.size == items.size) = true) := by
    intro q
    rw [Bool.and_eq_true, Bool.and_eq_true] at q
    exact absurd q.1.2 (by decide)
  show wpAny _ _ (if (((items.size : Int) - 1) == 0 && (-1 : Int) == 1 && items.size == items.size) = true then _ else _) _ _ s
  rw [if_neg hno, pick_rev]
  first
    | exact wpAny_bind (m := Builtin.Tuple.tupleExact _) (wpAny_newObj_type (wpAny_pure ⟨_, rfl, wpAny_pure h⟩) htake)
    | exact wpAny_bind (m := Builtin.Tuple.tupleExact _) (wpAny_newObj_type (wpAny_bind (wpAny_pure (wpAny_pure ⟨_, rfl, wpAny_pure h⟩))) htake)
    | exact wpAny_bind (wpAny_bind (m := Builtin.Tuple.tupleExact _) (wpAny_newObj_type (wpAny_pure (wpAny_pure ⟨_, rfl, wpAny_pure h⟩)) htake))
    | exact wpAny_bind (wpAny_bind (m := Builtin.Tuple.tupleExact _) (wpAny_newObj_type (wpAny_pure ⟨_, rfl, wpAny_pure h⟩) htake))
end
end DL

/-! The data layer, part 17: x[::-1] of a list or a tuple. -/
namespace DL
variable {Z : Zx}
open PySem PySem.Spec PyProof.Rows L2
open Evl (Ex)
section
variable {X : Cx} {a b e : Expr} {es : List Expr} {we wa wb : DE} {was : DA} {pos p p1 p2 p3 p0 : Pos} {K : PySem.W.Frag} {m : Nat}
def tRevA (K : PySem.W.Frag) (te : TE) : TE := fun σ H Q => te σ H fun x H1 => (∃ a xs, x = .ref a ∧ SqL K H1 a xs ∧ ∀ p, H1 p = none → Q (.ref p) (upd H1 p (.lst xs.reverse))) ∨ ∃ a xs, x = .ref a ∧ SqT K H1 a xs ∧ ∀ p, H1 p = none → Q (.ref p) (upd H1 p (.tup xs.reverse))
theorem pe_revA {te : TE} {k : Nat} (he : PE X e te) : PE X (.Subscript e (.Slice none none (some (.UnaryOp .USub (.Constant (.int 1) k p1) p2)) p3) pos) (tRevA X.K te) := by
  refine ⟨fun pins s σ H Q I h => ?_⟩
  refine Subscript_ (thn (he.run pins s σ H _ I h) fun v s1 ⟨x, H1, I1, r1, q1⟩ => ?_)
  have hst : PO X (some (.UnaryOp .USub (.Constant (.int 1) k p1) p2)) (tPart (tUn (rU fun i => .int (-i)) (tC (.int 1)))) := po_some (pe_un un_neg pe_int)
  rcases q1 with ⟨a, xs, ex, hx, q⟩ | ⟨a, xs, ex, hx, q⟩
  · subst ex
    cases r1
    refine wpAny_Slice (thn (po_none.run pins s1 σ H1 (fun o H2 => o = none ∧ H2 = H1) I1 ⟨rfl, rfl⟩) fun vl s2 ⟨l, H2, I2, pl, el, e2⟩ => ?_)
    subst el e2
    refine thn (po_none.run pins s2 σ H2 (fun o H3 => o = none ∧ H3 = H2) I2 ⟨rfl, rfl⟩) fun vu s3 ⟨u, H3, I3, pu, eu, e3⟩ => ?_
    subst eu e3
    refine thn (hst.run pins s3 σ H3 (fun o H4 => o = some (-1) ∧ H4 = H3) I3 ⟨1, rfl, -1, rfl, rfl, rfl⟩) fun vs s4 ⟨o, H4, I4, ps, eo, e4⟩ => ?_
    subst eo e4
    have I5 : Inv X pins σ H4 { s4 with heap := s4.heap.push { cls := .type "slice", data := .fields #[vl, vu, vs] } } := I4.kept (t' := s4.toks) fun b ob q => Heap.get?_push_of_some _ q
    obtain ⟨its, r, ht, hz⟩ := I5.list hx
    have hlen := r.length
    show wpAny (model X.prog X.w) X.A (subscriptTail e (.Slice none none (some (.UnaryOp .USub (.Constant (.int 1) k p1) p2)) p3) (.ref a) (.ref s4.heap.objs.size)) (EP X pins σ Q) X.xe { s4 with heap := s4.heap.push { cls := .type "slice", data := .fields #[vl, vu, vs] } }
    refine tail_any (ops := [.ref a, .ref s4.heap.objs.size]) ht.isList.typeIs (PySem.slot_list_getitem.lookup) ?_ (by with_unfolding_all rfl)
    refine wpAny_getItem_list_slice ht.isList (Heap.IsSliceOf.new _ vl vu vs) pl pu ps (by decide) ?_ (by rw [List.size_toArray]; omega)
    rw [PySem.W.krv_pick]
    refine ⟨.ref _, _, I5.laid (t' := s4.toks) (o := .lst xs.reverse) (fun b ob q => Heap.get?_push_of_some _ q) (Nat.le_refl _) ?_, rfl, q _ (I5.hok.fresh (Nat.le_refl _))⟩
    exact ⟨by rw [List.length_reverse]; exact hz, _, 0, r.reverse, Heap.get?_push_size _ rfl⟩
  · subst ex
    cases r1
    refine wpAny_Slice (thn (po_none.run pins s1 σ H1 (fun o H2 => o = none ∧ H2 = H1) I1 ⟨rfl, rfl⟩) fun vl s2 ⟨l, H2, I2, pl, el, e2⟩ => ?_)
    subst el e2
    refine thn (po_none.run pins s2 σ H2 (fun o H3 => o = none ∧ H3 = H2) I2 ⟨rfl, rfl⟩) fun vu s3 ⟨u, H3, I3, pu, eu, e3⟩ => ?_
    subst eu e3
    refine thn (hst.run pins s3 σ H3 (fun o H4 => o = some (-1) ∧ H4 = H3) I3 ⟨1, rfl, -1, rfl, rfl, rfl⟩) fun vs s4 ⟨o, H4, I4, ps, eo, e4⟩ => ?_
    subst eo e4
    have I5 : Inv X pins σ H4 { s4 with heap := s4.heap.push { cls := .type "slice", data := .fields #[vl, vu, vs] } } := I4.kept (t' := s4.toks) fun b ob q => Heap.get?_push_of_some _ q
    obtain ⟨its, r, ht, hz⟩ := I5.tuple hx
    have hlen := r.length
    show wpAny (model X.prog X.w) X.A (subscriptTail e (.Slice none none (some (.UnaryOp .USub (.Constant (.int 1) k p1) p2)) p3) (.ref a) (.ref s4.heap.objs.size)) (EP X pins σ Q) X.xe { s4 with heap := s4.heap.push { cls := .type "slice", data := .fields #[vl, vu, vs] } }
    refine tail_any (ops := [.ref a, .ref s4.heap.objs.size]) ht.typeIs (PyProof.Rows.slot_tuple_getitem.lookup) ?_ (by with_unfolding_all rfl)
    cases pl
    cases pu
    cases ps with
    | int _ t =>
    refine getItem_tuple_rev (items := its.toArray) ht (Heap.IsSliceOf.new _ .none .none (.int (-1) t)) ?_ (by rw [List.size_toArray]; omega)
    refine ⟨.ref _, _, I5.laid (t' := s4.toks) (o := .tup xs.reverse) (fun b ob q => Heap.get?_push_of_some _ q) (Nat.le_refl _) ?_, rfl, q _ (I5.hok.fresh (Nat.le_refl _))⟩
    exact ⟨by rw [List.length_reverse]; exact hz, _, r.reverse, IsTup.new _ _⟩
def oRevA (x : PyData) (P : PyData → Prop) : Prop := match x with
  | .list ds => P (.list ds.reverse)
  | .tuple ds => P (.tuple ds.reverse)
  | _ => False
theorem q_revL {ds : List PyData} {P : PyData → Prop} : oRevA (.list ds) P = P (.list ds.reverse) := rfl
theorem q_revT {ds : List PyData} {P : PyData → Prop} : oRevA (.tuple ds) P = P (.tuple ds.reverse) := rfl
theorem drevA {k : Nat} (he : PE X e (liftE X.K Z we)) : PE X (.Subscript e (.Slice none none (some (.UnaryOp .USub (.Constant (.int 1) k p1) p2)) p3) pos) (liftE X.K Z (dUn oRevA we)) :=
  PE.of (pe_revA he) fun σ H Q ⟨g, F, env, P, kk, w, q⟩ => ⟨g, F, env, _, kk, w, fun d env1 v F1 H1 p e1 k1 r1 => by
    unfold oRevA at p
    split at p
    · obtain ⟨a, us, rfl, h1, h2⟩ := r1.inv_lst
      refine .inl ⟨a, us, rfl, (h1.mono k1.fh).sq, fun x hx => ?_⟩
      obtain ⟨e4, k4, r4⟩ := k1.newLst hx h2.rev
      exact q _ env1 _ _ _ p (e1.trans e4) k4 r4
    · obtain ⟨a, us, rfl, h1, h2⟩ := r1.inv_tup
      refine .inr ⟨a, us, rfl, Evl.ex_t k1.fh h1, fun x hx => ?_⟩
      obtain ⟨e4, k4, r4⟩ := k1.newTup hx h2.rev
      exact q _ env1 _ _ _ p (e1.trans e4) k4 r4
    · exact p.elim⟩
end
end DL

/-! The data layer, part 18: x[i] += e, [e] * n. -/
namespace DL
variable {Z : Zx}
open PySem PySem.Spec PyProof.Rows L2
open Evl (Ex)
section
variable {X : Cx} {a b e : Expr} {es : List Expr} {we wa wb : DE} {was : DA} {pos p p1 p2 p3 p0 : Pos} {K : PySem.W.Frag} {m : Nat}
def rGetL (K : PySem.W.Frag) : V → V → Hp → VK → Prop := fun x y H Q => ∃ p xs i v, x = .ref p ∧ y = .int i ∧ SqL K H p xs ∧ atI xs i = some v ∧ Q v H
theorem get_list : PGet X (rGetL X.K) := by
  intro pins s σ H o i ov iv Q I ro ri h
  obtain ⟨p, xs, i, z, rfl, rfl, hq, he, q⟩ := h
  cases ro
  obtain ⟨t, rfl⟩ := ri
  obtain ⟨its, r, pl, hz⟩ := I.list hq
  obtain ⟨j, h1, h2, h3, h4, h5⟩ := atI_get he
  obtain ⟨w, ew, rw'⟩ := r.get h2
  have hl := r.length
  have hn := line63
  have fin : EP X pins σ Q w s := ⟨z, H, I, rw', q⟩
  by_cases h0 : 0 ≤ i
  · have hj : i.toNat = j := by
      rw [seqIndex_of h0 h5] at h1
      exact Option.some.inj h1
    exact wpAny_getItem_list pl.isList h0 (by omega) (by rw [hj]; simpa using ew) fin
  · have hj : (i + (its.toArray.size : Int)).toNat = j := by
      rw [seqIndex_neg (by omega) h4] at h1
      rw [List.size_toArray, ← hl]
      exact Option.some.inj h1
    exact wpAny_getItem_list_neg pl.isList (by omega) (by rw [List.size_toArray] <;> omega) (by omega) (by rw [hj]; simpa using ew) fin
/-- x[i] op= e of a name's own cell, numbers -/
def dAugC (i : Nat) (f : Int → Int → Int) (wi we : DE) (E : DEnds) (env : List SD) : Prop := match env[i]? with
  | some (.cel _ _) => wi env fun y env1 => match env1[i]? with
    | some (.cel _ xs) => ixQ xs y fun x => we env1 fun d env2 => oI (fun n m => .int (f n m)) x d fun z => match env2[i]? with
      | some (.cel p xs2) => stQ xs2 y z fun xs' => E.nx (env2.set i (.cel p xs'))
      | _ => False
    | _ => False
  | _ => False
theorem saugC (i : Nat) {x : Str} {tpos : Pos} {op : Operator} {f : Int → Int → Int} (ho : PIp X op (ipI f)) (hi : PE X b (liftE X.K Z wb)) (he : PE X e (liftE X.K Z we)) (hN : X.N[i]? = some x := by rfl) (hv : Vis X.env.scope x := by first | exact Or.inl rfl | exact Or.inr (Or.inl rfl) | exact Or.inr (Or.inr rfl)) (hd : (x == ("__debug__" : Str)) = false := by decide)
    (hcd : (x == ("__classdict__" : Str)) = false := by decide)
    (ha : ∀ ov iv new, augStore b ov iv new = (do holding [new, ov, iv] (setItem ov iv new); release [new, ov, iv] []; pure .next) := by intros; rfl) : PS X (.AugAssign (.Subscript (.Name x p0) b tpos) op e pos) (liftS X.K Z m (dAugC i f wb we)) :=
  PS.of (ps_augS (pe_var hN hv hd hcd) hi get_list he ho set_list ha) fun D σ H ⟨g, F, env, P, k, w, q⟩ => by
    unfold dAugC at w
    split at w
    · rename_i p' xs' ex
      obtain ⟨a0, us0, b1, _⟩ := k.cel i p' xs' ex
      refine ⟨_, b1, g, F, env, _, k, w, fun y env1 v F1 H1 p1 e1 k1 r1 => ?_⟩
      split at p1
      · rename_i q1 xs ex1
        obtain ⟨n, rfl⟩ : ∃ n, y = .int n := by
          cases y <;> first | exact ⟨_, rfl⟩ | exact p1.elim
        cases r1.inv_int
        obtain ⟨d', ed, p1⟩ := pick_inv (show pick xs n _ from p1)
        obtain ⟨a1, ws, z1, z2, z3, z4, z5⟩ := k1.cel i _ _ ex1
        rw [b1] at z1
        cases z1
        obtain ⟨u, u1, u2⟩ := atI_rel z4 ed
        refine ⟨a0, ws, n, u, rfl, rfl, SqL.of z3, u1, g, F1, env1, _, k1, p1, fun d env2 v2 F2 H2 p2 e2 k2 r2 => ?_⟩
        unfold oI at p2
        split at p2
        · rename_i nx' dm
          cases u2.inv_int
          cases r2.inv_int
          refine ⟨_, _, rfl, rfl, ?_⟩
          split at p2
          · rename_i q3 xs2 ex2
            unfold stQ at p2
            dsimp only at p2
            split at p2
            · rename_i j ej
              obtain ⟨a3, us3, c1, c2, c3, c4, _⟩ := k2.cel i q3 xs2 ex2
              rw [b1] at c1
              cases c1
              exact ⟨a0, us3, n, j, rfl, rfl, c3, by rw [c4.length]; exact ej, q.nx _ σ F2 _ p2 (e1.trans e2) (k2.write ex2 b1 (c4.set j (.int _)))⟩
            · exact p2.elim
          · exact p2.elim
        · exact p2.elim
      · exact p1.elim
    · exact w.elim
/-- [e] * n, a new cell -/
def repQ (x y : PyData) (K : List PyData → Prop) : Prop := match y with
  | .int k => (-1000000 ≤ k ∧ k ≤ 100000) ∧ K (List.replicate k.toNat x)
  | _ => False
theorem q_rep {x : PyData} {k : Int} {K : List PyData → Prop} : repQ x (.int k) K = ((-1000000 ≤ k ∧ k ≤ 100000) ∧ K (List.replicate k.toNat x)) := rfl
def dRep (wa wb : DE) (env : List SD) (P : SD → List SD → Prop) : Prop := wa env fun x env1 => wb env1 fun y env2 => repQ x y fun xs => P (.cel false xs) env2
theorem rep_flat {α : Type} (x : α) : ∀ n : Nat, (List.replicate n [x]).flatten = List.replicate n x
  | 0 => rfl
  | n + 1 => by rw [List.replicate_succ, List.flatten_cons, rep_flat x n, List.replicate_succ]; rfl
theorem DRs.rep {F : Hp} {v : V} {d : PyData} (r : DR K F v d) : ∀ n : Nat, DRs K F (List.replicate n v) (List.replicate n d)
  | 0 => .nil
  | n + 1 => by rw [List.replicate_succ, List.replicate_succ]; exact .cons r (DRs.rep r n)
theorem drep {lp : Pos} (ha : PE X a (liftE X.K Z wa)) (hb : PE X b (liftE X.K Z wb)) (hs : starEach [a] X.env = (false, eval a X.env) :: starEach [] X.env := by rfl) : PE X (.BinOp (.List [a] lp) .Mult b pos) (liftX X.K Z (dRep wa wb)) :=
  PE.of (pe_op op_rep (pe_lst (pa_cons ha pa_nil hs)) hb) fun σ H Q ⟨g, F, env, P, k, w, q⟩ =>
    ⟨g, F, env, _, k, w, fun x env1 v F1 H1 p1 e1 k1 r1 => ⟨by show 1 ≤ sizeLine; decide, fun D hD => by
      obtain ⟨k2, rc⟩ := k1.newCell hD (DRs.one r1)
      obtain ⟨D', vs, eD, hF, hH, rr, h0, hpr, nw⟩ := rc
      cases eD
      refine ⟨_, F1, env1, _, k2.hide hF hH nw hpr, p1, fun y env2 v2 F2 H2 p2 e2 k3 r2 => ?_⟩
      obtain ⟨n, rfl, ⟨h1, h2⟩, p2⟩ : ∃ n, y = .int n ∧ (-1000000 ≤ n ∧ n ≤ 100000) ∧ P (.cel false (List.replicate n.toNat x)) env2 := by
        cases y <;> first | exact ⟨_, rfl, p2⟩ | exact p2.elim
      cases r2.inv_int
      obtain ⟨k4, z1, z2, z3⟩ := Ok.bare hpr k3
      have hvs : vs = [v] := by
        rw [upd_same] at hH
        cases hH
        rfl
      subst hvs
      refine ⟨D, n, [v], rfl, rfl, z2, by omega, by omega, ?_, fun p hp => ?_⟩
      · show 1 * n.toNat ≤ sizeLine
        exact Evl.sz_of (by omega)
      · rw [rep_flat]
        obtain ⟨k5, r5⟩ := k4.newCell hp (DRs.rep (r1.mono e2) n.toNat)
        exact q _ env2 _ _ _ p2 (e1.trans e2) k5 r5⟩⟩
end
theorem Dn.imp {P : Program} {w : World} {K : PySem.W.Frag} {mg : Str → Option Value} {base : Heap} {x : Str} {k : Nat} {ps : List Str} {S S' : DSp} (D : Dn P w K mg base x k ps S) (h : ∀ as Q, S' as Q → S as Q) : Dn P w K mg base x k ps S' :=
  ⟨let ⟨fd, F, b⟩ := D.ex; ⟨fd, F.imp h, b⟩, D.glo, D.kp⟩
theorem FnG.never {P : Program} {w : World} {K : PySem.W.Frag} {mg : Str → Option Value} {base : Heap} {k : Nat} {f : Addr} {fd : FuncData} {ps : List Str} {S : DSp} (h : ∀ as Q, ¬ S as Q) : FnG P w K mg base k f fd ps S :=
  ⟨fun as Q q => absurd q (h as Q), fun _ _ _ _ _ _ _ _ _ _ _ _ _ ⟨_, as, _, _, q, _⟩ => absurd q (h as _)⟩
end DL

/-! The data layer, part 19: // by a number of either sign. -/
namespace DL
variable {Z : Zx}
open PySem PySem.Spec PyProof.Rows L2
open Evl (Ex)
section
variable {X : Cx} {a b e : Expr} {wa wb : DE} {pos : Pos} {K : PySem.W.Frag}
theorem op_fdivA : OpR X (binaryOp .FloorDiv) (rI (fun _ j => j ≠ 0 ∧ j.natAbs.log2 < 9000) fun i j => .int (i.fdiv j)) := opI fun i j _ _ _ _ _ hc q => floordiv_int hc.1 q (.inl (PyProof.noPylong_of_log2 hc.2))
abbrev oFd : D2 := oIc (fun _ j => j ≠ 0 ∧ Sz j) fun i j => .int (i.fdiv j)
theorem q_fd {i j : Int} {P : PyData → Prop} : oFd (.int i) (.int j) P = ((j ≠ 0 ∧ Sz j) ∧ P (.int (i.fdiv j))) := rfl
theorem dfd (ha : PE X a (liftE X.K Z wa)) (hb : PE X b (liftE X.K Z wb)) : PE X (.BinOp a .FloorDiv b pos) (liftE X.K Z (dOp oFd wa wb)) :=
  dop op_fdivA (opd_I (fun _ _ h => ⟨h.1, Nat.lt_trans h.2.log (by decide)⟩) fun _ _ _ => .int _) ha hb
end
end DL

/-! The data layer, part 20: max and min of three, str of a whole number, enumerate, a list and a list as a new cell, cells lent to a call. -/
namespace DL
variable {Z : Zx}
open PySem PySem.Spec PyProof.Rows L2
open Evl (Ex)
section
variable {X : Cx} {a b e : Expr} {es : List Expr} {pos p : Pos} {was : DA} {wa wb we : DE} {K : PySem.W.Frag}
def max3 (i j k : Int) : Int := max (max i j) k
def min3 (i j k : Int) : Int := min (min i j) k
def nMax3 (xs : List PyData) (P : PyData → Prop) : Prop := match xs with
  | [.int i, .int j, .int k] => P (.int (max3 i j k))
  | _ => False
def nMin3 (xs : List PyData) (P : PyData → Prop) : Prop := match xs with
  | [.int i, .int j, .int k] => P (.int (min3 i j k))
  | _ => False
theorem q_max3 {i j k : Int} {P : PyData → Prop} : nMax3 [.int i, .int j, .int k] P = P (.int (max3 i j k)) := rfl
theorem q_min3 {i j k : Int} {P : PyData → Prop} : nMin3 [.int i, .int j, .int k] P = P (.int (min3 i j k)) := rfl
theorem DRs.inv3 {F : Hp} {vs : List V} {d e f : PyData} (h : DRs K F vs [d, e, f]) : ∃ v w u, vs = [v, w, u] ∧ DR K F v d ∧ DR K F w e ∧ DR K F u f := by
  cases h with
  | cons a b =>
    obtain ⟨w, u, rfl, r⟩ := b.inv2
    exact ⟨_, w, u, rfl, a, r⟩
theorem nuMax2_int (i j : Int) : nuMax2 (.int i) (.int j) = some (.int (max i j)) := by
  show some (if decide (i < j) = true then V.int j else V.int i) = some (V.int (max i j))
  by_cases h : i < j
  · rw [if_pos (by simpa using h), Int.max_eq_right (by omega)]
  · rw [if_neg (by simpa using h), Int.max_eq_left (by omega)]
theorem nuMin2_int (i j : Int) : nuMin2 (.int i) (.int j) = some (.int (min i j)) := by
  show some (if decide (j < i) = true then V.int j else V.int i) = some (V.int (min i j))
  by_cases h : j < i
  · rw [if_pos (by simpa using h), Int.min_eq_right (by omega)]
  · rw [if_neg (by simpa using h), Int.min_eq_left (by omega)]
theorem nuMax3_int (i j k : Int) : nuMax3 (.int i) (.int j) (.int k) = some (.int (max3 i j k)) := by
  unfold nuMax3 max3
  rw [nuMax2_int]
  exact nuMax2_int _ _
theorem nuMin3_int (i j k : Int) : nuMin3 (.int i) (.int j) (.int k) = some (.int (min3 i j k)) := by
  unfold nuMin3 min3
  rw [nuMin2_int]
  exact nuMin2_int _ _
theorem dmax3 (hm : X.mg "max" = none) (hc : X.calm = true) (ha : PA X (e :: es) (liftA X.K Z was)) (hg : Gl X "max" := by rfl)
    (he : starEach (e :: es) X.env = (false, eval e X.env) :: starEach es X.env := by rfl) (hpl : (backTo pos (starEach es X.env)).any (·.1) = false := by rfl) : PE X (.Call (.Name "max" p) (e :: es) [] pos) (liftE X.K Z (dB nMax3 was)) :=
  dcb (call_max3Nu hc) (fun _ g F env σ H vs ds P Q k r f q => by
    unfold nMax3 at f
    split at f
    · obtain ⟨v, w, u, rfl, r1, r2, r3⟩ := r.inv3
      cases r1.inv_int
      cases r2.inv_int
      cases r3.inv_int
      exact ⟨_, _, _, _, rfl, nuMax3_int _ _ _, q _ _ F H f (Ex.refl F) k (.int _)⟩
    · exact f.elim) hm (by decide +kernel) ha hg (by decide) (by decide) he hpl
theorem dmin3 (hm : X.mg "min" = none) (hc : X.calm = true) (ha : PA X (e :: es) (liftA X.K Z was)) (hg : Gl X "min" := by rfl)
    (he : starEach (e :: es) X.env = (false, eval e X.env) :: starEach es X.env := by rfl) (hpl : (backTo pos (starEach es X.env)).any (·.1) = false := by rfl) : PE X (.Call (.Name "min" p) (e :: es) [] pos) (liftE X.K Z (dB nMin3 was)) :=
  dcb (call_min3Nu hc) (fun _ g F env σ H vs ds P Q k r f q => by
    unfold nMin3 at f
    split at f
    · obtain ⟨v, w, u, rfl, r1, r2, r3⟩ := r.inv3
      cases r1.inv_int
      cases r2.inv_int
      cases r3.inv_int
      exact ⟨_, _, _, _, rfl, nuMin3_int _ _ _, q _ _ F H f (Ex.refl F) k (.int _)⟩
    · exact f.elim) hm (by decide +kernel) ha hg (by decide) (by decide) he hpl
/-! ### str of a whole number -/
/-- the figures of a whole number -/
@[irreducible] def shInt (i : Int) : Str := toString i
def nStr (xs : List PyData) (P : PyData → Prop) : Prop := match xs with
  | [.int i] => i.natAbs < 10 ^ 250 ∧ P (.str (shInt i))
  | _ => False
theorem q_str {i : Int} {P : PyData → Prop} : nStr [.int i] P = (i.natAbs < 10 ^ 250 ∧ P (.str (shInt i))) := rfl
theorem dstrOf (hm : X.mg "str" = none) (ha : PA X (e :: es) (liftA X.K Z was)) (hg : Gl X "str" := by rfl)
    (he : starEach (e :: es) X.env = (false, eval e X.env) :: starEach es X.env := by rfl) (hpl : (backTo pos (starEach es X.env)).any (·.1) = false := by rfl) : PE X (.Call (.Name "str" p) (e :: es) [] pos) (liftE X.K Z (dB nStr was)) :=
  dct call_str_int (fun _ g F env σ H vs ds P Q k r f q => by
    unfold nStr at f
    split at f
    · obtain ⟨v, rfl, r1⟩ := r.inv1
      cases r1.inv_int
      refine ⟨_, rfl, Nat.lt_trans (log250 f.1) (by decide), q _ _ F H f.2 (Ex.refl F) k ?_⟩
      unfold shInt
      exact .str _
    · exact f.elim) hm (by decide +kernel) ha hg (by decide) (by decide) he hpl
/-! ### a list and a list as a new cell -/
def catQ (xs : List PyData) (y : PyData) (K : List PyData → Prop) : Prop := match y with
  | .list ys => xs.length + ys.length ≤ 100000 ∧ K (xs ++ ys)
  | _ => False
theorem q_cat {xs ys : List PyData} {K : List PyData → Prop} : catQ xs (.list ys) K = (xs.length + ys.length ≤ 100000 ∧ K (xs ++ ys)) := rfl
theorem catQ_inv {xs : List PyData} {y : PyData} {K : List PyData → Prop} (h : catQ xs y K) : ∃ ys, y = .list ys ∧ xs.length + ys.length ≤ 100000 ∧ K (xs ++ ys) := by
  cases y <;> first | exact ⟨_, rfl, h⟩ | exact h.elim
def dCatC (i : Nat) (wb : DE) (env : List SD) (P : SD → List SD → Prop) : Prop := match env[i]? with
  | some (.cel _ _) => wb env fun y env1 => match env1[i]? with
    | some (.cel _ xs) => catQ xs y fun zs => P (.cel false zs) env1
    | _ => False
  | _ => False
theorem dcatC (i : Nat) {x : Str} {p0 : Pos} (hb : PE X b (liftE X.K Z wb)) (hN : X.N[i]? = some x := by rfl) (hv : Vis X.env.scope x := by first | exact Or.inl rfl | exact Or.inr (Or.inl rfl) | exact Or.inr (Or.inr rfl)) (hd : (x == ("__debug__" : Str)) = false := by decide)
    (hcd : (x == ("__classdict__" : Str)) = false := by decide) : PE X (.BinOp (.Name x p0) .Add b pos) (liftX X.K Z (dCatC i wb)) :=
  PE.of (pe_op op_catL (pe_var hN hv hd hcd) hb) fun σ H Q h => by
    obtain ⟨g, F, env, P, k, w, q⟩ := h
    unfold dCatC at w
    split at w
    · rename_i p xs e
      obtain ⟨a0, vs, h1, _⟩ := k.cel i p xs e
      refine ⟨_, h1, g, F, env, _, k, w, fun d env1 v F1 H1 p1 e1 k1 r1 => ?_⟩
      split at p1
      · rename_i p' ys e'
        obtain ⟨zs, rfl, hz, p1⟩ := catQ_inv p1
        obtain ⟨a1, ws, z1, z2, z3, z4, z5⟩ := k1.cel i _ _ e'
        rw [h1] at z1
        cases z1
        obtain ⟨b1, us, rfl, y1, y2⟩ := r1.inv_lst
        refine ⟨a0, b1, ws, us, rfl, rfl, RdL.of z3, y1.mono k1.fh, by rw [z4.length, y2.length]; exact sz2 hz, fun p hp => ?_⟩
        obtain ⟨k2, r2⟩ := k1.newCell hp (z4.append y2)
        exact q _ env1 _ _ _ p1 e1 k2 r2
      · exact p1.elim
    · exact w.elim
def dCatN (wa wb : DE) (env : List SD) (P : SD → List SD → Prop) : Prop := wa env fun x env1 => wb env1 fun y env2 => match x with
  | .list xs => catQ xs y fun zs => P (.cel false zs) env2
  | _ => False
/-- a list, as a row of items -/
def catN (x y : PyData) (K : List PyData → Prop) : Prop := match x with
  | .list xs => catQ xs y K
  | _ => False
theorem q_catN {xs ys : List PyData} {K : List PyData → Prop} : catN (.list xs) (.list ys) K = (xs.length + ys.length ≤ 100000 ∧ K (xs ++ ys)) := rfl
theorem dcatN (ha : PE X a (liftE X.K Z wa)) (hb : PE X b (liftE X.K Z wb)) : PE X (.BinOp a .Add b pos) (liftX X.K Z (dCatN wa wb)) :=
  PE.of (pe_op op_catL ha hb) fun σ H Q ⟨g, F, env, P, k, w, q⟩ => ⟨g, F, env, _, k, w, fun x env1 v F1 H1 p1 e1 k1 r1 => ⟨g, F1, env1, _, k1, p1, fun y env2 v2 F2 H2 p2 e2 k2 r2 => by
    split at p2
    · obtain ⟨zs, rfl, hz, p2⟩ := catQ_inv p2
      obtain ⟨a1, us, rfl, y1, y2⟩ := r1.inv_lst
      obtain ⟨b1, ws, rfl, y3, y4⟩ := r2.inv_lst
      refine ⟨a1, b1, us, ws, rfl, rfl, y1.mono (e2.trans k2.fh), y3.mono k2.fh, by rw [y2.length, y4.length]; exact sz2 hz, fun p hp => ?_⟩
      obtain ⟨k3, r3⟩ := k2.newCell hp ((y2.mono e2).append y4)
      exact q _ env2 _ _ _ p2 (e1.trans e2) k3 r3
    · exact p2.elim⟩⟩
/-! ### cells lent: within an expression they are data that stay; its answer is no list -/
def scalQ (d : PyData) (p : Prop) : Prop := match d with
  | .none => p
  | .bool _ => p
  | .int _ => p
  | .str _ => p
  | _ => False
theorem q_scalN {p : Prop} : scalQ .none p = p := rfl
theorem q_scalB {b : Bool} {p : Prop} : scalQ (.bool b) p = p := rfl
theorem q_scalI {i : Int} {p : Prop} : scalQ (.int i) p = p := rfl
theorem q_scalS {x : Str} {p : Prop} : scalQ (.str x) p = p := rfl
theorem scalQ_inv {d : PyData} {p : Prop} (h : scalQ d p) : p ∧ ∀ {F F' : Hp} {v : V}, DR K F v d → DR K F' v d := by
  cases d with
  | none => exact ⟨h, fun r => by cases r; exact .non⟩
  | bool b => exact ⟨h, fun r => by cases r; exact .bl b⟩
  | int i => exact ⟨h, fun r => by cases r; exact .int i⟩
  | str x => exact ⟨h, fun r => by cases r; exact .str x⟩
  | list _ => exact h.elim
  | tuple _ => exact h.elim
  | dict _ => exact h.elim
def frz1 : SD → SD
  | .cel _ xs => .dat (.list xs)
  | s => s
def frz (env : List SD) : List SD := env.map frz1
def dBor (w : DE) (env : List SD) (P : PyData → List SD → Prop) : Prop := w (frz env) fun d _ => scalQ d (P d env)
def tBor (w : DT) (env : List SD) (P : Bool → List SD → Prop) : Prop := w (frz env) fun b _ => P b env
theorem Ok.later {g : Gx Z} {F : Hp} {env : List SD} {σ : L2.St} {H H' : Hp} (k : Ok K g F env σ H) (e : Ex H H') : Ok K g F env σ H' where
  len := k.len
  fh := k.fh.trans e
  dat := k.dat
  cel := fun i q xs h => by
    obtain ⟨a, vs, h1, h2, h3, h4, h5⟩ := k.cel i q xs h
    exact ⟨a, vs, h1, h2, e _ _ h3, h4, h5⟩
  sep := k.sep
  pin := k.pin
  frame := fun a u h n => e _ _ (k.frame a u h n)
  newF := k.newF
  oldF := k.oldF
  prot := fun a u h => by
    obtain ⟨z1, z2, z3⟩ := k.prot a u h
    exact ⟨e _ _ z1, z2, z3⟩
theorem Ok.lend {g : Gx Z} {F : Hp} {env : List SD} {σ : L2.St} {H : Hp} (k : Ok K g F env σ H) : ∃ (Z' : Zx) (g' : Gx Z') (F' : Hp), Ok K g' F' (frz env) σ H ∧ Z'.H0 = H ∧ (∀ i, Z'.A0 i = none) := by
  classical
  let c : Addr → Prop := fun a => ∃ (i : Nat) (p : Bool) (xs : List PyData), env[i]? = some (.cel p xs) ∧ σ[i]? = some (some (.ref a))
  let F' : Hp := fun a => if c a then H a else F a
  have ex : Ex F F' := fun a o h => by
    show (if c a then H a else F a) = some o
    by_cases z : c a
    · rw [if_pos z]
      exact k.fh a o h
    · rw [if_neg z]
      exact h
  have fh : Ex F' H := fun a o h => by
    have h : (if c a then H a else F a) = some o := h
    by_cases z : c a
    · rw [if_pos z] at h
      exact h
    · rw [if_neg z] at h
      exact k.fh a o h
  refine ⟨⟨F', H, fun _ => none, fun _ => none⟩, ⟨fun _ => none, fun _ _ h => h⟩, F', ⟨?_, fh, fun i d h => ?_, fun i p xs h => ?_, fun i j p q xs ys a h => ?_, fun i a h => ?_, fun a o h _ => h, fun a o h => .inl h, Ex.refl _, fun a o h => ?_⟩, rfl, fun _ => rfl⟩
  · unfold frz
    rw [List.length_map]
    exact k.len
  · unfold frz at h
    rw [List.getElem?_map] at h
    cases e : env[i]? with
    | none => rw [e] at h; cases h
    | some s =>
      rw [e] at h
      cases s with
      | un => cases h
      | dat d' =>
        cases h
        obtain ⟨v, h1, h2⟩ := k.dat i _ e
        exact ⟨v, h1, h2.mono ex⟩
      | cel p xs =>
        cases h
        obtain ⟨a, vs, h1, h2, h3, h4, h5⟩ := k.cel i p xs e
        refine ⟨_, h1, .lst (RdL.of (xs := vs) ?_) (h4.mono ex)⟩
        show (if c a then H a else F a) = _
        rw [if_pos ⟨i, p, xs, e, h1⟩]
        exact h3
  · unfold frz at h
    rw [List.getElem?_map] at h
    cases e : env[i]? with
    | none => rw [e] at h; cases h
    | some s => rw [e] at h; cases s <;> cases h
  · unfold frz at h
    rw [List.getElem?_map] at h
    cases e : env[i]? with
    | none => rw [e] at h; cases h
    | some s => rw [e] at h; cases s <;> cases h
  · cases h
  · cases h
theorem PE.anyZ {ι : Type} {t : ι → TE} (h : ∀ i, PE X e (t i)) : PE X e (fun σ H Q => ∃ i, t i σ H Q) := ⟨fun pins s σ H Q I ⟨i, w⟩ => (h i).run pins s σ H Q I w⟩
theorem PT.anyZ {ι : Type} {t : ι → TT} (h : ∀ i, PT X e (t i)) : PT X e (fun σ H Q => ∃ i, t i σ H Q) := ⟨fun pins s σ H Q I ⟨i, w⟩ => (h i).run pins s σ H Q I w⟩
theorem dbor {w : DE} (h : ∀ {Z : Zx}, PE X e (liftE X.K Z w)) : PE X e (liftE X.K Z (dBor w)) := PE.of (PE.anyZ fun Z => h (Z := Z)) fun σ H Q ⟨g, F, env, P, k, w, q⟩ => by
  obtain ⟨Z', g', F', k', e1, e2⟩ := k.lend
  refine ⟨Z', g', F', frz env, _, k', w, fun d env1 v F1 H1 p e3 k1 r1 => ?_⟩
  obtain ⟨p, hr⟩ := scalQ_inv p
  have eh : Ex H H1 := fun a o h => k1.frame a o (by rw [show g'.H0 = H from e1]; exact h) fun i z => by rw [show g'.A0 i = none from e2 i] at z; cases z
  exact q d env v F H1 p (Ex.refl F) (k.later eh) (hr r1)
theorem tbor {w : DT} (h : ∀ {Z : Zx}, PT X e (liftT X.K Z w)) : PT X e (liftT X.K Z (tBor w)) := PT.of (PT.anyZ fun Z => h (Z := Z)) fun σ H Q ⟨g, F, env, P, k, w, q⟩ => by
  obtain ⟨Z', g', F', k', e1, e2⟩ := k.lend
  refine ⟨Z', g', F', frz env, _, k', w, fun d env1 F1 H1 p e3 k1 => ?_⟩
  have eh : Ex H H1 := fun a o h => k1.frame a o (by rw [show g'.H0 = H from e1]; exact h) fun i z => by rw [show g'.A0 i = none from e2 i] at z; cases z
  exact q d env F H1 p (Ex.refl F) (k.later eh)
/-! ### enumerate -/
/-- the tuple at a as it stands at each turn, each item in a new pair -/
def IteT (K : PySem.W.Frag) (a : Addr) : It :=
  ⟨fun i H => ∃ (xs : List V) (x : V), SqT K H a xs ∧ xs[i]? = some x, fun i H v H' => ∃ T x, v = .ref T ∧ H T = none ∧ H' = upd H T (.tup [.int (i : Nat), x]) ∧ ∀ xs, SqT K H a xs → xs[i]? = some x, fun i H => ∃ xs : List V, SqT K H a xs ∧ xs.length ≤ i⟩
theorem turn_enumT {P : Program} {w : World} {K : PySem.W.Frag} {elts : List Expr} {kk : Nat} {tpos : Pos} (a e it : Addr) (hai : a ≠ it) (hae : e ≠ a) :
    Turn P w K (.Tuple elts kk tpos) (IteT K a) [e, it] e (fun i h => (∃ old, IsEnum h e it ((i : Nat) : Int) old) ∧ h.IsTupleIter it a i ∧ e ≠ it) where
  mem := by simp
  obj := fun i h st b hb => by
    obtain ⟨⟨old, he⟩, ⟨o, ho, hc, hd⟩, _⟩ := st
    have e' : b = e ∨ b = it := by simpa using hb
    rcases e' with z | z
    · rw [z]; exact ⟨_, he, fun v q => nomatch q⟩
    · rw [z]; exact ⟨o, ho, fun v q => by rw [hd] at q; cases q⟩
  keep := fun i h h' st k => let ⟨⟨old, he⟩, hi, hne⟩ := st; ⟨⟨old, k e (by simp) _ he⟩, hi.at fun o q => k it (by simp) o q, hne⟩
  item := by
    intro X hP hw hK hc i pins s σ H E I hf st hg
    subst hP hw hK
    obtain ⟨⟨old, he⟩, hit, hne⟩ := st
    obtain ⟨xs, x, hq, hx⟩ := hg
    obtain ⟨its, rv, p, hz⟩ := I.tuple hq
    obtain ⟨u, hu, ru⟩ := rv.get hx
    have hel : e < s.heap.objs.size := Heap.lt_size he
    have hil : it < s.heap.objs.size := by obtain ⟨_, q, _⟩ := hit; exact Heap.lt_size q
    have hii : i < its.toArray.size := by
      rcases Nat.lt_or_ge i its.toArray.size with z | z
      · exact z
      · rw [List.getElem?_eq_none (by simpa using z)] at hu; cases hu
    refine wpAny_pyNext_enum_itemD (Draws.tuple (A := X.A.in1) (show X.A.in1.handled = none from I.ok.hd hc) it a hai its.toArray) he ⟨hit, p⟩ hii hne (by simp [hne, hae]) fun y h' tk hy ho hit' hT hsz hk => ?_
    have hyu : y = u := by
      have : its.toArray[i]? = some u := by simpa using hu
      rw [this] at hy
      exact (Option.some.inj hy).symm
    subst hyu
    refine ⟨_, rfl, wpAny_letOwnedTupleGo_enum (s := { s with heap := h', toks := tk + 1 }) ho fun h'' he' sb => ?_⟩
    have hT2 : h''.get? s.heap.objs.size = some { cls := .type "tuple", data := .seq #[.int i tk, y] } := (sb.2 _ (Nat.ne_of_gt hel)).trans hT
    have new : ObjOk X.prog X.w (upd H s.heap.objs.size (.tup [.int (i : Nat), x])) h'' s.heap.objs.size (.tup [.int (i : Nat), x]) :=
      ⟨by show 2 ≤ sizeLine; decide, [.int i tk, y], .cons ⟨_, rfl⟩ (.cons ru .nil), ⟨_, hT2, rfl, _, rfl⟩⟩
    have I1 : Inv X pins σ (upd H s.heap.objs.size (.tup [.int (i : Nat), x])) { s with heap := h'', toks := tk + 1 } :=
      I.turnedNew (ch := [e, it]) (fun b ob hb q => (sb.2 b (fun z => hb (by simp [z]))).trans (hk b ob (fun z => hb (by simp [z])) (fun z => hb (by simp [z])) q)) hf (Nat.le_refl _) new
    refine ⟨.ref s.heap.objs.size, _, I1, rfl, ⟨_, x, rfl, I.hok.fresh (Nat.le_refl _), rfl, fun ys hy => by rw [I.tuple_inj hy hq]; exact hx⟩, ⟨⟨y, ?_⟩, hit'.1.at fun o q => (sb.2 it (Ne.symm hne)).trans q, hne⟩, fun b hb => ?_⟩
    · have e1 : ((i + 1 : Nat) : Int) = (i : Int) + 1 := by omega
      rw [e1]; exact he'
    · have hb' : b < s.heap.objs.size := by
        have e' : b = e ∨ b = it := by simpa using hb
        rcases e' with z | z
        · rw [z]; exact hel
        · rw [z]; exact hil
      rw [upd_ne (Nat.ne_of_lt hb')]
      exact (hf b hb).1
  done := by
    intro X hP hw hK hc i pins s σ H E I hf st hg
    subst hP hw hK
    obtain ⟨⟨old, he⟩, hit, hne⟩ := st
    obtain ⟨xs, hq, hx⟩ := hg
    obtain ⟨its, rv, p, hz⟩ := I.tuple hq
    obtain ⟨f0, f1, f2, f3, f4, f5⟩ := hf it (by simp)
    have hl := rv.length
    have hd : X.A.handled = none := I.ok.hd hc
    have hT : s.TypeIs (.ref e) "enumerate" := ⟨_, he, rfl⟩
    unfold pyNext
    refine wpAny_bind (wpAny_attempt (wpAny_callSpecial?_slot (name := Str.ofString "__next__") hT F.slot_enumerate_next
      (wpAny_call_entry F.slot_enumerate_next hT F.entry_enumerate_next ?_ (F.args_enumerate_next_1 _))))
    show wpAny _ _ (field (.ref e) 2 >>= _) _ _ _
    refine wpAny_bind (wpAny_field he rfl (x := .ref it) rfl ?_)
    refine wpAny_bind (RZ.nextOf_tuple_end hd hit p (by simp; omega) fun h' x he' hx' => ?_)
    obtain ⟨o, ho, hc⟩ := hx'
    refine wpAny_bind (wpAny_isInstance (T := "StopIteration") (b := true) ⟨o, ho, hc⟩ isSubtype_stop ?_)
    exact wpAny_pure ⟨rfl, I.turned (t' := s.toks) (fun b o hb q => he' b o hb q) f0 f1 f3 f4 f5⟩
  self := fun A i s Q E st h => let ⟨⟨_, he⟩, _⟩ := st; wpAny_pyIter_enum he h
set_option maxHeartbeats 1000000 in
theorem meets_enumerate_new1 {v : Value} {o : Obj} {H : Heap → Prop} (B : Begins v o H) :
    Meets (Builtin.«enumerate.__new__» ⟨[.type "enumerate", v], []⟩) (fun _ R s => H s.heap ∧
      R (.ok (.ret (.ref (s.heap.push o).objs.size))) { s with heap := (s.heap.push o).push { cls := .type "enumerate", data := .fields #[.none, .bool false, .ref s.heap.objs.size, rawInt 0, .none, .none] } }) :=
  .of_wp fun prog w A R s h => by
    obtain ⟨hp, g, d, tk, os⟩ := s; obtain ⟨h1, h⟩ := h
    have hsub := sub_enumerate
    have q1 : ∀ {A' : Around} {E : Value → Shared → Prop} {Q : Value → Shared → Prop}, Q (.ref hp.objs.size) ⟨hp.push o, g, d, tk, os⟩ → wpAny (model prog w) A' (pyIter v) Q E ⟨hp, g, d, tk, os⟩ :=
      fun q => B.iter prog w _ _ ⟨hp, g, d, tk, os⟩ _ h1 q
    wp_walk using q1
    refine wpAny_stack_any fun st => wpAny_pure ?_
    split
    · rename_i c _ _ _ _ _
      cases (c == Value.type "enumerate")
      · wp_walk using q1
        exact ⟨_, rfl, h⟩
      · wp_walk using q1
        exact ⟨_, rfl, h⟩
    · wp_walk using q1
      exact ⟨_, rfl, h⟩
theorem enum_begins1 {prog : Program} {w : World} {A : Around} {E : Value → Shared → Prop} {s : Shared} {v : Value} {o : Obj} {H : Heap → Prop} {Q : Value → Shared → Prop} (B : Begins v o H) (h1 : H s.heap)
    (h : ∀ h', IsEnum h' (s.heap.objs.size + 1) s.heap.objs.size 0 .none → h'.get? s.heap.objs.size = some o → h'.objs.size = s.heap.objs.size + 2 →
      (∀ b o, s.heap.get? b = some o → h'.get? b = some o) → Q (.ref (s.heap.objs.size + 1)) { s with heap := h' }) :
    wpAny (model prog w) A (call (.type "enumerate") [v]) Q E s := by
  refine callType_new F.called_enumerate (by decide) (F.typeCall_enumerate_1 _) (F.newCall_enumerate_1 _) (fun obj => F.args_object_init_2 obj _) F.entry_enumerate_new
    (meets_enumerate_new1 B) ⟨h1, ?_⟩
  have hz : (s.heap.push o).objs.size = s.heap.objs.size + 1 := Heap.size_push ..
  show _ ∧ _
  rw [hz]
  have he : IsEnum ((s.heap.push o).push { cls := .type "enumerate", data := .fields #[.none, .bool false, .ref s.heap.objs.size, rawInt 0, .none, .none] }) (s.heap.objs.size + 1) s.heap.objs.size 0 .none := by
    have := Heap.get?_push_size (s.heap.push o) (o := { cls := .type "enumerate", data := .fields #[.none, .bool false, .ref s.heap.objs.size, rawInt 0, .none, .none] }) rfl
    rw [hz] at this; exact this
  refine ⟨⟨_, he, rfl⟩, h _ he (Heap.get?_push_of_some _ (Heap.get?_push_size _ B.free)) (by rw [Heap.size_push, hz]) fun b o x => Heap.get?_push_of_some _ (Heap.get?_push_of_some _ x)⟩
def iEnumA (K : PySem.W.Frag) (ta : TA) : TI := fun σ H R => ta σ H fun vs H1 => ∃ a xs, vs = [.ref a] ∧ ((SqL K H1 a xs ∧ R (Ite K a) H1) ∨ (SqT K H1 a xs ∧ R (IteT K a) H1))
theorem pi_enumA {ta : TA} {tpos : Pos} {elts : List Expr} {kk : Nat} (hg : Gl X "enumerate") (hm : X.mg "enumerate" = none) (ha : PA X [e] ta) (hs : starEach [e] X.env = [(false, eval e X.env)] := by rfl) :
    PI X (.Tuple elts kk tpos) (.Call (.Name "enumerate" p) [e] [] pos) (iEnumA X.K ta) := by
  refine ⟨fun pins s σ H R I h => ?_⟩
  refine Call_ (ld_blt I hg hm boot_enumerate (PyProof.Rows.callWith_type1 (thn (ha.run pos pins s σ H _ I h) fun us s1 ⟨vs, H1, I1, r1, q1⟩ => ?_) hs rfl))
  obtain ⟨a, xs, ex, q1⟩ := q1
  subst ex
  cases r1 with
  | cons r rr =>
    cases rr
    cases r
    rcases q1 with ⟨hq, q⟩ | ⟨hq, q⟩
    · obtain ⟨its, rv, p', hz⟩ := I1.list hq
      refine call_enumerate_list p'.isList fun h' he hit hsz hk => wpAny_pyIter_enum he ?_
      have I2 : Inv X pins σ H1 { s1 with heap := h' } := I1.kept (t' := s1.toks) hk
      refine ⟨s1.heap.objs.size + 1, [s1.heap.objs.size + 1, s1.heap.objs.size], _, _, H1, rfl, I2, turn_enum a (s1.heap.objs.size + 1) s1.heap.objs.size, ⟨⟨.none, he⟩, hit, Nat.succ_ne_self _⟩, fun b hb => ?_, q⟩
      have e' : b = s1.heap.objs.size + 1 ∨ b = s1.heap.objs.size := by simpa using hb
      have hle : s1.heap.objs.size ≤ b := by
        rcases e' with z | z
        · rw [z]; exact Nat.le_add_right _ _
        · rw [z]; exact Nat.le_refl _
      exact I1.fpOk hle (I1.hok.fresh hle)
    · obtain ⟨its, rv, p', hz⟩ := I1.tuple hq
      have hal : a < s1.heap.objs.size := by obtain ⟨_, z, _⟩ := p'; exact Heap.lt_size z
      refine enum_begins1 (begins_tuple a its.toArray) p' fun h' he hit hsz hk => wpAny_pyIter_enum he ?_
      have I2 : Inv X pins σ H1 { s1 with heap := h' } := I1.kept (t' := s1.toks) hk
      refine ⟨s1.heap.objs.size + 1, [s1.heap.objs.size + 1, s1.heap.objs.size], _, _, H1, rfl, I2, turn_enumT a (s1.heap.objs.size + 1) s1.heap.objs.size (Nat.ne_of_lt hal) (Nat.ne_of_gt (Nat.lt_succ_of_lt hal)), ⟨⟨.none, he⟩, ⟨_, hit, rfl, rfl⟩, Nat.succ_ne_self _⟩, fun b hb => ?_, q⟩
      have e' : b = s1.heap.objs.size + 1 ∨ b = s1.heap.objs.size := by simpa using hb
      have hle : s1.heap.objs.size ≤ b := by
        rcases e' with z | z
        · rw [z]; exact Nat.le_add_right _ _
        · rw [z]; exact Nat.le_refl _
      exact I1.fpOk hle (I1.hok.fresh hle)
/-- 0, 1, .. beside the items -/
def enumD : Nat → List PyData → List PyData
  | _, [] => []
  | n, x :: xs => .tuple [.int (n : Nat), x] :: enumD (n + 1) xs
theorem enumD_length : ∀ (xs : List PyData) (n : Nat), (enumD n xs).length = xs.length
  | [], _ => rfl
  | _ :: xs, n => congrArg (· + 1) (enumD_length xs (n + 1))
theorem enumD_get : ∀ {xs : List PyData} {n i : Nat} {d : PyData}, (enumD n xs)[i]? = some d → ∃ x, xs[i]? = some x ∧ d = .tuple [.int ((n + i : Nat) : Int), x]
  | [], _, _, _, h => by simp [enumD] at h
  | x :: xs, n, 0, d, h => by simp [enumD] at h; exact ⟨x, rfl, h.symm⟩
  | x :: xs, n, i + 1, d, h => by
    obtain ⟨u, h1, h2⟩ := enumD_get (xs := xs) (n := n + 1) (i := i) (d := d) (by simpa [enumD] using h)
    exact ⟨u, by simpa using h1, by rw [h2, show n + 1 + i = n + (i + 1) by omega]⟩
def enumQ (ds : List PyData) (K : List PyData → Prop) : Prop := match ds with
  | [.list xs] => At (enumD 0 xs) K
  | [.tuple xs] => At (enumD 0 xs) K
  | _ => False
theorem q_enumL {xs : List PyData} {K : List PyData → Prop} : enumQ [.list xs] K = K (enumD 0 xs) := At.eq
theorem q_enumT {xs : List PyData} {K : List PyData → Prop} : enumQ [.tuple xs] K = K (enumD 0 xs) := At.eq
theorem walkD_enumL {F : Hp} {a : Addr} {us : List V} {xs : List PyData} (h1 : RdL K F a us) (h2 : DRs K F us xs) : WalkD K F (Ite K a) (enumD 0 xs) := by
  refine ⟨fun H => SqL K H a us, fun i H v H' => ∃ T x, v = .ref T ∧ H T = none ∧ H' = upd H T (.tup [.int (i : Nat), x]) ∧ us[i]? = some x, ⟨fun i H hi q => ?_, fun H q => ?_, fun i H x H' hi q y => ?_⟩, fun H e => (h1.mono e).sq, fun i H x H' d _ e y => ?_⟩
  · rw [enumD_length, ← h2.length] at hi
    exact ⟨us, us[i]'hi, q, by simp [hi]⟩
  · exact ⟨us, q, by rw [enumD_length, ← h2.length]; exact Nat.le_refl _⟩
  · obtain ⟨T, u, z1, z2, z3, z4⟩ := y
    exact ⟨T, u, z1, z2, z3, z4 us q⟩
  · obtain ⟨T, u, z1, z2, z3, z4⟩ := y
    obtain ⟨dx, e1, rfl⟩ := enumD_get e
    obtain ⟨u', y1, y2⟩ := h2.get e1
    rw [z4] at y1
    cases y1
    refine .inr ⟨T, _, _, z1, z2, z3, rfl, .cons ?_ (.one y2)⟩
    rw [Nat.zero_add]
    exact .int _
theorem walkD_enumT {F : Hp} {a : Addr} {us : List V} {xs : List PyData} (h1 : SqT K F a us) (h2 : DRs K F us xs) : WalkD K F (IteT K a) (enumD 0 xs) := by
  refine ⟨fun H => SqT K H a us, fun i H v H' => ∃ T x, v = .ref T ∧ H T = none ∧ H' = upd H T (.tup [.int (i : Nat), x]) ∧ us[i]? = some x, ⟨fun i H hi q => ?_, fun H q => ?_, fun i H x H' hi q y => ?_⟩, fun H e => Evl.ex_t e h1, fun i H x H' d _ e y => ?_⟩
  · rw [enumD_length, ← h2.length] at hi
    exact ⟨us, us[i]'hi, q, by simp [hi]⟩
  · exact ⟨us, q, by rw [enumD_length, ← h2.length]; exact Nat.le_refl _⟩
  · obtain ⟨T, u, z1, z2, z3, z4⟩ := y
    exact ⟨T, u, z1, z2, z3, z4 us q⟩
  · obtain ⟨T, u, z1, z2, z3, z4⟩ := y
    obtain ⟨dx, e1, rfl⟩ := enumD_get e
    obtain ⟨u', y1, y2⟩ := h2.get e1
    rw [z4] at y1
    cases y1
    refine .inr ⟨T, _, _, z1, z2, z3, rfl, .cons ?_ (.one y2)⟩
    rw [Nat.zero_add]
    exact .int _
theorem ienum {elts : List Expr} {kk : Nat} {tpos : Pos} (hm : X.mg "enumerate" = none) (ha : PA X [a] (liftA X.K Z was)) (hg : Gl X "enumerate" := by rfl) (hs : starEach [a] X.env = [(false, eval a X.env)] := by rfl) :
    PI X (.Tuple elts kk tpos) (.Call (.Name "enumerate" p) [a] [] pos) (liftI X.K Z (dIt enumQ was)) :=
  PI.of (pi_enumA hg hm ha hs) fun σ H R ⟨g, F, env, P, k, w, q⟩ => ⟨g, F, env, _, k, w, fun ds env1 vs F1 H1 p e1 k1 r1 => by
    unfold enumQ at p
    split at p
    · obtain ⟨v, rfl, r2⟩ := r1.inv1
      obtain ⟨a, us, rfl, h1, h2⟩ := r2.inv_lst
      exact ⟨a, us, rfl, .inl ⟨(h1.mono k1.fh).sq, q _ env1 _ F1 H1 p.out e1 k1 (walkD_enumL h1 h2)⟩⟩
    · obtain ⟨v, rfl, r2⟩ := r1.inv1
      obtain ⟨a, us, rfl, h1, h2⟩ := r2.inv_tup
      exact ⟨a, us, rfl, .inr ⟨Evl.ex_t k1.fh h1, q _ env1 _ F1 H1 p.out e1 k1 (walkD_enumT h1 h2)⟩⟩
    · exact p.elim⟩
end
end DL

/-! The data layer, part 21: max and min of a list or tuple of whole numbers; in, not in. -/
namespace DL
variable {Z : Zx}
open PySem PySem.Spec PyProof.Rows L2
open Evl (Ex)
section
variable {X : Cx} {a b e : Expr} {es : List Expr} {pos p : Pos} {was : DA} {wa wb we : DE} {K : PySem.W.Frag}
theorem maxOf_int (x : Int) : ∀ xs : List Int, PySem.W.maxOf x xs ∈ x :: xs ∧ ∀ a ∈ x :: xs, a ≤ PySem.W.maxOf x xs := by
  intro xs
  unfold PySem.W.maxOf
  induction xs generalizing x with
  | nil => exact ⟨by simp, fun a h => by simp at h; subst h; exact Int.le_refl _⟩
  | cons y ys ih =>
    rw [List.foldl_cons]
    by_cases h : x < y
    · rw [if_pos (show PySem.W.DatumOrd.lt x y = true from decide_eq_true h)]
      obtain ⟨h1, h2⟩ := ih y
      refine ⟨List.mem_cons_of_mem _ h1, fun a ha => ?_⟩
      rcases List.mem_cons.mp ha with rfl | ha
      · have := h2 y (by simp)
        omega
      · exact h2 a ha
    · rw [if_neg (show ¬ PySem.W.DatumOrd.lt x y = true from fun z => h (of_decide_eq_true z))]
      obtain ⟨h1, h2⟩ := ih x
      refine ⟨?_, fun a ha => ?_⟩
      · rcases List.mem_cons.mp h1 with z | z
        · rw [z]; simp
        · exact List.mem_cons_of_mem _ (List.mem_cons_of_mem _ z)
      · rcases List.mem_cons.mp ha with rfl | ha
        · exact h2 _ (by simp)
        · rcases List.mem_cons.mp ha with rfl | ha
          · have := h2 x (by simp)
            omega
          · exact h2 a (List.mem_cons_of_mem _ ha)
theorem minOf_int (x : Int) : ∀ xs : List Int, PySem.W.minOf x xs ∈ x :: xs ∧ ∀ a ∈ x :: xs, PySem.W.minOf x xs ≤ a := by
  intro xs
  unfold PySem.W.minOf
  induction xs generalizing x with
  | nil => exact ⟨by simp, fun a h => by simp at h; subst h; exact Int.le_refl _⟩
  | cons y ys ih =>
    rw [List.foldl_cons]
    by_cases h : y < x
    · rw [if_pos (show PySem.W.DatumOrd.lt y x = true from decide_eq_true h)]
      obtain ⟨h1, h2⟩ := ih y
      refine ⟨List.mem_cons_of_mem _ h1, fun a ha => ?_⟩
      rcases List.mem_cons.mp ha with rfl | ha
      · have := h2 y (by simp)
        omega
      · exact h2 a ha
    · rw [if_neg (show ¬ PySem.W.DatumOrd.lt y x = true from fun z => h (of_decide_eq_true z))]
      obtain ⟨h1, h2⟩ := ih x
      refine ⟨?_, fun a ha => ?_⟩
      · rcases List.mem_cons.mp h1 with z | z
        · rw [z]; simp
        · exact List.mem_cons_of_mem _ (List.mem_cons_of_mem _ z)
      · rcases List.mem_cons.mp ha with rfl | ha
        · exact h2 _ (by simp)
        · rcases List.mem_cons.mp ha with rfl | ha
          · have := h2 x (by simp)
            omega
          · exact h2 a (List.mem_cons_of_mem _ ha)
theorem readsAll_ints {h : Heap} : ∀ {its : List Value} {ns : List Int}, Vals (ns.map V.int) its → ∃ as, PySem.ReadsAll h its (ns.map PySem.W.Datum.toD) as
  | its, [], r => by cases r; exact ⟨_, .nil⟩
  | its, n :: ns, r => by
    cases r with
    | cons r1 r2 =>
      obtain ⟨t, rfl⟩ := r1
      obtain ⟨as, q⟩ := readsAll_ints r2
      exact ⟨_, .cons (.int _ _) q⟩
def rMaxD (K : PySem.W.Frag) : List V → Hp → VK → Prop := fun vs H Q => ∃ (a : Addr) (ns : List Int), vs = [.ref a] ∧ (SqL K H a (ns.map V.int) ∨ SqT K H a (ns.map V.int)) ∧ 0 < ns.length ∧ ∀ m, m ∈ ns → (∀ a ∈ ns, a ≤ m) → Q (.int m) H
def rMinD (K : PySem.W.Frag) : List V → Hp → VK → Prop := fun vs H Q => ∃ (a : Addr) (ns : List Int), vs = [.ref a] ∧ (SqL K H a (ns.map V.int) ∨ SqT K H a (ns.map V.int)) ∧ 0 < ns.length ∧ ∀ m, m ∈ ns → (∀ a ∈ ns, m ≤ a) → Q (.int m) H
theorem call_maxD (hc : X.calm = true) (hu : X.A.units + 64 < cLine) : CallR X (.builtin "max") (rMaxD X.K) := by
  intro pins s σ H xs us Q I r h
  obtain ⟨a, ns, rfl, h | h, hn, q⟩ := h
  · exact cr_max hc pins s σ H _ us Q I r ⟨a, ns, rfl, h, hn, q⟩
  · cases r.ref1
    obtain ⟨its, rv, ht, hz⟩ := I.tuple h
    cases ns with
    | nil => simp at hn
    | cons n ns =>
      have ht2 : s.heap.IsTuple a its.toArray := ht
      refine PySem.W.max_tuple_datum (I.ok.hd hc) ht2 (x := n) (xs := ns) (readsAll_ints (ns := n :: ns) rv) (by show X.A.units + 1 + 0 < cLine; omega) fun i v h' tk hv hh hk => ?_
      obtain ⟨as, hh⟩ := hh
      have hh : PySem.Reads h' v (.int (PySem.W.maxOf n ns)) as := hh
      cases hh
      obtain ⟨h1, h2⟩ := maxOf_int n ns
      exact ⟨.int _, H, I.kept hk, ⟨_, rfl⟩, q _ h1 h2⟩
theorem call_minD (hc : X.calm = true) (hu : X.A.units + 64 < cLine) : CallR X (.builtin "min") (rMinD X.K) := by
  intro pins s σ H xs us Q I r h
  obtain ⟨a, ns, rfl, h | h, hn, q⟩ := h
  · exact cr_min hc pins s σ H _ us Q I r ⟨a, ns, rfl, h, hn, q⟩
  · cases r.ref1
    obtain ⟨its, rv, ht, hz⟩ := I.tuple h
    cases ns with
    | nil => simp at hn
    | cons n ns =>
      have ht2 : s.heap.IsTuple a its.toArray := ht
      refine PySem.W.min_tuple_datum (I.ok.hd hc) ht2 (x := n) (xs := ns) (readsAll_ints (ns := n :: ns) rv) (by show X.A.units + 1 + 0 < cLine; omega) fun i v h' tk hv hh hk => ?_
      obtain ⟨as, hh⟩ := hh
      have hh : PySem.Reads h' v (.int (PySem.W.minOf n ns)) as := hh
      cases hh
      obtain ⟨h1, h2⟩ := minOf_int n ns
      exact ⟨.int _, H, I.kept hk, ⟨_, rfl⟩, q _ h1 h2⟩
/-- what max tells of whole numbers -/
def maxQ (o : Option (List Int)) (P : PyData → Prop) : Prop := match o with
  | some ns => 0 < ns.length ∧ ∀ m, m ∈ ns → (∀ a ∈ ns, a ≤ m) → P (.int m)
  | none => False
def minQ (o : Option (List Int)) (P : PyData → Prop) : Prop := match o with
  | some ns => 0 < ns.length ∧ ∀ m, m ∈ ns → (∀ a ∈ ns, m ≤ a) → P (.int m)
  | none => False
def nMaxL (xs : List PyData) (P : PyData → Prop) : Prop := match xs with
  | [.list ds] => maxQ (intsD ds) P
  | [.tuple ds] => maxQ (intsD ds) P
  | _ => False
def nMinL (xs : List PyData) (P : PyData → Prop) : Prop := match xs with
  | [.list ds] => minQ (intsD ds) P
  | [.tuple ds] => minQ (intsD ds) P
  | _ => False
theorem dmaxL (hm : X.mg "max" = none) (hc : X.calm = true) (hu : X.A.units + 64 < cLine) (ha : PA X (e :: es) (liftA X.K Z was)) (hg : Gl X "max" := by rfl)
    (he : starEach (e :: es) X.env = (false, eval e X.env) :: starEach es X.env := by rfl) (hpl : (backTo pos (starEach es X.env)).any (·.1) = false := by rfl) : PE X (.Call (.Name "max" p) (e :: es) [] pos) (liftE X.K Z (dB nMaxL was)) :=
  dcb (call_maxD hc hu) (fun _ g F env σ H vs ds P Q k r f q => by
    unfold nMaxL at f
    split at f
    · obtain ⟨v, rfl, r0⟩ := r.inv1
      obtain ⟨a, us, rfl, h1, h2⟩ := r0.inv_lst
      unfold maxQ at f
      split at f
      · rename_i ns e
        cases ints_rel h2 e
        exact ⟨a, ns, rfl, .inl (h1.mono k.fh).sq, f.1, fun m z1 z2 => q _ _ F H (f.2 m z1 z2) (Ex.refl F) k (.int _)⟩
      · exact f.elim
    · obtain ⟨v, rfl, r0⟩ := r.inv1
      obtain ⟨a, us, rfl, h1, h2⟩ := r0.inv_tup
      unfold maxQ at f
      split at f
      · rename_i ns e
        cases ints_rel h2 e
        exact ⟨a, ns, rfl, .inr (Evl.ex_t k.fh h1), f.1, fun m z1 z2 => q _ _ F H (f.2 m z1 z2) (Ex.refl F) k (.int _)⟩
      · exact f.elim
    · exact f.elim) hm (by decide +kernel) ha hg (by decide) (by decide) he hpl
theorem dminL (hm : X.mg "min" = none) (hc : X.calm = true) (hu : X.A.units + 64 < cLine) (ha : PA X (e :: es) (liftA X.K Z was)) (hg : Gl X "min" := by rfl)
    (he : starEach (e :: es) X.env = (false, eval e X.env) :: starEach es X.env := by rfl) (hpl : (backTo pos (starEach es X.env)).any (·.1) = false := by rfl) : PE X (.Call (.Name "min" p) (e :: es) [] pos) (liftE X.K Z (dB nMinL was)) :=
  dcb (call_minD hc hu) (fun _ g F env σ H vs ds P Q k r f q => by
    unfold nMinL at f
    split at f
    · obtain ⟨v, rfl, r0⟩ := r.inv1
      obtain ⟨a, us, rfl, h1, h2⟩ := r0.inv_lst
      unfold minQ at f
      split at f
      · rename_i ns e
        cases ints_rel h2 e
        exact ⟨a, ns, rfl, .inl (h1.mono k.fh).sq, f.1, fun m z1 z2 => q _ _ F H (f.2 m z1 z2) (Ex.refl F) k (.int _)⟩
      · exact f.elim
    · obtain ⟨v, rfl, r0⟩ := r.inv1
      obtain ⟨a, us, rfl, h1, h2⟩ := r0.inv_tup
      unfold minQ at f
      split at f
      · rename_i ns e
        cases ints_rel h2 e
        exact ⟨a, ns, rfl, .inr (Evl.ex_t k.fh h1), f.1, fun m z1 z2 => q _ _ F H (f.2 m z1 z2) (Ex.refl F) k (.int _)⟩
      · exact f.elim
    · exact f.elim) hm (by decide +kernel) ha hg (by decide) (by decide) he hpl
/-! ### in, not in -/
@[irreducible] def memD (x : PyData) (ds : List PyData) : Bool := ds.any fun z => PyData.eqv z x
theorem memD_eq {x : PyData} {ds : List PyData} : memD x ds = ds.any fun z => eqD z x := by
  unfold memD eqD
  rfl
theorem memD_raw {x : PyData} {ds : List PyData} : memD x ds = ds.any fun z => PyData.eqv z x := by
  unfold memD
  rfl
/-- a text within a text -/
@[irreducible] def inStr (a z : Str) : Bool := !(Builtin.Str.occurrences z a 0 z.length 1).isEmpty
def rIn2 (K : PySem.W.Frag) (n : Bool) : R2 := fun x y H Q => (∃ d ds, Dp K H x d ∧ (Dp K H y (.list ds) ∨ Dp K H y (.tuple ds)) ∧ SeqAt.shaped d = true ∧ SeqAt.shaped (.list ds) = true ∧ Q (.bl (memD d ds != n)) H)
theorem op_in2 (hu : X.A.units + 65 < cLine) : OpR X (compareOp .In) (rIn2 X.K false) := by
  intro pins s σ H x y v u Q I rx ry h
  obtain ⟨d, ds, hd, he, sd, se, q⟩ := h
  obtain ⟨as, r1⟩ := Dp.reads I d x v hd rx
  rw [memD_raw, show ∀ b : Bool, (b != false) = b by decide] at q
  rcases he with he | he
  · obtain ⟨bs, r2⟩ := Dp.reads I (.list ds) y u he ry
    exact SeqAt.in_list_reads r2 r1 (SeqAt.canLay_of_shaped se) (SeqAt.canLay_of_shaped sd) (room_in_shaped sd hu) ⟨.bl _, H, I, rfl, q⟩
  · obtain ⟨bs, r2⟩ := Dp.reads I (.tuple ds) y u he ry
    exact SeqAt.in_tuple_reads r2 r1 (SeqAt.canLay_of_shaped se) (SeqAt.canLay_of_shaped sd) (room_in_shaped sd hu) ⟨.bl _, H, I, rfl, q⟩
theorem op_nin2 (hu : X.A.units + 65 < cLine) : OpR X (compareOp .NotIn) (rIn2 X.K true) := by
  intro pins s σ H x y v u Q I rx ry h
  obtain ⟨d, ds, hd, he, sd, se, q⟩ := h
  obtain ⟨as, r1⟩ := Dp.reads I d x v hd rx
  rw [memD_raw, show ∀ b : Bool, (b != true) = !b by decide] at q
  rcases he with he | he
  · obtain ⟨bs, r2⟩ := Dp.reads I (.list ds) y u he ry
    exact SeqAt.notIn_list_reads r2 r1 (SeqAt.canLay_of_shaped se) (SeqAt.canLay_of_shaped sd) (room_in_shaped sd hu) ⟨.bl _, H, I, rfl, q⟩
  · obtain ⟨bs, r2⟩ := Dp.reads I (.tuple ds) y u he ry
    exact SeqAt.notIn_tuple_reads r2 r1 (SeqAt.canLay_of_shaped se) (SeqAt.canLay_of_shaped sd) (room_in_shaped sd hu) ⟨.bl _, H, I, rfl, q⟩
def rInA (K : PySem.W.Frag) : R2 := fun x y H Q => rIn2 K false x y H Q ∨ ∃ i j, x = .str i ∧ y = .str j ∧ Q (.bl (!(Builtin.Str.occurrences j i 0 j.length 1).isEmpty)) H
def rNinA (K : PySem.W.Frag) : R2 := fun x y H Q => rIn2 K true x y H Q ∨ ∃ i j, x = .str i ∧ y = .str j ∧ Q (.bl (!(!(Builtin.Str.occurrences j i 0 j.length 1).isEmpty))) H
theorem op_inA (hu : X.A.units + 65 < cLine) : OpR X (compareOp .In) (rInA X.K) := OpR.or (op_in2 hu) op_in_str
theorem op_ninA (hu : X.A.units + 65 < cLine) : OpR X (compareOp .NotIn) (rNinA X.K) := OpR.or (op_nin2 hu) op_notIn_str
/-- may be looked for -/
def shp (x : PyData) (ds : List PyData) : Prop := SeqAt.shaped x = true ∧ SeqAt.shaped (.list ds) = true
def oMem (n : Bool) (x y : PyData) (P : PyData → Prop) : Prop := match y with
  | .list ds => shp x ds ∧ P (.bool (memD x ds != n))
  | .tuple ds => shp x ds ∧ P (.bool (memD x ds != n))
  | .str z => (match x with
    | .str a => P (.bool (inStr a z != n))
    | _ => False)
  | _ => False
def oIn (x y : PyData) (P : PyData → Prop) : Prop := oMem false x y P
def oNin (x y : PyData) (P : PyData → Prop) : Prop := oMem true x y P
theorem q_inL {x : PyData} {ds : List PyData} {P : PyData → Prop} : oIn x (.list ds) P = (shp x ds ∧ P (.bool (memD x ds != false))) := rfl
theorem q_inT {x : PyData} {ds : List PyData} {P : PyData → Prop} : oIn x (.tuple ds) P = (shp x ds ∧ P (.bool (memD x ds != false))) := rfl
theorem q_inS {a z : Str} {P : PyData → Prop} : oIn (.str a) (.str z) P = P (.bool (inStr a z != false)) := rfl
theorem q_ninL {x : PyData} {ds : List PyData} {P : PyData → Prop} : oNin x (.list ds) P = (shp x ds ∧ P (.bool (memD x ds != true))) := rfl
theorem q_ninT {x : PyData} {ds : List PyData} {P : PyData → Prop} : oNin x (.tuple ds) P = (shp x ds ∧ P (.bool (memD x ds != true))) := rfl
theorem q_ninS {a z : Str} {P : PyData → Prop} : oNin (.str a) (.str z) P = P (.bool (inStr a z != true)) := rfl
theorem mem_reads {g : Gx Z} {F : Hp} {env : List SD} {σ : L2.St} {H : Hp} (k : Ok K g F env σ H) {vx vy : V} {x : PyData} {ds : List PyData} {n : Bool} {Q : VK} (rx : DR K F vx x) (ry : DR K F vy (.list ds) ∨ DR K F vy (.tuple ds)) (h : shp x ds) (q : Q (.bl (memD x ds != n)) H) :
    rIn2 K n vx vy H Q := by
  refine ⟨x, ds, DR.dp (drH k rx) (dict_of_shaped h.1), ?_, h.1, h.2, q⟩
  have z : PyData.hasDictAll ds = false := by simpa [PyData.hasDict] using dict_of_shaped h.2
  rcases ry with ry | ry
  · exact .inl (DR.dp (drH k ry) (by simpa [PyData.hasDict] using z))
  · exact .inr (DR.dp (drH k ry) (by simpa [PyData.hasDict] using z))
theorem opd_in : OpD K (rInA K) oIn := by
  intro _ g F env σ H vx vy dx dy P Q k rx ry p q
  unfold oIn oMem at p
  split at p
  · exact .inl (mem_reads k rx (.inl ry) p.1 (q _ _ F H p.2 (Ex.refl F) k (.bl _)))
  · exact .inl (mem_reads k rx (.inr ry) p.1 (q _ _ F H p.2 (Ex.refl F) k (.bl _)))
  · split at p
    · rename_i a
      cases rx.inv_str
      cases ry.inv_str
      refine .inr ⟨_, _, rfl, rfl, q _ _ F H p (Ex.refl F) k ?_⟩
      unfold inStr
      rw [show ∀ b : Bool, (b != false) = b by decide]
      exact .bl _
    · exact p.elim
  · exact p.elim
theorem opd_nin : OpD K (rNinA K) oNin := by
  intro _ g F env σ H vx vy dx dy P Q k rx ry p q
  unfold oNin oMem at p
  split at p
  · exact .inl (mem_reads k rx (.inl ry) p.1 (q _ _ F H p.2 (Ex.refl F) k (.bl _)))
  · exact .inl (mem_reads k rx (.inr ry) p.1 (q _ _ F H p.2 (Ex.refl F) k (.bl _)))
  · split at p
    · rename_i a
      cases rx.inv_str
      cases ry.inv_str
      refine .inr ⟨_, _, rfl, rfl, q _ _ F H p (Ex.refl F) k ?_⟩
      unfold inStr
      rw [show ∀ b : Bool, (b != true) = !b by decide]
      exact .bl _
    · exact p.elim
  · exact p.elim
theorem _root_.L2.Room.u65 {k : Nat} {A : Around} (r : Room k A) : A.units + 65 < cLine := by have := r.un; omega
theorem din {k : Nat} (hr : Room k X.A) (ha : PE X a (liftE X.K Z wa)) (hb : PE X b (liftE X.K Z wb)) (hm : behindInMarks .In b = false := by rfl) : PE X (.Compare a [.In] [b] pos) (liftE X.K Z (dOp oIn wa wb)) := dcmp (op_inA hr.u65) opd_in ha hb hm
theorem dnin {k : Nat} (hr : Room k X.A) (ha : PE X a (liftE X.K Z wa)) (hb : PE X b (liftE X.K Z wb)) (hm : behindInMarks .NotIn b = false := by rfl) : PE X (.Compare a [.NotIn] [b] pos) (liftE X.K Z (dOp oNin wa wb)) := dcmp (op_ninA hr.u65) opd_nin ha hb hm
theorem tin {k : Nat} (hr : Room k X.A) (ha : PE X a (liftE X.K Z wa)) (hb : PE X b (liftE X.K Z wb)) (hm : behindInMarks .In b = false := by rfl) : PT X (.Compare a [.In] [b] pos) (liftT X.K Z (dTest (dOp oIn wa wb))) := dcmpT (op_inA hr.u65) opd_in ha hb hm
theorem tnin {k : Nat} (hr : Room k X.A) (ha : PE X a (liftE X.K Z wa)) (hb : PE X b (liftE X.K Z wb)) (hm : behindInMarks .NotIn b = false := by rfl) : PT X (.Compare a [.NotIn] [b] pos) (liftT X.K Z (dTest (dOp oNin wa wb))) := dcmpT (op_ninA hr.u65) opd_nin ha hb hm
end
end DL

/-! The data layer, part 22: small data, that can be shown. -/
namespace DL
variable {Z : Zx}
open PySem PySem.Spec PyProof.Rows L2
structure Sm (b k : Nat) (d : PyData) : Prop where
  rp : rp d = true
  bulk : d.bulk ≤ b
  depth : d.depth ≤ k
theorem Sm.mono {b k b' k' : Nat} {d : PyData} (h : Sm b k d) (hb : b ≤ b' := by omega) (hk : k ≤ k' := by omega) : Sm b' k' d := ⟨h.rp, Nat.le_trans h.bulk hb, Nat.le_trans h.depth hk⟩
theorem sm_all {b k : Nat} : ∀ {xs : List PyData}, (∀ x ∈ xs, Sm b k x) → rpAll xs = true ∧ PyData.bulkAll xs ≤ xs.length * (b + 1) ∧ PyData.depthAll xs ≤ k
  | [], _ => ⟨by simp [rpAll], by simp [PyData.bulkAll], by simp [PyData.depthAll]⟩
  | x :: xs, h => by
    obtain ⟨h1, h2, h3⟩ := sm_all (xs := xs) fun y hy => h y (List.mem_cons_of_mem _ hy)
    have hx := h x List.mem_cons_self
    refine ⟨?_, ?_, ?_⟩
    · rw [rpAll, hx.rp, h1]; rfl
    · rw [PyData.bulkAll, List.length_cons, Nat.add_mul]
      have := hx.bulk
      omega
    · rw [PyData.depthAll]
      have := hx.depth
      omega
theorem Sm.tup {n b k : Nat} {xs : List PyData} (hl : xs.length ≤ n) (h : ∀ x ∈ xs, Sm b k x) : Sm (n * (b + 1)) (k + 1) (.tuple xs) := by
  obtain ⟨h1, h2, h3⟩ := sm_all h
  refine ⟨by simpa only [DL.rp] using h1, ?_, ?_⟩
  · rw [PyData.bulk]
    exact Nat.le_trans h2 (Nat.mul_le_mul_right _ hl)
  · rw [PyData.depth]
    omega
theorem Sm.lst {n b k : Nat} {xs : List PyData} (hl : xs.length ≤ n) (h : ∀ x ∈ xs, Sm b k x) : Sm (n * (b + 1)) (k + 1) (.list xs) := by
  obtain ⟨h1, h2, h3⟩ := sm_all h
  refine ⟨by simpa only [DL.rp] using h1, ?_, ?_⟩
  · rw [PyData.bulk]
    exact Nat.le_trans h2 (Nat.mul_le_mul_right _ hl)
  · rw [PyData.depth]
    omega
theorem Sm.int {i : Int} (h : i.natAbs < 10 ^ 250) (b k : Nat) : Sm b k (.int i) := ⟨by simpa only [DL.rp, decide_eq_true_eq] using h, by rw [PyData.bulk]; omega, by rw [PyData.depth]; omega⟩
theorem Sm.int' {i : Int} {b k : Nat} (h0 : -(10 ^ 100) ≤ i) (h1 : i ≤ 10 ^ 100) : Sm b k (.int i) := Sm.int (lt_of h0 h1) b k
theorem Sm.bool {t : Bool} (b k : Nat) : Sm b k (.bool t) := ⟨rfl, by rw [PyData.bulk]; omega, by rw [PyData.depth]; omega⟩
theorem Sm.none (b k : Nat) : Sm b k .none := ⟨rfl, by rw [PyData.bulk]; omega, by rw [PyData.depth]; omega⟩
theorem Sm.dict0 (b k : Nat) : Sm b (k + 1) (.dict []) := ⟨rfl, by rw [PyData.bulk, PyData.bulkKv]; omega, by rw [PyData.depth, PyData.depthKv]; omega⟩
theorem rp_mem : ∀ {xs : List PyData}, rpAll xs = true → ∀ x ∈ xs, rp x = true
  | [], _, x, h => by simp at h
  | y :: ys, e, x, h => by
    simp only [rpAll, Bool.and_eq_true] at e
    rcases List.mem_cons.mp h with rfl | h
    · exact e.1
    · exact rp_mem e.2 x h
theorem bulk_mem : ∀ {xs : List PyData}, ∀ x ∈ xs, x.bulk ≤ PyData.bulkAll xs ∧ x.depth ≤ PyData.depthAll xs
  | [], x, h => by simp at h
  | y :: ys, x, h => by
    rw [PyData.bulkAll, PyData.depthAll]
    rcases List.mem_cons.mp h with rfl | h
    · omega
    · have := bulk_mem x h
      omega
/-- items of small data -/
theorem Sm.inT {b k : Nat} {xs : List PyData} (h : Sm b k (.tuple xs)) : ∀ x ∈ xs, Sm b k x := fun x hx => by
  have h1 := h.rp
  have h2 := h.bulk
  have h3 := h.depth
  rw [PyData.bulk] at h2
  rw [PyData.depth] at h3
  obtain ⟨z1, z2⟩ := bulk_mem x hx
  exact ⟨rp_mem (by simpa only [DL.rp] using h1) x hx, by omega, by omega⟩
theorem Sm.inL {b k : Nat} {xs : List PyData} (h : Sm b k (.list xs)) : ∀ x ∈ xs, Sm b k x := fun x hx => by
  have h1 := h.rp
  have h2 := h.bulk
  have h3 := h.depth
  rw [PyData.bulk] at h2
  rw [PyData.depth] at h3
  obtain ⟨z1, z2⟩ := bulk_mem x hx
  exact ⟨rp_mem (by simpa only [DL.rp] using h1) x hx, by omega, by omega⟩
theorem cut_mem {xs : List PyData} {lo hi : Option Int} {x : PyData} (h : x ∈ DL.cutD xs lo hi) : x ∈ xs := by
  unfold DL.cutD at h
  exact List.mem_of_mem_drop (List.mem_of_mem_take h)
/-- repr of small data -/
theorem repr_q {d : PyData} (h : Sm 50000 40 d) {K : PyData → Prop} (hK : K (.str d.shown)) : nRepr [d] K := ⟨⟨h.rp, h.bulk, h.depth⟩, hK⟩
theorem short_of {d : PyData} {b k : Nat} (h : Sm b k d) (hb : b ≤ 100000) : ∀ xs, d = .tuple xs → xs.length ≤ 100000 := fun xs e => by
  subst e
  have h2 := h.bulk
  rw [PyData.bulk] at h2
  have : ∀ ys : List PyData, ys.length ≤ PyData.bulkAll ys := fun ys => by
    induction ys with
    | nil => simp
    | cons y ys ih => rw [PyData.bulkAll, List.length_cons]; omega
  have := this xs
  omega
end DL

/-! The data layer, part 23: rows that a def made and still changes: found[i][j] = v. -/
namespace DL
variable {Z : Zx}
open PySem PySem.Spec PyProof.Rows L2
open Evl (Ex)

/-- a list that a def made and may still change -/
abbrev rowD (ds : List PyData) : PyData := .dict [(.none, .list ds)]
mutual
/-- no list in it -/
def lf : PyData → Bool
  | .none => true
  | .bool _ => true
  | .int _ => true
  | .str _ => true
  | .list _ => false
  | .tuple ds => lfs ds
  | .dict [] => true
  | .dict (_ :: _) => false
def lfs : List PyData → Bool
  | [] => true
  | d :: ds => lf d && lfs ds
end
section
variable {K : PySem.W.Frag} {F H : Hp} {b : Addr} {us us' : List V}
theorem keep_upd {F : Hp} {b a : Addr} {us us' : List V} {o : HO} (hb : F b = some (.lst us)) (ho : F a = some o) (n : ∀ xs, o ≠ .lst xs) : upd F b (.lst us') a = some o := by
  have ne : a ≠ b := fun z => by
    subst z
    rw [hb] at ho
    cases ho
    exact n _ rfl
  rw [upd_ne ne]
  exact ho
mutual
theorem DR.chg (hb : F b = some (.lst us)) : ∀ {d : PyData} {v : V}, lf d = true → DR K F v d → DR K (upd F b (.lst us')) v d
  | .none, _, _, .non => .non
  | .bool _, _, _, .bl b => .bl b
  | .int _, _, _, .int i => .int i
  | .str _, _, _, .str x => .str x
  | .list _, _, h, _ => by simp [lf] at h
  | .tuple ds, _, h, .tup s r => .tup (by
      rcases s with (s | ⟨o, s⟩) | s
      · exact .inl (.inl (keep_upd hb s fun _ z => by cases z))
      · exact .inl (.inr ⟨o, keep_upd hb s fun _ z => by cases z⟩)
      · exact .inr s) (DRs.chg hb (by simpa only [lf] using h) r)
  | .dict [], _, _, .dct s => .dct (keep_upd hb s fun _ z => by cases z)
  | .dict (_ :: _), _, h, _ => by simp [lf] at h
theorem DRs.chg (hb : F b = some (.lst us)) : ∀ {ds : List PyData} {vs : List V}, lfs ds = true → DRs K F vs ds → DRs K (upd F b (.lst us')) vs ds
  | [], _, _, .nil => .nil
  | d :: ds, _, h, .cons x y => .cons (DR.chg hb (by simp only [lfs, Bool.and_eq_true] at h; exact h.1) x) (DRs.chg hb (by simp only [lfs, Bool.and_eq_true] at h; exact h.2) y)
end
/-- rows with no list in them -/
def rowB : PyData → Bool
  | .dict [(.none, .list ds)] => lfs ds
  | d => lf d
theorem rows_chg {ds' : List PyData} (hb : F b = some (.lst us)) (r' : DRs K (upd F b (.lst us')) us' ds') : ∀ {vs : List V} {xs : List PyData}, DRs K F vs xs → xs.all rowB = true →
    ∃ xs', xs'.length = xs.length ∧ (∀ d ∈ xs', d ∈ xs ∨ d = rowD ds') ∧ DRs K (upd F b (.lst us')) vs xs'
  | _, _, .nil, _ => ⟨[], rfl, fun d hd => by simp at hd, .nil⟩
  | v :: vs, d :: xs, .cons x y, h => by
    simp only [List.all_cons, Bool.and_eq_true] at h
    obtain ⟨ys, l, m, q⟩ := rows_chg hb r' y h.2
    have go : ∀ e : PyData, (e = d ∨ e = rowD ds') → DR K (upd F b (.lst us')) v e → ∃ xs', xs'.length = (d :: xs).length ∧ (∀ d' ∈ xs', d' ∈ d :: xs ∨ d' = rowD ds') ∧ DRs K (upd F b (.lst us')) (v :: vs) xs' := fun e he r => by
      refine ⟨e :: ys, by simp [l], fun d' hd => ?_, .cons r q⟩
      rcases List.mem_cons.mp hd with rfl | hd
      · rcases he with rfl | rfl
        · exact .inl (List.mem_cons_self ..)
        · exact .inr rfl
      · exact (m d' hd).imp (List.mem_cons_of_mem _) id
    by_cases hl : lf d = true
    · exact go d (.inl rfl) (DR.chg hb hl x)
    · have h1 := h.1
      unfold rowB at h1
      split at h1
      · rename_i ds
        cases x with
        | row s r =>
          rename_i a u0
          by_cases e : a = b
          · subst e
            exact go _ (.inr rfl) (.row upd_same r')
          · exact go _ (.inl rfl) (.row (by rw [upd_ne e]; exact s) (DRs.chg hb h1 r))
      · exact absurd h1 hl
/-- no list but in the cell at i -/
def lfE : List SD → Bool
  | [] => true
  | .un :: r => lfE r
  | .dat d :: r => lf d && lfE r
  | .cel _ xs :: r => lfs xs && lfE r
def lfX : List SD → Nat → Bool
  | [], _ => true
  | _ :: r, 0 => lfE r
  | .un :: r, i + 1 => lfX r i
  | .dat d :: r, i + 1 => lf d && lfX r i
  | .cel _ xs :: r, i + 1 => lfs xs && lfX r i
theorem lfE_get : ∀ {env : List SD} {j : Nat} {s : SD}, lfE env = true → env[j]? = some s → match s with | .un => True | .dat d => lf d = true | .cel _ xs => lfs xs = true
  | [], j, s, _, e => by simp at e
  | .un :: r, 0, s, h, e => by simp at e; subst e; trivial
  | .dat d :: r, 0, s, h, e => by simp only [lfE, Bool.and_eq_true] at h; simp at e; subst e; exact h.1
  | .cel p xs :: r, 0, s, h, e => by simp only [lfE, Bool.and_eq_true] at h; simp at e; subst e; exact h.1
  | .un :: r, j + 1, s, h, e => lfE_get (env := r) (j := j) h (by simpa using e)
  | .dat d :: r, j + 1, s, h, e => by simp only [lfE, Bool.and_eq_true] at h; exact lfE_get (env := r) (j := j) h.2 (by simpa using e)
  | .cel p xs :: r, j + 1, s, h, e => by simp only [lfE, Bool.and_eq_true] at h; exact lfE_get (env := r) (j := j) h.2 (by simpa using e)
theorem lfX_get : ∀ {env : List SD} {i j : Nat} {s : SD}, lfX env i = true → i ≠ j → env[j]? = some s → match s with | .un => True | .dat d => lf d = true | .cel _ xs => lfs xs = true
  | [], i, j, s, _, _, e => by simp at e
  | x :: r, 0, 0, s, _, n, _ => absurd rfl n
  | x :: r, 0, j + 1, s, h, n, e => lfE_get (env := r) (j := j) h (by simpa using e)
  | .un :: r, i + 1, 0, s, h, n, e => by simp at e; subst e; trivial
  | .dat d :: r, i + 1, 0, s, h, n, e => by simp only [lfX, Bool.and_eq_true] at h; simp at e; subst e; exact h.1
  | .cel p xs :: r, i + 1, 0, s, h, n, e => by simp only [lfX, Bool.and_eq_true] at h; simp at e; subst e; exact h.1
  | .un :: r, i + 1, j + 1, s, h, n, e => lfX_get (env := r) (i := i) (j := j) h (by omega) (by simpa using e)
  | .dat d :: r, i + 1, j + 1, s, h, n, e => by simp only [lfX, Bool.and_eq_true] at h; exact lfX_get (env := r) (i := i) (j := j) h.2 (by omega) (by simpa using e)
  | .cel p xs :: r, i + 1, j + 1, s, h, n, e => by simp only [lfX, Bool.and_eq_true] at h; exact lfX_get (env := r) (i := i) (j := j) h.2 (by omega) (by simpa using e)
theorem Ok.nest {g : Gx Z} {env : List SD} {σ : L2.St} (k : Ok K g F env σ H) (h0 : ∀ a, g.F0 a = none) {i : Nat} {xs ds' : List PyData} (he : env[i]? = some (.cel false xs)) (hl : lfX env i = true) (hr : xs.all rowB = true)
    (hb : F b = some (.lst us)) (r' : DRs K (upd F b (.lst us')) us' ds') : ∃ xs', xs'.length = xs.length ∧ (∀ d ∈ xs', d ∈ xs ∨ d = rowD ds') ∧ Ok K g (upd F b (.lst us')) (env.set i (.cel false xs')) σ (upd H b (.lst us')) := by
  obtain ⟨a, vs, h1, h2, h3, h4, h5, h6⟩ := k.cel i false xs he
  obtain ⟨xs', l, m, r⟩ := rows_chg (us' := us') hb r' h4 hr
  have hb0 : g.H0 b = none := (k.newF b _ hb).elim (fun z => by rw [h0 b] at z; cases z) id
  have nb : ∀ {c : Addr}, F c = none → c ≠ b := fun {c} z e => by rw [e, hb] at z; cases z
  refine ⟨xs', l, m, by simp [k.len], fun c u q => ?_, fun j e hj => ?_, fun j q ys hj => ?_, fun j l q r us ws c z1 z2 z3 z4 => ?_, fun j c e => ?_, fun c o e n => ?_, fun c u q => ?_, fun c u q => ?_, fun c u e => ?_⟩
  · by_cases z : c = b
    · subst z
      rw [upd_same] at q ⊢
      exact q
    · rw [upd_ne z] at q ⊢
      exact k.fh c u q
  · rcases get_set hj with ⟨_, q⟩ | ⟨n, q⟩
    · cases q
    · obtain ⟨v, z1, z2⟩ := k.dat j e q
      exact ⟨v, z1, DR.chg hb (lfX_get hl n q) z2⟩
  · rcases get_set hj with ⟨rfl, q⟩ | ⟨n, q⟩
    · cases q
      exact ⟨a, vs, h1, by rw [upd_ne (nb h2)]; exact h2, by rw [upd_ne (nb h2)]; exact h3, r, h5, h6⟩
    · obtain ⟨c, ws, z1, z2, z3, z4, z5⟩ := k.cel j _ ys q
      exact ⟨c, ws, z1, by rw [upd_ne (nb z2)]; exact z2, by rw [upd_ne (nb z2)]; exact z3, DRs.chg hb (lfX_get hl n q) z4, z5⟩
  · have f : ∀ {j : Nat} {q : Bool} {us : List PyData}, (env.set i (SD.cel false xs'))[j]? = some (.cel q us) → ∃ q' us', env[j]? = some (.cel q' us') := fun {j q us} z => by
      rcases get_set z with ⟨rfl, _⟩ | ⟨_, z⟩
      · exact ⟨_, _, he⟩
      · exact ⟨_, _, z⟩
    obtain ⟨_, _, f1⟩ := f z1
    obtain ⟨_, _, f2⟩ := f z2
    exact k.sep j l _ _ _ _ c f1 f2 z3 z4
  · obtain ⟨us, q⟩ := k.pin j c e
    have n : i ≠ j := fun z => by subst z; rw [he] at q; cases q
    exact ⟨us, by rw [set_ne n]; exact q⟩
  · have ne : c ≠ b := fun z => by rw [z, hb0] at e; cases e
    rw [upd_ne ne]
    exact k.frame c o e n
  · by_cases z : c = b
    · subst z
      exact .inr hb0
    · rw [upd_ne z] at q
      exact k.newF c u q
  · rw [h0 c] at q
    cases q
  · obtain ⟨z1, z2, z3⟩ := k.prot c u e
    refine ⟨by rw [upd_ne (nb z2)]; exact z1, by rw [upd_ne (nb z2)]; exact z2, fun j q us hj => ?_⟩
    rcases get_set hj with ⟨rfl, _⟩ | ⟨_, z⟩
    · exact z3 _ _ xs he
    · exact z3 j q us z
end
section
variable {X : Cx} {e b b2 : Expr} {we wb wb2 : DE} {wx : DX} {m : Nat} {pos : Pos}
/-- a new list as a row -/
def dRow (w : DX) (env : List SD) (P : PyData → List SD → Prop) : Prop := w env fun r env' => match r with
  | .cel _ xs => P (rowD xs) env'
  | _ => False
theorem drow (h : PE X e (liftX X.K Z wx)) : PE X e (liftE X.K Z (dRow wx)) := PE.of h fun σ H Q h => by
  obtain ⟨g, F, env, P, k, w, q⟩ := h
  refine ⟨g, F, env, _, k, w, fun r env1 v F1 H1 p e1 k1 r1 => ?_⟩
  cases r with
  | un => exact p.elim
  | dat d => exact p.elim
  | cel b xs =>
    obtain ⟨F2, e2, k2, _, r2⟩ := k1.freezeR r1
    exact q _ env1 v F2 H1 p (e1.trans e2) k2 r2
/-- x[i][j] = e, x the name's own cell of rows that the def made: the row's other names see it, too -/
def neQ (xs : List PyData) (r y d : PyData) (K : List PyData → Prop) : Prop := match r with
  | .dict [(.none, .list ds)] => bIf (xs.all rowB && lfs ds && lf d) (stQ ds y d fun ds' => ∀ xs', xs'.length = xs.length → (∀ z ∈ xs', z ∈ xs ∨ z = rowD ds') → K xs') False
  | _ => False
def dSetN (i : Nat) (wi wj we : DE) (E : DEnds) (env : List SD) : Prop := we env fun d env1 => dIxC i wi env1 fun r env2 => wj env2 fun y env3 => match env3[i]? with
  | some (.cel false xs) => bIf (E.nol && lfX env3 i) (neQ xs r y d fun xs' => E.nx (env3.set i (.cel false xs'))) False
  | _ => False
theorem neQ_inv {xs : List PyData} {r y d : PyData} {K : List PyData → Prop} (h : neQ xs r y d K) : ∃ ds n j, r = rowD ds ∧ y = .int n ∧ ixN ds.length n = some j ∧ xs.all rowB = true ∧ lfs ds = true ∧ lf d = true ∧
    ∀ xs', xs'.length = xs.length → (∀ z ∈ xs', z ∈ xs ∨ z = rowD (ds.set j d)) → K xs' := by
  unfold neQ at h
  split at h
  · rename_i ds
    obtain ⟨hc, h⟩ := bIf_and h
    simp only [Bool.and_eq_true] at hc
    cases y with
    | int n =>
      unfold stQ at h
      dsimp only at h
      split at h
      · rename_i j ej
        exact ⟨ds, n, j, rfl, rfl, ej, hc.1.1, hc.1.2, hc.2, h⟩
      · exact h.elim
    | _ => exact h.elim
  · exact h.elim
theorem lfs_set : ∀ {ds : List PyData} {j : Nat} {d : PyData}, lfs ds = true → lf d = true → lfs (ds.set j d) = true
  | [], _, _, h, _ => h
  | x :: ds, 0, d, h, hd => by simp only [lfs, Bool.and_eq_true, List.set] at h ⊢; exact ⟨hd, h.2⟩
  | x :: ds, j + 1, d, h, hd => by simp only [lfs, Bool.and_eq_true, List.set] at h ⊢; exact ⟨h.1, lfs_set h.2 hd⟩
theorem ssetN (i : Nat) {x : Str} {p0 p1 p2 : Pos} (he : PE X e (liftE X.K Z we)) (hi : PE X b (liftE X.K Z wb)) (hj : PE X b2 (liftE X.K Z wb2)) (hN : X.N[i]? = some x := by rfl) (hv : Vis X.env.scope x := by first | exact Or.inl rfl | exact Or.inr (Or.inl rfl) | exact Or.inr (Or.inr rfl)) (hd : (x == ("__debug__" : Str)) = false := by decide)
    (hcd : (x == ("__classdict__" : Str)) = false := by decide) (hpi : PlainIx b := by intro _ _; rfl)
    (hs : swapsWithSole [.Subscript (.Subscript (.Name x p0) b p1) b2 p2] e pos.line X.env = pure false := by rfl) (hw : swappedStores [.Subscript (.Subscript (.Name x p0) b p1) b2 p2] e X.env = pure none := by rfl)
    (h1 : (assignEach [.Subscript (.Subscript (.Name x p0) b p1) b2 p2] X.env).map (·.2) = [assign (.Subscript (.Subscript (.Name x p0) b p1) b2 p2) X.env] := by rfl)
    (ha : ∀ v, assign (.Subscript (.Subscript (.Name x p0) b p1) b2 p2) X.env v = (do
      let ov ← holding [v] (eval (.Subscript (.Name x p0) b p1) X.env)
      let iv ← holding [v, ov] (eval b2 X.env)
      standAt p2
      holding [v, ov, iv] (setItem ov iv v)
      release [v, ov, iv] []) := by intro _; rfl) : PS X (.Assign [.Subscript (.Subscript (.Name x p0) b p1) b2 p2] e pos) (liftS X.K Z m (dSetN i wb wb2 we)) :=
  PS.of (ps_asg he (pg_sub (dixC i hi hN hv hd hcd hpi) hj set_list ha) hs hw h1) fun D σ H ⟨g, F, env, P, k, w, q⟩ =>
  ⟨g, F, env, _, k, w, fun d env1 v F1 H1 p e1 k1 r1 => ⟨g, F1, env1, _, k1, p, fun r env2 v2 F2 H2 p2 e2 k2 r2 => ⟨g, F2, env2, _, k2, p2, fun y env3 v3 F3 H3 p3 e3 k3 r3 => by
    split at p3
    · rename_i xs ex
      obtain ⟨hb, p3⟩ := bIf_and p3
      rw [Bool.and_eq_true] at hb
      obtain ⟨ds, n, j, rfl, rfl, ej, c1, c2, c3, p3⟩ := neQ_inv p3
      cases r3.inv_int
      have r2 := r2.mono e3
      cases r2 with
      | row s rr =>
        rename_i a us
        have r4 : DRs X.K F3 (us.set j v) (ds.set j d) := rr.set j (r1.mono (e2.trans e3))
        have r5 := DRs.chg (us' := us.set j v) s (lfs_set c2 c3) r4
        obtain ⟨xs', l, mm, k4⟩ := k3.nest (q.free hb.1).1 ex hb.2 c1 s r5
        exact ⟨a, us, n, j, rfl, rfl, k3.fh _ _ s, by rw [rr.length]; exact ej, ((q.free hb.1).2 _).nx _ σ _ _ (p3 xs' l mm) (Ex.refl _) k4⟩
    · exact p3.elim⟩⟩⟩
end
/-! ### a def that is handed no list -/
section
variable {K : PySem.W.Frag} {F H : Hp} {vs : List V} {as : List SD}
def atB : PyData → Bool
  | .none => true
  | .bool _ => true
  | .int _ => true
  | .str _ => true
  | _ => false
def atoms : List SD → Bool
  | [] => true
  | .un :: r => atoms r
  | .dat d :: r => atB d && atoms r
  | .cel _ xs :: r => xs.all atB && atoms r
theorem atoms_get : ∀ {env : List SD} {j : Nat} {s : SD}, atoms env = true → env[j]? = some s → match s with | .un => True | .dat d => atB d = true | .cel _ xs => xs.all atB = true
  | [], j, s, _, e => by simp at e
  | .un :: r, 0, s, h, e => by simp at e; subst e; trivial
  | .dat d :: r, 0, s, h, e => by simp only [atoms, Bool.and_eq_true] at h; simp at e; subst e; exact h.1
  | .cel p xs :: r, 0, s, h, e => by simp only [atoms, Bool.and_eq_true] at h; simp at e; subst e; exact h.1
  | .un :: r, j + 1, s, h, e => atoms_get (env := r) (j := j) h (by simpa using e)
  | .dat d :: r, j + 1, s, h, e => by simp only [atoms, Bool.and_eq_true] at h; exact atoms_get (env := r) (j := j) h.2 (by simpa using e)
  | .cel p xs :: r, j + 1, s, h, e => by simp only [atoms, Bool.and_eq_true] at h; exact atoms_get (env := r) (j := j) h.2 (by simpa using e)
theorem at_any {F' : Hp} {v : V} {d : PyData} (h : atB d = true) (r : DR K F v d) : DR K F' v d := by
  cases r with
  | non => exact .non
  | bl b => exact .bl b
  | int i => exact .int i
  | str x => exact .str x
  | lst _ _ => cases h
  | tup _ _ => cases h
  | dct _ => cases h
  | row _ _ => cases h
  | exc _ _ => cases h
theorem ats_any {F' : Hp} : ∀ {vs : List V} {ds : List PyData}, ds.all atB = true → DRs K F vs ds → DRs K F' vs ds
  | _, _, _, .nil => .nil
  | _, _, h, .cons x y => by
    simp only [List.all_cons, Bool.and_eq_true] at h
    exact .cons (at_any h.1 x) (ats_any h.2 y)
abbrev noH : Hp := fun _ => none
theorem ArgsOk.bare (ha : ArgsOk K F H vs as) (h : atoms as = true) : ArgsOk K noH H vs as where
  len := ha.len
  fh := fun a o e => by cases e
  dat := fun i d e => by
    obtain ⟨v, h1, h2⟩ := ha.dat i d e
    exact ⟨v, h1, at_any (atoms_get h e) h2⟩
  cel := fun i p xs e => by
    obtain ⟨rfl, a, us, h1, h2, h3, h4⟩ := ha.cel i p xs e
    exact ⟨rfl, a, us, h1, rfl, h3, ats_any (atoms_get h e) h4⟩
  sep := ha.sep
/-- both -/
def joinH (F F' : Hp) : Hp := fun a => match F' a with
  | some o => some o
  | none => F a
theorem PostOk.back {F' H' : Hp} {as' : List SD} {v : V} {r : SD} (ha : ArgsOk K F H vs as) (p : PostOk K noH H vs as F' H' as' v r) : PostOk K F H vs as (joinH F F') H' as' v r := by
  have e1 : Ex F (joinH F F') := fun a o e => by
    unfold joinH
    split
    · rename_i u z
      rcases p.newF a u z with y | y
      · cases y
      · have := ha.fh a o e
        rw [y] at this
        cases this
    · exact e
  have e2 : Ex F' (joinH F F') := fun a o e => by
    unfold joinH
    rw [e]
  have nn : ∀ {a : Addr}, F a = none → F' a = none → joinH F F' a = none := fun {a} h1 h2 => by
    unfold joinH
    rw [h2]
    exact h1
  have fr : ∀ (a : Addr) (o : HO), F a = some o → F' a = none → H' a = some o := fun a o e n => p.frame a o (ha.fh a o e) fun i q xs z y => by
    obtain ⟨_, b, us, y1, y2, _⟩ := ha.cel i q xs z
    rw [y] at y1
    cases y1
    rw [e] at y2
    cases y2
  refine ⟨e1, fun a o e => ?_, fun a o e => ?_, p.frame, fun i q xs a z y => ?_, ?_⟩
  · unfold joinH at e
    split at e
    · rename_i u z
      cases e
      exact p.fh a _ z
    · exact fr a o e ‹_›
  · unfold joinH at e
    split at e
    · rename_i u z
      exact .inr ((p.newF a u z).elim (fun w => by cases w) id)
    · exact .inl e
  · obtain ⟨ys, us, c1, c2, c3, c4⟩ := p.cel i q xs a z y
    obtain ⟨_, b, us0, y1, y2, _⟩ := ha.cel i q xs z
    rw [y] at y1
    cases y1
    exact ⟨ys, us, c1, nn y2 c2, c3, c4.mono e2⟩
  · have := p.res
    cases r with
    | un => exact this
    | dat d => exact DR.mono e2 this
    | cel b xs =>
      obtain ⟨a, us, h1, h2, h3, h4, h5⟩ := this
      refine ⟨a, us, h1, nn ?_ h2, h3, h4.mono e2, h5⟩
      cases z : F a with
      | none => rfl
      | some o =>
        have := ha.fh a o z
        rw [h5] at this
        cases this
end
section
variable {P : Program} {w : World} {K : PySem.W.Frag} {mg : Str → Option Value} {base : Heap}
def defEndsN (m : Nat) (Q : SD → List SD → Prop) : DEnds := { nx := fun env => Q (.dat .none) (env.take m), rt := Q, nol := true }
theorem dfnN (m : Nat) {x qual : Str} {st : Stmt} {f : Addr} {fd : FuncData} {N ps : List Str} {k : Nat} {S : DSp} (Fn : Fun K x qual st f fd) (sc : FnScope N ps (defScope st)) (len : ∀ as Q, S as Q → as.length = ps.length) (cels : CelsIn m S)
    (hbody : ∀ {Z : Zx} (cdv : Value) (A : Around) (outer : List Env) (s : Shared) (H : Hp), Room k (A.deeper (envOfC qual (defScope st) s.heap.objs.size f cdv)) → (A.deeper (envOfC qual (defScope st) s.heap.objs.size f cdv)).guards = some [] →
      ∃ t : DS, PSs (cxOf CX0 P w K mg base N qual (defScope st) f cdv A outer s H E0).nox (defBody st) (liftS K Z m t) ∧
        ∀ as Q, S as Q → atoms as = true ∧ t (defEndsN m Q) (as ++ List.replicate (N.length - ps.length) .un)) : FnG P w K mg base (k + 1) f fd ps S := by
  obtain ⟨oc, od, kV, doc, pm, an, cdv, ct, osl, rfl, lk, hcd⟩ := Fn.ex
  refine ⟨len, fun A outer s H args us vs Q hr hg e0 hb rv ⟨F0, as, PP, ha, hS, hQ⟩ => ?_⟩
  have hl : vs.length = ps.length := ha.len.symm.trans (len as PP hS)
  have hpl : ps.length ≤ N.length := by
    have := congrArg List.length sc.pre
    rw [List.length_take] at this
    omega
  have KX : K.In s.heap := e0.mod.kin.keeps fun b o e => (e0.bs b o e).1
  refine codeAny_call_function hr.depth (KX _ _ lk) rfl sc.co sc.gen rfl (PySem.W.codeRec_of KX hcd) (hb _ _ _ _ (wpAny_newFunctionEnv_cells sc.kind (fun ⟨n, v⟩ hy => ?_) fun env he s1 x => ?_))
  · rcases sc.par n (List.of_mem_zip hy).1 with q | q
    · exact .inl q
    · exact .inr ⟨q, PySem.W.cellsFrom_some _ _ _ (.inl q)⟩
  · subst he
    obtain ⟨t, ht, hq⟩ := hbody (Z := entryZ noH H vs as) cdv A outer s H (hr.deeper _) hg
    have I : Inv (cxOf CX0 P w K mg base N qual (defScope st) f cdv A outer s H E0) [] (start N vs) H s1 := inv_start sc hr.hd e0 hl rv x
    refine ⟨(e0.mod.nolimit.keeps fun b o e => (e0.bs b o e).1).keeps x.toInCall.keep, codeAny_func (wpAny_mono (ht.nox.run [] s1 (start N vs) H { nx := fun _ H' => Q .non H', rt := Q } I ?_) (fun fl s' hs => ?_) fun e s' hs => hs)⟩
    · have al : as.length = ps.length := len as PP hS
      obtain ⟨hat, hq⟩ := hq as PP hS
      have hab := ha.bare hat
      have four : ∀ F2, Ends4 K m (entryG noH H vs as) F2 (defEndsN m PP) { nx := fun _ H' => Q .non H', rt := Q } := fun F2 =>
        .mk (fun env' σ' F' H' p _ k' => hQ _ _ _ _ _ p ((post_of (r := .dat .none) k' (cels _ _ hS) DR.non).back ha)) (fun _ _ _ _ p => p.elim) (fun _ _ _ _ p => p.elim) (fun r env' v σ' F' H' p _ k' r' => hQ _ _ _ _ _ p ((post_of k' (cels _ _ hS) r').back ha))
      exact ⟨entryG noH H vs as, noH, _, _, entry_ok hab al hpl, hq, four _, fun _ => ⟨fun _ => rfl, four⟩⟩
    · have fin : ∀ {σ' : L2.St} {H' : Hp} {v : V} {u : Value}, Inv (cxOf CX0 P w K mg base N qual (defScope st) f cdv A outer s H E0) [] σ' H' s' → RelV v u → Q v H' → CE outer P w H s Q u s' :=
        fun {σ' H' v u} J r q => ⟨v, H', J.os, J.bare, J.base, J.hok, r, q⟩
      match fl, hs with
      | .ret u, ⟨v, σ', H', J, r, q⟩ => exact fin J r q
      | .next, ⟨σ', H', J, q⟩ => exact fin (v := V.non) (u := Value.none) J rfl q
      | .brk, ⟨_, _, _, q⟩ => exact q.elim
      | .cont, ⟨_, _, _, q⟩ => exact q.elim
end
end DL

/-! The data layer, part 24: x.extend of a new list. -/
namespace DL
variable {Z : Zx}
open PySem PySem.Spec PyProof.Rows L2
open Evl (Ex)
section
variable {X : Cx} {e : Expr} {wx : DX} {m : Nat} {pos : Pos}
def exQ (xs ys : List PyData) (K : List PyData → Prop) : Prop := xs.length + ys.length ≤ 100000 ∧ K (xs ++ ys)
theorem q_ex {xs ys : List PyData} {K : List PyData → Prop} : exQ xs ys K = (xs.length + ys.length ≤ 100000 ∧ K (xs ++ ys)) := rfl
def dExt (i : Nat) (wx : DX) (E : DEnds) (env : List SD) : Prop := match env[i]? with
  | some (.cel _ _) => wx env fun r env1 => match r, env1[i]? with
    | .cel _ ys, some (.cel p xs) => exQ xs ys fun xs' => E.nx (env1.set i (.cel p xs'))
    | _, _ => False
  | _ => False
theorem sext (i : Nat) {x : Str} {p0 apos cpos : Pos} (he : PE X e (liftX X.K Z wx)) (hN : X.N[i]? = some x := by rfl) (hv : Vis X.env.scope x := by first | exact Or.inl rfl | exact Or.inr (Or.inl rfl) | exact Or.inr (Or.inr rfl)) (hd : (x == ("__debug__" : Str)) = false := by decide)
    (hcd : (x == ("__classdict__" : Str)) = false := by decide)
    (h1 : attributeBase (.Name x p0) "extend" X.env (eval (.Name x p0) X.env) = eval (.Name x p0) X.env := by rfl)
    (h2 : ((backTo cpos (starEach [e] X.env)).all (!·.1) && (backToKw cpos (keywordEach [] X.env)).all (·.1.isSome) && decide ([e].length + ([] : List Keyword).length + (if ([] : List Keyword).isEmpty then 0 else 1) < 30)) = true := by rfl)
    (h3 : (apos.endLine == cpos.line) = true := by rfl)
    (h4 : starEach [e] X.env = (false, eval e X.env) :: starEach [] X.env := by rfl) (h5 : (backTo cpos (starEach [] X.env)).any (·.1) = false := by rfl)
    (hs : swapsWith (.Call (.Attribute (.Name x p0) "extend" apos) [e] [] cpos) none pos.line X.env = pure false := by rfl) :
    PS X (.Expr (.Call (.Attribute (.Name x p0) "extend" apos) [e] [] cpos) pos) (liftS X.K Z m (dExt i wx)) :=
  PS.of (ps_expr (pe_bm PySem.F.plainAttrs_list PySem.F.slot_list_extend PySem.F.type_list_extend mt_extend (pe_var hN hv hd hcd) (pa_cons he pa_nil h4) h1 h2 h3 h4 h5) hs) fun D σ H ⟨g, F, env, P, k, w, q⟩ => by
    unfold dExt at w
    split at w
    · rename_i p' xs' ex
      obtain ⟨a0, us0, b1, _, b3, _⟩ := k.cel i p' xs' ex
      refine ⟨_, b1, .inl ⟨rfl, us0, SqL.of b3⟩, g, F, env, _, k, w, fun r env1 v F1 H1 p e1 k1 r1 => ?_⟩
      split at p
      · rename_i b2 ys p3 xs ex2
        obtain ⟨a1, us1, c1, c2, c3, c4, _⟩ := k1.cel i p3 xs ex2
        rw [b1] at c1
        cases c1
        obtain ⟨b, vs, rfl, hF, hH, r, h0, hpr, nw⟩ := r1
        exact ⟨a0, b, us1, vs, rfl, rfl, c3, hH, by rw [c4.length, r.length]; exact Evl.sz_of p.1, q.nx _ σ F1 _ p.2 e1 (k1.write ex2 b1 (c4.append r))⟩
      · exact p.elim
    · exact w.elim
end
end DL

/-! The data layer, part 25: more facts of the head (tuples of numbers at the module's top), pop, &. -/
namespace DL
variable {Z : Zx}
open PySem PySem.Spec PyProof.Rows L2
open Evl (Ex)
/-! ### more facts of the head -/
inductive Fx where
  | tup (x : Str) (ns : List Int)
  | exc (c : Str)
  | txt (x z : Str)
def intsB : List Value → List Int → Bool
  | [], [] => true
  | .int i _ :: r, n :: ns => decide (i = n) && intsB r ns
  | _, _ => false
theorem intsB_ok : ∀ {us : List Value} {ns : List Int}, intsB us ns = true → Vals (ns.map V.int) us
  | [], [], _ => .nil
  | .int i t :: r, n :: ns, h => by
    obtain ⟨h1, h2⟩ := He.ba (show (decide (i = n) && intsB r ns) = true from h)
    have e : i = n := of_decide_eq_true h1
    subst e
    exact .cons ⟨t, rfl⟩ (intsB_ok h2)
  | [], _ :: _, h => by cases h
  | .int _ _ :: _, [], h => by cases h
  | .none :: _, ns, h => by cases ns <;> cases h
  | .ellipsis :: _, ns, h => by cases ns <;> cases h
  | .notImplemented :: _, ns, h => by cases ns <;> cases h
  | .bool _ :: _, ns, h => by cases ns <;> cases h
  | .float _ _ :: _, ns, h => by cases ns <;> cases h
  | .str _ _ :: _, ns, h => by cases ns <;> cases h
  | .bytes _ _ :: _, ns, h => by cases ns <;> cases h
  | .type _ :: _, ns, h => by cases ns <;> cases h
  | .builtin _ :: _, ns, h => by cases ns <;> cases h
  | .ref _ :: _, ns, h => by cases ns <;> cases h
def tupB (K : PySem.W.Frag) (a : Addr) (ns : List Int) : Bool := match K.lookup a with
  | some ⟨c, _, .seq its _, _⟩ => decide (c = .type "tuple") && (decide (its.size ≤ 1000) && intsB its.toList ns)
  | _ => false
def Fx.ok (K : PySem.W.Frag) : Fx → Bool
  | .tup x ns => He.eqO (PySem.W.nsIn K mainGlobals x) (some (some (.ref (He.ga K x)))) && tupB K (He.ga K x) ns
  | .exc c => He.eqO (PySem.W.nsIn K mainGlobals c) (some (some (.ref (He.ga K c)))) && xcB K c
  | .txt x z => (He.Fa.str x z).ok K
theorem tupB_ok {K : PySem.W.Frag} {a : Addr} {ns : List Int} (h : tupB K a ns = true) (F : Hp) : SqT K F a (ns.map V.int) := by
  unfold tupB at h
  split at h
  · rename_i c d its n sl e
    obtain ⟨h1, h⟩ := He.ba h
    obtain ⟨h2, h3⟩ := He.ba h
    have e1 : c = .type "tuple" := of_decide_eq_true h1
    have e2 : its.size ≤ 1000 := of_decide_eq_true h2
    exact .inr ⟨_, its, n, e, e1, rfl, by rw [sizeLine_eq]; omega, intsB_ok h3⟩
  · cases h
def FxSays (fx : List Fx) (K : PySem.W.Frag) : Prop := fx.all (fun f => f.ok K) = true
def fxG (n : Nat) (fx : List Fx) (g : Addr → Option Obj) : Bool := match fx with
  | [] => true
  | f :: r => (f :: r).all fun f => f.ok (He.frG g (He.asG g n))
theorem fxG_all {n : Nat} {fx : List Fx} {g : Addr → Option Obj} (h : fxG n fx g = true) : FxSays fx (He.frG g (He.asG g n)) := by
  cases fx with
  | nil => rfl
  | cons f r => exact h
def hookX (n : Nat) (fa : List He.Fa) (fn : List He.FnD) (fx : List Fx) : PySem.W.Hook where
  α := He.Al × Bool × Bool
  obs := fun s => (He.obsG n fa fn s.heap.get?, sysB s.heap.get?, fxG n fx s.heap.get?)
  val := fun _ => (He.valE fn, true, true)
  says := fun _ h => (∃ K : PySem.W.Frag, K.In h ∧ He.SaysE fa fn K ∧ FxSays fx K) ∧ SysD h
  of := fun w s e => ⟨⟨He.frG s.heap.get? (He.asG s.heap.get? n), He.frG_in, congrArg Prod.fst e, fxG_all (congrArg (fun z => z.2.2) e)⟩, sysB_of (congrArg (fun z => z.2.1) e)⟩
  keeps := fun w h h' ⟨⟨K, hK, c⟩, o, es, ep, e, d⟩ k => ⟨⟨K, PySem.W.Frag.In.keeps hK k, c⟩, o, es, ep, k _ _ e, d⟩
theorem obsX_eq {n : Nat} {fa : List He.Fa} {fn : List He.FnD} {fx : List Fx} {g : Addr → Option Obj} {s : Shared} (h : ∀ a, g a = s.heap.get? a) : (He.obsG n fa fn g, sysB g, fxG n fx g) = (hookX n fa fn fx).obs s := by
  have e : g = s.heap.get? := funext h
  rw [e] <;> rfl
structure TopX (fa : List He.Fa) (fn : List He.FnD) (fx : List Fx) (K : PySem.W.Frag) (mg : Str → Option Value) : Prop extends Top fa fn K mg where
  more : FxSays fx K
theorem TopX.fact {fa : List He.Fa} {fn : List He.FnD} {fx : List Fx} {K : PySem.W.Frag} {mg : Str → Option Value} (T : TopX fa fn fx K mg) (i : Nat) {f : Fx} (h : fx[i]? = some f := by rfl) : f.ok K = true := List.all_eq_true.mp T.more f (List.mem_of_getElem? h)
/-- a tuple of whole numbers at the module's top -/
def CtT (K : PySem.W.Frag) (mg : Str → Option Value) (x : Str) (ns : List Int) : Prop := ∃ a, mg x = some (.ref a) ∧ tupB K a ns = true
theorem TopX.tup {fa : List He.Fa} {fn : List He.FnD} {fx : List Fx} {K : PySem.W.Frag} {mg : Str → Option Value} (T : TopX fa fn fx K mg) (x : Str) (ns : List Int) (i : Nat) (h : fx[i]? = some (.tup x ns) := by rfl) : CtT K mg x ns := by
  obtain ⟨hp, h1, h2⟩ := T.ns
  obtain ⟨c1, c2⟩ := He.ba (show (He.eqO (PySem.W.nsIn K mainGlobals x) (some (some (.ref (He.ga K x)))) && tupB K (He.ga K x) ns) = true from T.fact i h)
  exact ⟨_, PySem.W.mg_of h1 h2 (He.eqO_ok c1), c2⟩
/-- a class of refusals of the module -/
def CtE (K : PySem.W.Frag) (mg : Str → Option Value) (x : Str) : Prop := mg x = some (.ref (He.ga K x)) ∧ XcF K x
theorem TopX.exc {fa : List He.Fa} {fn : List He.FnD} {fx : List Fx} {K : PySem.W.Frag} {mg : Str → Option Value} (T : TopX fa fn fx K mg) (c : Str) (i : Nat) (h : fx[i]? = some (.exc c) := by rfl) : CtE K mg c := by
  obtain ⟨hp, h1, h2⟩ := T.ns
  obtain ⟨c1, c2⟩ := He.ba (show (He.eqO (PySem.W.nsIn K mainGlobals c) (some (some (.ref (He.ga K c)))) && xcB K c) = true from T.fact i h)
  exact ⟨PySem.W.mg_of h1 h2 (He.eqO_ok c1), xcB_ok c2⟩
/-- a text at the module's top -/
theorem TopX.txt {fa : List He.Fa} {fn : List He.FnD} {fx : List Fx} {K : PySem.W.Frag} {mg : Str → Option Value} (T : TopX fa fn fx K mg) (x z : Str) (i : Nat) (h : fx[i]? = some (.txt x z) := by rfl) : ∃ t, mg x = some (.str z t) := by
  obtain ⟨hp, h1, h2⟩ := T.ns
  exact He.str_ok h1 h2 (T.fact i h)
section
variable {X : Cx} {a b e : Expr} {we wa wb : DE} {pos : Pos}
theorem dtxt {x z : Str} (hm : ∃ t, X.mg x = some (.str z t)) (hg : Gl X x := by rfl) (hdb : (x == ("__debug__" : Str)) = false := by decide) : PE X (.Name x pos) (liftE X.K Z (dC (.str z))) := by
  obtain ⟨t, h⟩ := hm
  exact dglob (v := .str z) h ⟨t, rfl⟩ (fun _ => .str z) hg hdb
theorem dtupK {x : Str} {ns : List Int} (hm : CtT X.K X.mg x ns) (hg : Gl X x := by rfl) (hdb : (x == ("__debug__" : Str)) = false := by decide) : PE X (.Name x pos) (liftE X.K Z (dC (.tuple (ns.map .int)))) := by
  obtain ⟨a, h1, h2⟩ := hm
  exact dglob (v := .ref a) h1 rfl (fun F => .tup (tupB_ok h2 F) (drs_ints ns)) hg hdb
/-! ### & -/
def oBand (x y : PyData) (P : PyData → Prop) : Prop := oI (fun i j => .int (Builtin.bitAnd i j)) x y P
theorem dband (ha : PE X a (liftE X.K Z wa)) (hb : PE X b (liftE X.K Z wb)) : PE X (.BinOp a .BitAnd b pos) (liftE X.K Z (dOp oBand wa wb)) := dop op_and (opd_I0 (gv := fun i j => .int (Builtin.bitAnd i j)) (gd := fun i j => .int (Builtin.bitAnd i j)) fun _ _ _ => .int _) ha hb
theorem q_band {i j : Int} {P : PyData → Prop} : oBand (.int i) (.int j) P = P (.int (Builtin.bitAnd i j)) := rfl
/-! ### x.pop(i) -/
def popQ (xs : List PyData) (y : PyData) (K : PyData → List PyData → Prop) : Prop := match y with
  | .int k => match ixN xs.length k with
    | some j => match xs[j]? with
      | some d => xs.length ≤ 100000 ∧ K d (xs.eraseIdx j)
      | none => False
    | none => False
  | _ => False
def dPop (i : Nat) (we : DE) (env : List SD) (P : PyData → List SD → Prop) : Prop := match env[i]? with
  | some (.cel _ _) => we env fun y env1 => match env1[i]? with
    | some (.cel p xs) => popQ xs y fun d xs' => P d (env1.set i (.cel p xs'))
    | _ => False
  | _ => False
theorem DRs.erase {K : PySem.W.Frag} {F : Hp} : ∀ {vs : List V} {ds : List PyData} (n : Nat), DRs K F vs ds → DRs K F (vs.eraseIdx n) (ds.eraseIdx n)
  | _, _, _, .nil => .nil
  | _, _, 0, .cons a b => b
  | _, _, n + 1, .cons a b => .cons a (b.erase n)
theorem ix_seq {n j : Nat} {k : Int} (hn : n ≤ 100000) (h : ixN n k = some j) : -(2 ^ 63) ≤ k ∧ k < 2 ^ 63 ∧ seqIndex? k n = some j := by
  unfold ixN at h
  split at h
  · rename_i h0
    split at h
    · rename_i h1
      cases h
      refine ⟨by omega, by omega, ?_⟩
      exact seqIndex_of h0 h1
    · cases h
  · rename_i h0
    split at h
    · rename_i h1
      cases h
      refine ⟨by omega, by omega, ?_⟩
      rw [seqIndex_neg (by omega) (by omega)]
    · cases h
theorem dpop (i : Nat) {x : Str} {p0 apos cpos : Pos} (he : PE X e (liftE X.K Z we)) (hN : X.N[i]? = some x := by rfl) (hv : Vis X.env.scope x := by first | exact Or.inl rfl | exact Or.inr (Or.inl rfl) | exact Or.inr (Or.inr rfl)) (hd : (x == ("__debug__" : Str)) = false := by decide)
    (hcd : (x == ("__classdict__" : Str)) = false := by decide)
    (h1 : attributeBase (.Name x p0) "pop" X.env (eval (.Name x p0) X.env) = eval (.Name x p0) X.env := by rfl)
    (h2 : ((backTo cpos (starEach [e] X.env)).all (!·.1) && (backToKw cpos (keywordEach [] X.env)).all (·.1.isSome) && decide ([e].length + ([] : List Keyword).length + (if ([] : List Keyword).isEmpty then 0 else 1) < 30)) = true := by rfl)
    (h3 : (apos.endLine == cpos.line) = true := by rfl)
    (h4 : starEach [e] X.env = (false, eval e X.env) :: starEach [] X.env := by rfl) (h5 : (backTo cpos (starEach [] X.env)).any (·.1) = false := by rfl) :
    PE X (.Call (.Attribute (.Name x p0) "pop" apos) [e] [] cpos) (liftE X.K Z (dPop i we)) :=
  PE.of (pe_bm PySem.F.plainAttrs_list PySem.F.slot_list_pop PySem.F.type_list_pop mt_popAt (pe_var hN hv hd hcd) (pa_cons he pa_nil h4) h1 h2 h3 h4 h5) fun σ H Q ⟨g, F, env, P, k, w, q⟩ => by
    unfold dPop at w
    split at w
    · rename_i p' xs' ex
      obtain ⟨a0, us0, b1, _, b3, _⟩ := k.cel i p' xs' ex
      refine ⟨_, b1, .inl ⟨rfl, us0, SqL.of b3⟩, g, F, env, _, k, w, fun y env1 v F1 H1 p e1 k1 r1 => ?_⟩
      split at p
      · rename_i p3 xs ex2
        obtain ⟨a1, us1, c1, c2, c3, c4, _⟩ := k1.cel i p3 xs ex2
        rw [b1] at c1
        cases c1
        unfold popQ at p
        split at p
        · rename_i n
          cases r1.inv_int
          split at p
          · rename_i j ej
            split at p
            · rename_i d ed
              obtain ⟨u, hu, ru⟩ := c4.get ed
              obtain ⟨z1, z2, z3⟩ := ix_seq p.1 ej
              exact ⟨a0, us1, n, j, u, rfl, rfl, c3, z1, z2, by rw [c4.length]; exact z3, hu, q _ _ _ F1 _ p.2 e1 (k1.write ex2 b1 (c4.erase j)) ru⟩
            · exact p.elim
          · exact p.elim
        · exact p.elim
      · exact p.elim
    · exact w.elim
end
end DL

/-! The data layer, part 26: tuple(range(..)), list(range(..)). -/
namespace DL
variable {Z : Zx}
open PySem PySem.Spec PyProof.Rows L2
open Evl (Ex)
section
variable {X : Cx} {a b e : Expr} {we wa wb : DE} {pos : Pos}
theorem drs_rg {K : PySem.W.Frag} {F : Hp} {lo : Int} : ∀ l : List Nat, DRs K F (l.map fun i => V.int (lo + (i : Nat))) (l.map fun i : Nat => PyData.int (lo + (i : Int)))
  | [] => .nil
  | i :: l => .cons (.int _) (drs_rg l)
def dTupRg (wa : DE) (env : List SD) (P : PyData → List SD → Prop) : Prop := wa env fun d env1 => rng1 [d] fun l => P (.tuple l) env1
def dLstRg (wa : DE) (env : List SD) (P : SD → List SD → Prop) : Prop := wa env fun d env1 => rng1 [d] fun l => P (.cel false l) env1
theorem dtupRg {p p2 pos2 : Pos} (hc : X.calm = true) (hm : X.mg "tuple" = none) (hm2 : X.mg "range" = none) (ha : PE X a (liftE X.K Z wa)) (hg : Gl X "tuple" := by rfl) (hg2 : Gl X "range" := by rfl)
    (na : starEach [a] X.env = (false, eval a X.env) :: starEach [] X.env := by rfl) (nb : starEach [.Call (.Name "range" p2) [a] [] pos2] X.env = (false, eval (.Call (.Name "range" p2) [a] [] pos2) X.env) :: starEach [] X.env := by rfl) :
    PE X (.Call (.Name "tuple" p) [.Call (.Name "range" p2) [a] [] pos2] [] pos) (liftE X.K Z (dTupRg wa)) :=
  PE.of (pe_tupRg hc hg hm (prg_1 hg2 hm2 ha na) nb) fun σ H Q ⟨g, F, env, P, k, w, q⟩ => ⟨g, F, env, _, k, w, fun d env1 v F1 H1 p e1 k1 r1 => by
    unfold rng1 at p
    split at p
    · rename_i n he
      simp only [List.cons.injEq, and_true] at he
      subst he
      cases r1.inv_int
      have p1 := p.1
      refine ⟨n, rfl, ⟨by omega, by omega, by omega, by omega, by omega⟩, fun D hD => ?_⟩
      obtain ⟨e4, k4, r4⟩ := k1.newTup (vs := rgV 0 n) (xs := rangeD 0 n.toNat) hD (by
        unfold rgV rangeD
        rw [show (n - 0).toNat = n.toNat by omega]
        exact drs_rg _)
      exact q _ _ _ _ _ p.2.out (e1.trans e4) k4 r4
    · exact p.elim⟩
theorem dlstRg {p p2 pos2 : Pos} (hc : X.calm = true) (hm : X.mg "list" = none) (hm2 : X.mg "range" = none) (ha : PE X a (liftE X.K Z wa)) (hg : Gl X "list" := by rfl) (hg2 : Gl X "range" := by rfl)
    (na : starEach [a] X.env = (false, eval a X.env) :: starEach [] X.env := by rfl) (nb : starEach [.Call (.Name "range" p2) [a] [] pos2] X.env = (false, eval (.Call (.Name "range" p2) [a] [] pos2) X.env) :: starEach [] X.env := by rfl) :
    PE X (.Call (.Name "list" p) [.Call (.Name "range" p2) [a] [] pos2] [] pos) (liftX X.K Z (dLstRg wa)) :=
  PE.of (pe_listRg hc hg hm (prg_1 hg2 hm2 ha na) nb) fun σ H Q ⟨g, F, env, P, k, w, q⟩ => ⟨g, F, env, _, k, w, fun d env1 v F1 H1 p e1 k1 r1 => by
    unfold rng1 at p
    split at p
    · rename_i n he
      simp only [List.cons.injEq, and_true] at he
      subst he
      cases r1.inv_int
      have p1 := p.1
      refine ⟨n, rfl, ⟨by omega, by omega, by omega, by omega, by omega⟩, fun D hD => ?_⟩
      obtain ⟨k4, r4⟩ := k1.newCell (vs := rgV 0 n) (xs := rangeD 0 n.toNat) hD (by
        unfold rgV rangeD
        rw [show (n - 0).toNat = n.toNat by omega]
        exact drs_rg _)
      exact q _ _ _ _ _ p.2.out e1 k4 r4
    · exact p.elim⟩
end
end DL

/-! The data layer, part 27: sorted(set(xs)), xs a list of whole numbers. -/
namespace DL
variable {Z : Zx}
open PySem PySem.Spec PyProof.Rows L2
open Evl (Ex)
/-- set() as it is laid -/
def nset (w : World) : Obj := { cls := .type "set", dict := none, data := .set #[] 0 (.fresh 0 0 (!w.params.followText "set-order")) }
section
variable {P : Program} {w : World} {A : Around} {E : Value → Shared → Prop} {s : Shared}
/-- what is left of set.__init__: from an empty set at S on -/
theorem set_fill {S l : Addr} {its : List Value} {ns : List Int} {R : Value → Shared → Prop} (hh : A.handled = none) (hS : s.heap.get? S = some (nset w)) (hl : s.heap.IsList l its.toArray) (hi : IntsAre its ns) (hb : ns.length + 1 < scanBound) (hne : l ≠ S)
    (h : ∀ (h' : Heap) (tk c : Nat), SetR w h' S (fun j => decide (j ∈ ns)) c → c ≤ ns.length → (∀ b o, b ≠ S → s.heap.get? b = some o → h'.get? b = some o) → R .none { s with heap := h', toks := tk }) :
    codeAny (model P w) A (.call (.builtin "set.__init__") ⟨[.ref S, .ref l], []⟩) (wants R E) s := by
  have ty : s.TypeIs (.ref S) "set" := ⟨_, hS, rfl⟩
  have lenI : its.length = ns.length := IntsAre.length hi
  have ltS : S < s.heap.objs.size := Heap.lt_size hS
  refine codeAny_call_builtin F.called_set.init.plain F.entry_set_init (check_set_init_1 ty ?_)
  obtain ⟨lo, elo, elc, ln, eld⟩ := id hl
  have ltl : l < s.heap.objs.size := Heap.lt_size elo
  obtain ⟨c0, d0, dt0, sl0⟩ := lo
  dsimp only at elc eld
  subst elc eld
  have n1 := F.sub_list_set
  have n2 := F.sub_list_frozenset
  have n3 : (Value.type "list" == Value.type "dict") = false := by decide
  unfold Builtin.«set.__init__» noKeywords Builtin.Frozenset.updateFrom
  generalize eP : pyIter = PI
  wp_walk
  subst eP
  refine wpAny_pyIter_list hl (wpAny_bind (wpAny_runValue ?_))
  have h3 : A.in1.in1.handled = none := by simp [hh]
  have nI : l ≠ s.heap.objs.size := Nat.ne_of_lt ltl
  have nf : S ∉ [s.heap.objs.size, l] := by
    simp only [List.mem_cons, List.not_mem_nil, or_false, not_or]
    exact ⟨Nat.ne_of_lt ltS, Ne.symm hne⟩
  have vals : ∀ (i : Nat) (v : Value), its.toArray[i]? = some v → ∃ k t, ns[i]? = some k ∧ v = .int k t := fun i v hv => by
    have hv2 : its[i]? = some v := by simpa using hv
    obtain ⟨t, e⟩ := PyProof.Rows.IntsAre.int_at hi i v hv2
    have hil : i < ns.length := by rw [← lenI]; exact (List.getElem?_eq_some_iff.mp hv2).1
    exact ⟨ns[i], t, List.getElem?_eq_getElem hil, by rw [e, List.getD_eq_getElem?_getD, List.getElem?_eq_getElem hil] <;> rfl⟩
  refine set_update_ints ((Walks.list h3 _ l nI its.toArray).toS) S nf ns (by simpa using lenI) hb vals (its.toArray.size - 0) 0 _ (by omega) (Nat.zero_le _) ⟨⟨_, Heap.get?_push_size _ rfl, rfl, rfl⟩, (hl.push _)⟩ ⟨0, Nat.le_refl 0, ?_⟩ ?_
  · exact setR_new_at (Heap.get?_push_of_some _ hS)
  · intro s' c hm hc hR
    obtain ⟨h', g2, d', tk', os'⟩ := s'
    have e1 : g2 = s.gens := hm.gens
    have e2 : d' = s.drawn := hm.drawn
    have e3 : os' = s.os := hm.os
    subst e1 e2 e3
    refine wpAny_pure (wpAny_pure ?_)
    refine h h' tk' c hR (by simpa [lenI] using hc) fun b o nb e => ?_
    exact hm.heap b o (by simp only [List.mem_cons, List.not_mem_nil, or_false, not_or]; exact ⟨nb, Nat.ne_of_lt (Heap.lt_size e)⟩) (Heap.get?_push_of_some _ e)
/-- set(xs) -/
theorem call_set_ints {l : Addr} {its : List Value} {ns : List Int} {Q : Value → Shared → Prop} (hh : A.handled = none) (hl : s.heap.IsList l its.toArray) (hi : IntsAre its ns) (hb : ns.length + 1 < scanBound)
    (h : ∀ (h' : Heap) (tk c : Nat), SetR w h' s.heap.objs.size (fun j => decide (j ∈ ns)) c → c ≤ ns.length → (∀ b o, s.heap.get? b = some o → h'.get? b = some o) → Q (.ref s.heap.objs.size) { s with heap := h', toks := tk }) :
    wpAny (model P w) A (call (.type "set") [.ref l]) Q E s := by
  have ll : l < s.heap.objs.size := by obtain ⟨_, e, _⟩ := id hl; exact Heap.lt_size e
  obtain ⟨mc, mt, q1⟩ := F.called_set.mro
  have q2 := F.called_set.made
  have q3 := F.called_set.sub
  have q4 := F.called_set.notType
  have q5 := F.called_set.canCreate
  have q6 := F.typeCall_set_1 (.ref l)
  apply wpAny_call
  apply codeAny_of_tree
  show wpAny _ _ (callAny (.type "set") _) _ _ _
  apply wpAny_pure
  refine ⟨Code.quiet_builtin _ (by decide +kernel), codeAny_builtin F.entry_type_call ?_⟩
  rw [show A.under _ = _ from Around.under_plain (weight_type_call_type "set" [.ref l] []) rfl]
  repeat any_goals first | assumption | wp_step
  refine codeAny_mono (code_set_led1 (.ref l) (E := E) (Q₁ := fun o z => o = .ref s.heap.objs.size ∧ z = { s with heap := s.heap.push (nset w) }) ⟨rfl, rfl⟩) fun r z hr => ?_
  match r, hr with
  | .error e, hr => exact hr
  | .ok (.ret o), hr =>
    obtain ⟨rfl, rfl⟩ := hr
    have w1 := F.called_set.init.lookup
    have w2 := F.called_set.init.bind (.ref s.heap.objs.size)
    have w3 : Shared.TypeIs { s with heap := s.heap.push (nset w) } (.ref s.heap.objs.size) "set" := ⟨_, Heap.get?_push_size _ rfl, rfl⟩
    repeat any_goals first | assumption | wp_step
    refine codeAny_mono (set_fill (E := E) (R := fun r z => r = .none ∧ ∃ h' tk c, z = { s with heap := h', toks := tk } ∧ SetR w h' s.heap.objs.size (fun j => decide (j ∈ ns)) c ∧ c ≤ ns.length ∧ ∀ b o, s.heap.get? b = some o → h'.get? b = some o) (by simp [hh]) (Heap.get?_push_size _ rfl) (hl.push _) hi hb (Nat.ne_of_lt ll) fun h' tk c a1 a2 a3 => ⟨rfl, h', tk, c, rfl, a1, a2, fun b o e => a3 b o (Nat.ne_of_lt (Heap.lt_size e)) (Heap.get?_push_of_some _ e)⟩) fun r2 z2 hz => ?_
    match r2, hz with
    | .error e, hz => exact hz
    | .ok (.ret u), hz =>
      obtain ⟨rfl, h', tk, c, rfl, a1, a2, a3⟩ := hz
      repeat any_goals first | assumption | wp_step
      exact h _ _ _ a1 a2 a3
    | .ok .next, hz => exact hz.elim
    | .ok .brk, hz => exact hz.elim
    | .ok .cont, hz => exact hz.elim
  | .ok .next, hr => exact hr.elim
  | .ok .brk, hr => exact hr.elim
  | .ok .cont, hr => exact hr.elim
end
/-! ### set(xs), sorted(set(xs)) -/
def rSetI (w : World) (K : PySem.W.Frag) : List V → Hp → VK → Prop := fun xs H Q => ∃ (l : Addr) (ns : List Int), xs = [V.ref l] ∧ SqL K H l (ns.map V.int) ∧ ns.length + 1 < scanBound ∧ ∀ p c, H p = none → c ≤ ns.length → Q (.ref p) (upd H p (SetO w p (fun j => decide (j ∈ ns)) c))
theorem call_setI {X : Cx} (hc : X.calm = true) : CallR X (.type "set") (rSetI X.w X.K) := by
  intro pins s σ H xs us Q I r h
  obtain ⟨l, ns, rfl, hl, hb, q⟩ := h
  rw [Vals.ref1 r]
  obtain ⟨its, rv, pl, hz⟩ := I.list hl
  refine call_set_ints (I.ok.hd hc) pl.isList (ints_of_vals rv) hb fun h' tk c R hcn k => ?_
  exact ⟨.ref s.heap.objs.size, upd H s.heap.objs.size (SetO X.w s.heap.objs.size (fun j => decide (j ∈ ns)) c), I.laid (t' := tk) k (Nat.le_refl _) (setO_new R), rfl, q _ _ (I.hok.fresh (Nat.le_refl _)) hcn⟩
end DL

/-! The data layer, part 28: sorted(set(xs)) as data. -/
namespace DL
variable {Z : Zx}
open PySem PySem.Spec PyProof.Rows L2
open Evl (Ex)
/-- the members once each, rising -/
def sortSetQ (d : PyData) (K : List PyData → Prop) : Prop := match d with
  | .list ds => match intsD ds with
    | some ns => ns.length < 63 ∧ ∀ ms : List Int, ms.Pairwise (· < ·) → (∀ k, k ∈ ms ↔ k ∈ ns) → K (ms.map .int)
    | none => False
  | _ => False
theorem q_sortSet {ns : List Int} {K : List PyData → Prop} : sortSetQ (.list (ns.map .int)) K = (ns.length < 63 ∧ ∀ ms : List Int, ms.Pairwise (· < ·) → (∀ k, k ∈ ms ↔ k ∈ ns) → K (ms.map .int)) := by
  unfold sortSetQ
  dsimp only
  rw [ints_map]
def dSortSet (wa : DE) (env : List SD) (P : SD → List SD → Prop) : Prop := wa env fun d env1 => sortSetQ d fun xs => P (.cel false xs) env1
section
variable {X : Cx} {a : Expr} {wa : DE} {p p2 pos pos2 : Pos}
theorem dsortSet (hc : X.calm = true) (hm : X.mg "sorted" = none) (hm2 : X.mg "set" = none) (ha : PE X a (liftE X.K Z wa)) (hg : Gl X "sorted" := by rfl) (hg2 : Gl X "set" := by rfl)
    (n1 : starEach [a] X.env = (false, eval a X.env) :: starEach [] X.env := by rfl)
    (n2 : starEach [.Call (.Name "set" p2) [a] [] pos2] X.env = (false, eval (.Call (.Name "set" p2) [a] [] pos2) X.env) :: starEach [] X.env := by rfl) :
    PE X (.Call (.Name "sorted" p) [.Call (.Name "set" p2) [a] [] pos2] [] pos) (liftX X.K Z (dSortSet wa)) :=
  PE.of (pe_callB (cr_sortedSet hc) hg hm (by decide +kernel) (pa_cons (pe_callTy (call_setI hc) hg2 hm2 (by decide +kernel) (pa_cons ha pa_nil n1) (by decide) (by decide) n1 (by rfl)) pa_nil n2) (by decide) (by decide) n2 (by rfl)) fun σ H Q ⟨g, F, env, P, k, w, q⟩ =>
    ⟨g, F, env, _, k, w, fun d env1 v F1 H1 p e1 k1 r1 => by
      unfold sortSetQ at p
      split at p
      · rename_i ds
        split at p
        · rename_i ns e
          obtain ⟨l, us, rfl, h1, h2⟩ := r1.inv_lst
          cases ints_rel h2 e
          have sb : ns.length + 1 < scanBound := by unfold scanBound; have := p.1; omega
          refine ⟨l, ns, rfl, (h1.mono k1.fh).sq, sb, fun a1 c hp1 hc1 => ?_⟩
          refine ⟨a1, _, c, rfl, upd_same, by have := p.1; omega, fun ms a2 s1 s2 s3 hp2 => ?_⟩
          obtain ⟨k3, r3⟩ := (k1.extra (o := SetO X.w a1 (fun j => decide (j ∈ ns)) c) hp1).newCell hp2 (drs_ints ms)
          exact q _ env1 _ F1 _ (p.2 ms s1 fun z => (s2 z).trans decide_eq_true_iff) e1 k3 r3
        · exact p.elim
      · exact p.elim⟩
end
/-- such a row is one alone -/
theorem rise_uniq : ∀ {l m : List Int}, l.Pairwise (· < ·) → m.Pairwise (· < ·) → (∀ k, k ∈ l ↔ k ∈ m) → l = m
  | [], [], _, _, _ => rfl
  | [], b :: m, _, _, h => by have := (h b).mpr (List.mem_cons_self ..); simp at this
  | a :: l, [], _, _, h => by have := (h a).mp (List.mem_cons_self ..); simp at this
  | a :: l, b :: m, hl, hm, h => by
    obtain ⟨l1, l2⟩ := List.pairwise_cons.mp hl
    obtain ⟨m1, m2⟩ := List.pairwise_cons.mp hm
    have e : a = b := by
      rcases List.mem_cons.mp ((h a).mp (List.mem_cons_self ..)) with z | z
      · exact z
      · rcases List.mem_cons.mp ((h b).mpr (List.mem_cons_self ..)) with y | y
        · exact y.symm
        · have := m1 a z
          have := l1 b y
          omega
    subst e
    congr 1
    refine rise_uniq l2 m2 fun k => ⟨fun z => ?_, fun z => ?_⟩
    · rcases List.mem_cons.mp ((h k).mp (List.mem_cons_of_mem _ z)) with y | y
      · have := l1 k z; omega
      · exact y
    · rcases List.mem_cons.mp ((h k).mpr (List.mem_cons_of_mem _ z)) with y | y
      · have := m1 k z; omega
      · exact y
end DL

/-! The data layer, part 29: refusals. What a def lets out; raise; calls that may refuse; try .. except PrizeError as n. -/
namespace DL
variable {Z : Zx}
open PySem PySem.Spec PyProof.Rows L2
open Evl (Ex)
/-- what is told of a refusal: its class and the names' data -/
abbrev RD := Str → List SD → Prop
def liftW (K : PySem.W.Frag) (Z : Zx) (Ed : RD) : WX := fun cls d σ H => ∃ c : Str, cls = .ref (He.ga K c) ∧ d = none ∧ XcF K c ∧ ∃ (g : Gx Z) (F : Hp) (env : List SD), Ok K g F env σ H ∧ Ed c env
abbrev DSpX := List SD → (SD → List SD → Prop) → (Str → Prop) → Prop
abbrev XWish := Value → Option Addr → Hp → Prop
def spDX (K : PySem.W.Frag) (S : DSpX) (vs : List V) (H : Hp) (Q : VK) (E : XWish) : Prop := ∃ (F : Hp) (as : List SD) (P : SD → List SD → Prop) (Ec : Str → Prop), ArgsOk K F H vs as ∧ S as P Ec ∧
  (∀ r as' v F' H', P r as' → PostOk K F H vs as F' H' as' v r → Q v H') ∧ ∀ c F' H', Ec c → XcF K c → PostOk K F H vs as F' H' [] .non (.dat .none) → E (.ref (He.ga K c)) none H'
/-- no cell is handed in -/
def NoCel (as : List SD) : Prop := ∀ (i : Nat) (p : Bool) (xs : List PyData), as[i]? ≠ some (.cel p xs)
/-- as FnG, for a def that may refuse -/
structure FnX (P : Program) (w : World) (K : PySem.W.Frag) (mg : Str → Option Value) (base : Heap) (k : Nat) (f : Addr) (fd : FuncData) (ps : List Str) (S : DSpX) : Prop where
  len : ∀ as Q E, S as Q E → as.length = ps.length
  nc : ∀ as Q E, S as Q E → NoCel as
  go : ∀ (A : Around) (outer : List Env) (s : Shared) (H : Hp) (args : Args) (us : List Value) (vs : List V) (Q : VK) (E : XWish), Room k A → A.guards = some [] → Env0 P w K mg base A outer s H →
    BindsTo s fd args (ps.zip us) → Vals vs us → spDX K S vs H Q E → codeAny (model P w) A (.call (.ref f) args) (CR (L2.CX P w) outer P w H s Q E) s
structure DnX (P : Program) (w : World) (K : PySem.W.Frag) (mg : Str → Option Value) (base : Heap) (x : Str) (k : Nat) (ps : List Str) (S : DSpX) : Prop where
  ex : ∃ fd, FnX P w K mg base k (He.ga K x) fd ps S ∧ Binds K fd ps []
  glo : mg x = some (.ref (He.ga K x))
  kp : PySem.W.keepIn K (.ref (He.ga K x)) = true
section
variable {X : Cx} {k : Nat} {f : Addr} {fd : FuncData} {ps : List Str} {S : DSpX} {x : Str} {p pos : Pos} {e : Expr} {es : List Expr} {was : DA} {Ed : RD}
theorem run_x {pins : List (Addr × Obj)} {σ : L2.St} {H : Hp} {s : Shared} {Q : VK} {us : List Value} {vs : List V} (G : FnX X.prog X.w X.K X.mg X.base k f fd ps S) (hr : Room k X.A) (hA : X.A.guards = some []) (hb : Binds X.K fd ps [])
    (tk : Takes X (liftW X.K Z Ed)) (I : Inv X pins σ H s) (rv : Vals vs us) (h : spDX X.K S vs H Q (fun cls d H' => liftW X.K Z Ed cls d σ H')) : wpAny (model X.prog X.w) X.A (call (.ref f) us) (EP X pins σ Q) X.xe s := by
  obtain ⟨F0, as, P, Ec, a1, a2, _⟩ := id h
  have hl : (us ++ ([] : List Value)).length = ps.length := by rw [List.append_nil, ← rv.length, ← a1.len]; exact G.len _ _ _ a2
  have hbb := hb s us I.kIn hl
  rw [List.append_nil] at hbb
  refine wpAny_call (codeAny_mono (G.go X.A X.stack s H ⟨us, []⟩ us vs Q _ hr hA I.env0 hbb rv h) fun res s' hq => ?_)
  match res, hq with
  | .error e, hq => exact passAt tk σ pins H s e s' I hq
  | .ok (.ret u), hq => exact I.after hq
  | .ok .next, hq => exact hq.elim
  | .ok .brk, hq => exact hq.elim
  | .ok .cont, hq => exact hq.elim
/-- f(..), which may refuse -/
def dCallE (S : DSpX) (Ed : RD) (was : DA) (env : List SD) (P : SD → List SD → Prop) : Prop := was env fun ds env1 => S (ds.map .dat) (fun r _ => P r env1) fun c => Ed c env1
theorem dcnE (D : DnX X.prog X.w X.K X.mg X.base x k ps S) (hr : Room k X.A) (hA : X.A.guards = some []) (tk : Takes X (liftW X.K Z Ed))
    (ha : PA X (e :: es) (liftA X.K Z was)) (hg : Gl X x := by rfl) (hdb : (x == ("__debug__" : Str)) = false := by decide)
    (he : starEach (e :: es) X.env = (false, eval e X.env) :: starEach es X.env := by rfl) (hpl : (backTo pos (starEach es X.env)).any (·.1) = false := by rfl) : PE X (.Call (.Name x p) (e :: es) [] pos) (liftX X.K Z (dCallE S Ed was)) := by
  obtain ⟨fd, G, hb⟩ := D.ex
  refine ⟨fun pins s σ H Q I ⟨g, F, env, P, k0, w, q⟩ => wpAny_Call_Name_kw (ld_glob I hg D.glo (PySem.W.callWith_K (h₀ := X.base) I.ok.mod.kin D.kp (thn (ha.run pos pins s σ H (spDX X.K S · · Q fun cls d H' => liftW X.K Z Ed cls d σ H') I ?_) fun us s1 ⟨vs, H1, I1, r, q1⟩ => ⟨I1.kIn, run_x G hr hA hb tk I1 r q1⟩) he hpl) hdb)⟩
  refine ⟨g, F, env, _, k0, w, fun ds env1 vs F1 H1 p1 e1 k1 r1 => ⟨F1, ds.map .dat, _, _, args_dat k1.fh r1, p1, fun r as' v F2 H2 p2 po => ?_, fun c F2 H2 p2 xc po => ?_⟩⟩
  · obtain ⟨k2, r2⟩ := k1.after no_cel po
    exact q r env1 v F2 H2 p2 (e1.trans po.ex) k2 r2
  · exact ⟨c, rfl, rfl, xc, g, F2, env1, (k1.after no_cel po).1, p2⟩
end
section
variable {X : Cx} {m : Nat} {pos : Pos} {Ed : RD}
/-- raise X('..') -/
def dRaise (c : Str) (Ed : RD) (_ : DEnds) (env : List SD) : Prop := Ed c env
theorem sraise {x msg : Str} {j : Nat} {p p2 pos2 : Pos} (hx : CtE X.K X.mg x) (hc : X.calm = true) (tk : Takes X (liftW X.K Z Ed)) (hg : Gl X x := by rfl) (hdb : (x == ("__debug__" : Str)) = false := by decide) :
    PS X (.Raise (some (.Call (.Name x p) [.Constant (.str msg) j p2] [] pos2)) none pos) (liftS X.K Z m (dRaise x Ed)) :=
  PS.of (ps_raise hc tk (pmk_own PySem.F.excBase_ValueError hx.2.made hx.1 hx.2.kp (raises_own hx.2.cls.hs hx.2.ty) hg hdb)) fun D σ H ⟨g, F, env, P, k, w, q⟩ =>
    (show liftW X.K Z Ed (.ref (He.ga X.K x)) none σ H from ⟨x, rfl, rfl, hx.2, g, F, env, k, w⟩)
end
/-! ### a caught refusal is tracked -/
section
variable {X : Cx} {pins : List (Addr × Obj)} {σ : L2.St} {H : Hp} {s : Shared} {a C : Addr} {oe : Obj} {vs : Array Value}
theorem own_data {o o' : Obj} {c : Value} {d : Option Addr} {w : Array Value} (h : Zc c d o) (hd : o.data = .fields w) : o.cls = c ∧ o.dict = d ∧ o.data = .fields w := ⟨h.1, h.2, hd⟩
theorem excAt_new (e : s.heap.get? a = some oe) (hz : Zc (.ref C) none oe) (hd : oe.data = .fields vs) {P : Program} {w : World} {H : Hp} : ObjOk P w H s.heap a (.ext (ExcAt C a)) :=
  ⟨⟨oe, vs, e, hz.1, hz.2, hd⟩, ⟨oe, e⟩, fun h1 h2 ⟨o, us, q1, q2, q3, q4⟩ kp => ⟨o, us, kp o q1, q2, q3, q4⟩⟩
/-- the context of the suite: nothing is pinned beside -/
abbrev suiteX (X : Cx) (a : Addr) (pn : List (Addr × Obj)) : Cx := X.suite a pn
theorem Inv.caught (I : Inv X pins σ H s) (hex : X.ex = []) (h0 : X.s_0.heap.get? a = none) (hp : ∀ q ∈ X.pn ++ pins, q.1 ≠ a) (e : s.heap.get? a = some oe) (hz : Zc (.ref C) none oe) (hd : oe.data = .fields vs) (na : H a = none)
    (nL : a ≠ X.env.locals) : Inv (X.suite a (X.pn ++ pins)) [] σ (upd H a (.ext (ExcAt C a))) s where
  ok := I.ok.suite _ _
  os := I.os
  bare := I.bare
  base := by
    have hxx : ∀ b : Addr, b ∉ X.ex := fun b hb => by rw [hex] at hb; cases hb
    refine ⟨I.base.keep, I.base.slot, fun b o q n z => ?_, I.base.there, fun b xs q => ?_, fun b o u q => ?_, fun b ps q => ?_⟩
    · have ne : b ≠ a := fun y => by
        subst y
        have q' : X.s_0.heap.get? b = some o := q
        rw [h0] at q'
        cases q'
      rw [upd_ne ne]
      exact I.base.free b o q n z
    · have r := I.base.tups b xs q
      rw [upd_ne (ne_of_none r na)]
      exact r
    · have r := I.base.frzs b o u q
      rw [upd_ne (ne_of_none r na)]
      exact r
    · obtain ⟨more, r⟩ := I.base.tbls b ps q
      exact ⟨more, by rw [upd_ne (ne_of_none r na)]; exact r⟩
  loc := I.loc
  cell := I.cell
  free := by
    show upd H a (.ext (ExcAt C a)) X.env.locals = none
    rw [upd_ne (Ne.symm nL)]
    exact I.free
  freeC := fun x c q => by
    obtain ⟨v, hv⟩ := I.cell x c q
    have ne : c ≠ a := fun y => by
      subst y
      obtain ⟨o, h1, h2⟩ := hv
      rw [e] at h1
      cases h1
      rw [hd] at h2
      cases h2
    rw [upd_ne ne]
    exact I.freeC x c q
  pin := fun q hq => by
    rw [List.append_nil] at hq
    obtain ⟨z1, z2, z3, z4, z5⟩ := I.pin q hq
    exact ⟨z1, by rw [upd_ne (hp q hq)]; exact z2, z3, z4, z5⟩
  hok := fun b o q => by
    by_cases hb : b = a
    · subst hb
      rw [upd_same] at q
      cases q
      exact excAt_new e hz hd
    · rw [upd_ne hb] at q
      exact (I.hok b o q).stay (fun c u _ z => z) (fun c z => by rw [upd_ne (ne_of_none z na)]; exact z) fun c xs z => by rw [upd_ne (ne_of_none z na)]; exact z
  len := I.len
theorem Inv.released {pn' : List (Addr × Obj)} (I : Inv (X.suite a (X.pn ++ pins)) pn' σ H s) (ok : X.Ok) : Inv X pins σ H s where
  ok := ok
  os := I.os
  bare := I.bare
  base := I.base
  loc := I.loc
  cell := I.cell
  free := I.free
  freeC := I.freeC
  pin := fun q hq => I.pin q (List.mem_append_left _ hq)
  hok := I.hok
  len := I.len
end
end DL

/-! The data layer, part 30: try .. except PrizeError as n. -/
namespace DL
variable {Z : Zx}
open PySem PySem.Spec PyProof.Rows L2
open Evl (Ex)
/-- a refusal as a datum -/
abbrev exD (c : Str) : PyData := .dict [(.none, .str c)]
/-- the suite's ends: the clause's name goes -/
def goneEnds (i : Nat) (E : DEnds) : DEnds :=
  { nx := fun e => bIf (noPar e i) (E.nx (e.set i .un)) False, rt := E.rt, bk := fun e => bIf (noPar e i) (E.bk (e.set i .un)) False, ct := fun e => bIf (noPar e i) (E.ct (e.set i .un)) False, nol := false }
def dTry (i : Nat) (wb : RD → DS) (ws : DS) (E : DEnds) (env : List SD) : Prop := wb (fun c env1 => bIf (noPar env1 i) (ws (goneEnds i E) (env1.set i (.dat (exD c)))) False) { nx := E.nx, rt := E.rt, bk := E.bk, ct := E.ct, nol := false } env
section
variable {K : PySem.W.Frag} {g : Gx Z} {F : Hp} {env : List SD} {σ : L2.St} {H : Hp}
/-- what is fixed for a try's body -/
def tryZ (Z : Zx) (F Pr : Hp) : Zx := ⟨F, Z.H0, Z.A0, Pr⟩
def tryG (g : Gx Z) (F : Hp) : Gx (tryZ Z F g.Pr) := ⟨g.Pr, fun _ _ h => h⟩
theorem Ok.inTry (k : Ok K g F env σ H) : Ok K (tryG g F) F env σ H where
  len := k.len
  fh := k.fh
  dat := k.dat
  cel := k.cel
  sep := k.sep
  pin := k.pin
  frame := k.frame
  newF := fun _ _ e => .inl e
  oldF := Ex.refl F
  prot := k.prot
theorem Ok.ofTry (k0 : Ok K g F env σ H) {g2 : Gx (tryZ Z F g.Pr)} {F2 : Hp} {env2 : List SD} {σ2 : L2.St} {H2 : Hp} (k : Ok K g2 F2 env2 σ2 H2) : Ex F F2 ∧ Ok K g F2 env2 σ2 H2 := by
  have e : Ex F F2 := k.oldF
  refine ⟨e, ⟨k.len, k.fh, k.dat, k.cel, k.sep, k.pin, k.frame, fun a o h => ?_, k0.oldF.trans e, fun a o h => k.prot a o (g2.px a o h)⟩⟩
  rcases k.newF a o h with z | z
  · exact k0.newF a o z
  · exact .inr z
theorem res_ofTry {F2 : Hp} {env2 : List SD} {σ2 : L2.St} {H2 : Hp} {v : V} {r : SD} (h : ResOk K (tryG g F) F2 env2 σ2 H2 v r) : ResOk K g F2 env2 σ2 H2 v r := by
  cases r <;> exact h
theorem Ends4.inTry {m : Nat} {P : DEnds} {D : Ends} (k0 : Ok K g F env σ H) (q : Ends4 K m g F P D) : Ends4 K m (tryG g F) F { nx := P.nx, rt := P.rt, bk := P.bk, ct := P.ct, nol := false } D where
  nx := fun env' σ' F' H' p e k => q.nx env' σ' F' H' p e (k0.ofTry k).2
  bk := fun env' σ' F' H' p e k => q.bk env' σ' F' H' p e (k0.ofTry k).2
  ct := fun env' σ' F' H' p e k => q.ct env' σ' F' H' p e (k0.ofTry k).2
  rt := fun r env' v σ' F' H' p e k rr => q.rt r env' v σ' F' H' p e (k0.ofTry k).2 (res_ofTry rr)
/-- the slot i holds nothing any more -/
def goneD (i : Nat) (D : Ends) : Ends := { nx := fun σ' H' => D.nx (σ'.set i none) H', rt := D.rt, bk := fun σ' H' => D.bk (σ'.set i none) H', ct := fun σ' H' => D.ct (σ'.set i none) H' }
theorem Ends4.gone {m i : Nat} {P : DEnds} {D : Ends} (q : Ends4 K m g F P D) : Ends4 K m g F (goneEnds i P) (goneD i D) where
  nx := fun env' σ' F' H' p e k => q.nx _ _ F' H' (bIf_and p).2 e (k.setU (noPar_of (bIf_and p).1))
  bk := fun env' σ' F' H' p e k => q.bk _ _ F' H' (bIf_and p).2 e (k.setU (noPar_of (bIf_and p).1))
  ct := fun env' σ' F' H' p e k => q.ct _ _ F' H' (bIf_and p).2 e (k.setU (noPar_of (bIf_and p).1))
  rt := q.rt
end
section
variable {X : Cx} {m i : Nat} {pos pos' np : Pos} {n : Str} {body suite : List Stmt} {b₀ : Stmt} {wb : RD → DS} {ws : DS}
/-- a refusal of the body lands in the suite -/
theorem stry (i : Nat) (hPE : X.mg "PrizeError" = some (.ref (He.ga X.K "PrizeError"))) (hN : X.N.Nodup)
    (hb : ∀ {Z' : Zx} (Ed : RD) (pn : List (Addr × Obj)) (xe : Value → Shared → Prop), Takes (X.tr pn xe) (liftW X.K Z' Ed) → PassesOwn (model X.prog X.w) X.A X.env xe → PSs (X.tr pn xe) body (liftS X.K Z' m (wb Ed)))
    (hsu : ∀ (a : Addr) (pn : List (Addr × Obj)), PSs (X.suite a pn) (b₀ :: suite) (liftS X.K Z m ws))
    (hs : X.stack = X.env :: X.outer := by rfl) (hf : X.env.frame = some X.env.locals := by rfl) (hex : X.ex = [] := by rfl) (hi : X.N[i]? = some n := by rfl) (hln : X.env.kindOf n = some .local := by rfl) (hgl : Gl X "PrizeError" := by rfl) :
    PS X (.Try body [.ExceptHandler (some (.Name "PrizeError" np)) (some n) (b₀ :: suite) pos'] [] [] pos) (liftS X.K Z m (dTry i wb ws)) := by
  refine ⟨fun pins s σ H D I ⟨g, F, env, P, k, w, q⟩ => ?_⟩
  have ok := I.ok
  have hfr : X.A.frames = some (X.env :: X.outer) := ok.frames.trans (congrArg some hs)
  let Ed : RD := fun c env1 => bIf (noPar env1 i) (ws (goneEnds i P) (env1.set i (.dat (exD c)))) False
  let hd : List ExceptHandler := [.ExceptHandler (some (.Name "PrizeError" np)) (some n) (b₀ :: suite) pos']
  let xe : Value → Shared → Prop := fun e s1 => wpAny (model X.prog X.w) X.A (noteFrame e X.env) (fun _ s2 => wpAny (model X.prog X.w) X.A (setFlight e none) (fun _ s3 => wpAny (model X.prog X.w) X.A (handleBy e X.env hd) (SP X pins D) X.xe s3) X.xe s2) X.xe s1
  have tk : Takes (X.tr (X.pn ++ pins) xe) (liftW X.K (tryZ Z F g.Pr) Ed) := by
    intro u s' xx
    obtain ⟨x, B, sI, pins', σ1, H1, cls, d, rfl, J0, nb, up, sky, na, os, ag, c, rfl, rfl, xc, g2, F2, env2, k2, hE⟩ := xx
    have J : Inv X pins σ1 H1 sI := J0.ofTry ok
    obtain ⟨hnp, hE⟩ := bIf_and hE
    obtain ⟨eF, k3⟩ := k.ofTry k2
    have sky2 : Sky B (X.env :: X.outer) x (Zc (.ref (He.ga X.K c)) none) X.env.locals s'.heap := hs ▸ sky
    show wpAny (model X.prog X.w) X.A (noteFrame (.ref x) X.env) _ _ _
    refine Sky.land Zc.steady hfr hf sky2 fun h3 fl3 up3 => ?_
    have J3 : Inv X pins σ1 H1 { s' with heap := h3 } := J.landed nb fl3.1 (up.trans up3) os ag
    obtain ⟨o3, v3, g3, z3, f3⟩ := fl3.there
    have nfr : x ∉ frs (X.env :: X.outer) := fun hm => by
      obtain ⟨_, o, e1, e2⟩ := fl3.2.2.1.mem hm
      rw [g3] at e1
      cases e1
      exact e2 _ f3
    have nL : x ≠ X.env.locals := fun z => nfr (List.mem_filterMap.mpr ⟨_, List.mem_cons_self .., hf.trans (congrArg some z.symm)⟩)
    have nF : x ∉ X.fs := fun hm => by
      obtain ⟨e, h1, h2⟩ := List.mem_filterMap.mp hm
      exact nfr (List.mem_filterMap.mpr ⟨e, List.mem_cons_of_mem _ h1, h2⟩)
    have nI : sI.heap.get? x = none := by
      cases z : sI.heap.get? x with
      | none => rfl
      | some o =>
        have := nb x o z (by rw [hs]; exact nfr)
        rw [fl3.2.1] at this
        cases this
    have n0 : X.s_0.heap.get? x = none := by
      cases z : X.s_0.heap.get? x with
      | none => rfl
      | some o =>
        obtain ⟨o', e'⟩ := J.base.there x o z (by rw [hex]; simp)
        rw [nI] at e'
        cases e'
    have npn : ∀ r ∈ X.pn ++ pins, r.1 ≠ x := fun r hr z => by
      have := (J.pin r hr).1
      rw [z, nI] at this
      cases this
    have S3 := J3.suite g3 f3 na nL nF
    refine wpAny_handleBy_cons (codeAny_handlers_test ?_) (by intro q; cases q)
    have kind : PySem.W.Looks (model X.prog X.w) h3 (typeOf (.ref x)) (.ref (He.ga X.K c)) := fun _ _ _ _ kk z => wpAny_typeOf_ref (kk _ _ g3) (by rw [z3.1]; exact z)
    refine ld_glob (X := X.suite x ((x, o3) :: (X.pn ++ pins))) S3 hgl hPE ((PySem.W.exm_one J3.kIn kind xc.exm).here ?_)
    refine codeAny_handlers_suite_as (HandSPX.lands_againZ fl3 fun h4 fl4 up4 => ?_)
    have J4 : Inv X pins σ1 H1 { s' with heap := h4 } := J.landed nb fl4.1 ((up.trans up3).trans up4) os ag
    obtain ⟨o4, v4, g4, z4, f4⟩ := fl4.there
    have S4 := Inv.caught J4 hex n0 npn g4 z4 f4 na nL
    refine store_ok (X := X.suite x (X.pn ++ pins)) (v := .ref x) S4 hN hi (.inl hln) rfl (fun s5 S5 => ?_) (.inr hln)
    have ka : Ok X.K g (upd F2 x (.ext (ExcAt (He.ga X.K c) x))) env2 σ1 (upd H1 x (.ext (ExcAt (He.ga X.K c) x))) := k3.alloc na
    have kb := ka.setD (d := exD c) (v := .ref x) (noPar_of hnp) (.exc upd_same xc)
    have eF2 : Ex F (upd F2 x (.ext (ExcAt (He.ga X.K c) x))) := eF.trans (Ex.new (fnone k3.fh na))
    refine wpAny_mono ((hsu x (X.pn ++ pins)).run [] s5 _ _ (goneD i D) S5 ⟨g, _, _, _, kb, hE, .mk4 (q.ex eF2).four.gone rfl⟩) (fun fl s6 r => ?_) (fun _ _ z => z.elim)
    match fl, r with
    | .next, ⟨_, _, S6, q6⟩ => exact gone_ok (Inv.released S6 ok) hN hi hln fun s7 J7 => ⟨_, _, J7, q6⟩
    | .brk, ⟨_, _, S6, q6⟩ => exact gone_ok (Inv.released S6 ok) hN hi hln fun s7 J7 => ⟨_, _, J7, q6⟩
    | .cont, ⟨_, _, S6, q6⟩ => exact gone_ok (Inv.released S6 ok) hN hi hln fun s7 J7 => ⟨_, _, J7, q6⟩
    | .ret u, ⟨_, _, _, S6, r6, q6⟩ => exact gone_ok (Inv.released S6 ok) hN hi hln fun s7 J7 => ⟨_, _, _, J7, r6, q6⟩
  refine wpAny_Try_except (wpAny_mono ((hb Ed (X.pn ++ pins) xe tk PassesOwn.looking).run [] s σ H D (I.toTry _) ⟨tryG g F, F, env, _, k.inTry, w, .mk4 (Ends4.inTry k q.four) rfl⟩) (fun fl s1 r => ?_) fun e s1 z => z)
  match fl, r with
  | .next, ⟨_, _, J, q1⟩ => exact wpAny_execs_nil ⟨_, _, J.ofTry ok, q1⟩
  | .brk, ⟨_, _, J, q1⟩ => exact ⟨_, _, J.ofTry ok, q1⟩
  | .cont, ⟨_, _, J, q1⟩ => exact ⟨_, _, J.ofTry ok, q1⟩
  | .ret u, ⟨_, _, _, J, r1, q1⟩ => exact ⟨_, _, _, J.ofTry ok, r1, q1⟩
end
end DL

/-! The data layer, part 31: a def that may refuse, by its body; isinstance of a caught refusal. -/
namespace DL
variable {Z : Zx}
open PySem PySem.Spec PyProof.Rows L2
open Evl (Ex)
section
variable {P : Program} {w : World} {K : PySem.W.Frag} {mg : Str → Option Value} {base : Heap}
/-- as dfn, for a def that may refuse: Ec is what its caller wishes of refusals -/
theorem dfnX {x qual : Str} {st : Stmt} {f : Addr} {fd : FuncData} {N ps : List Str} {k : Nat} {S : DSpX} (Fn : Fun K x qual st f fd) (sc : FnScope N ps (defScope st)) (len : ∀ as Q E, S as Q E → as.length = ps.length) (nc : ∀ as Q E, S as Q E → NoCel as)
    (hbody : ∀ {Z : Zx} (Ec : Str → Prop) (cdv : Value) (A : Around) (outer : List Env) (s : Shared) (H : Hp) (E : XWish), Takes (cxOf (L2.CX P w) P w K mg base N qual (defScope st) f cdv A outer s H E) (liftW K Z fun c _ => Ec c) →
      PassesOwn (model P w) (A.deeper (envOfC qual (defScope st) s.heap.objs.size f cdv)) (envOfC qual (defScope st) s.heap.objs.size f cdv) (cxOf (L2.CX P w) P w K mg base N qual (defScope st) f cdv A outer s H E).xe →
      Room k (A.deeper (envOfC qual (defScope st) s.heap.objs.size f cdv)) → (A.deeper (envOfC qual (defScope st) s.heap.objs.size f cdv)).guards = some [] →
      ∃ t : DS, PSs (cxOf (L2.CX P w) P w K mg base N qual (defScope st) f cdv A outer s H E) (defBody st) (liftS K Z 0 t) ∧
        ∀ as Q, S as Q Ec → t (defEnds 0 Q) (as ++ List.replicate (N.length - ps.length) .un)) : FnX P w K mg base (k + 1) f fd ps S := by
  obtain ⟨oc, od, kV, doc, pm, an, cdv, ct, osl, rfl, lk, hcd⟩ := Fn.ex
  refine ⟨len, nc, fun A outer s H args us vs Q E hr hg e0 hb rv ⟨F0, as, PP, Ec, ha, hS, hQ, hE⟩ => ?_⟩
  have al : as.length = ps.length := len as PP Ec hS
  have hl : vs.length = ps.length := ha.len.symm.trans al
  have hpl : ps.length ≤ N.length := by
    have := congrArg List.length sc.pre
    rw [List.length_take] at this
    omega
  have KX : K.In s.heap := e0.mod.kin.keeps fun b o e => (e0.bs b o e).1
  have noc := nc as PP Ec hS
  have cells : ∀ (i : Nat) (p : Bool) (xs : List PyData), as[i]? = some (.cel p xs) → i < 0 := fun i p xs e => absurd e (noc i p xs)
  refine codeAny_call_function hr.depth (KX _ _ lk) rfl sc.co sc.gen rfl (PySem.W.codeRec_of KX hcd) (hb _ _ _ _ (wpAny_newFunctionEnv_cells sc.kind (fun ⟨n, v⟩ hy => ?_) fun env he s1 y => ?_))
  · rcases sc.par n (List.of_mem_zip hy).1 with q | q
    · exact .inl q
    · exact .inr ⟨q, PySem.W.cellsFrom_some _ _ _ (.inl q)⟩
  · subst he
    have tk : Takes (cxOf (L2.CX P w) P w K mg base N qual (defScope st) f cdv A outer s H E) (liftW K (entryZ F0 H vs as) fun c _ => Ec c) := (takes_of rfl rfl rfl rfl).imp fun cls d σ2 H2 ⟨c, h1, h2, xc, g2, F2, env2, k2, h3⟩ => by
      subst h1 h2
      exact hE c F2 H2 h3 xc ⟨k2.oldF, k2.fh, k2.newF, fun a o e _ => k2.frame a o e fun i z => (by
        obtain ⟨p, xs, h1, h2⟩ := cellsAt_inv z
        exact noc i p xs h1), fun i p xs a h1 _ => absurd h1 (noc i p xs), .non⟩
    obtain ⟨t, ht, hq⟩ := hbody (Z := entryZ F0 H vs as) Ec cdv A outer s H E tk (passes_of rfl) (hr.deeper _) hg
    have I : Inv (cxOf (L2.CX P w) P w K mg base N qual (defScope st) f cdv A outer s H E) [] (start N vs) H s1 := inv_start sc hr.hd e0 hl rv y
    refine ⟨(e0.mod.nolimit.keeps fun b o e => (e0.bs b o e).1).keeps y.toInCall.keep, codeAny_func (wpAny_mono (ht.run [] s1 (start N vs) H { nx := fun _ H' => Q .non H', rt := Q } I ?_) (fun fl s' hs => ?_) fun e s' hs => hs)⟩
    · refine ⟨entryG F0 H vs as, F0, _, _, entry_ok ha al hpl, hq as PP hS, ?_⟩
      exact .mk4 (.mk (fun env' σ' F' H' p _ k' => hQ _ _ _ _ _ p (post_of k' cells .non)) (fun _ _ _ _ p => p.elim) (fun _ _ _ _ p => p.elim) (fun r env' v σ' F' H' p _ k' r' => hQ _ _ _ _ _ p (post_of k' cells r'))) rfl
    · have fin : ∀ {σ' : L2.St} {H' : Hp} {v : V} {u : Value}, Inv (cxOf (L2.CX P w) P w K mg base N qual (defScope st) f cdv A outer s H E) [] σ' H' s' → RelV v u → Q v H' → CE outer P w H s Q u s' :=
        fun {σ' H' v u} J r q => ⟨v, H', J.os, J.bare, J.base, J.hok, r, q⟩
      match fl, hs with
      | .ret u, ⟨v, σ', H', J, r, q⟩ => exact fin J r q
      | .next, ⟨σ', H', J, q⟩ => exact fin (v := V.non) (u := Value.none) J rfl q
      | .brk, ⟨_, _, _, q⟩ => exact q.elim
      | .cont, ⟨_, _, _, q⟩ => exact q.elim
end
/-- where nothing is refused, such a def is a plain one -/
theorem DnX.calm {P : Program} {w : World} {K : PySem.W.Frag} {mg : Str → Option Value} {base : Heap} {x : Str} {k : Nat} {ps : List Str} {S : DSpX} (D : DnX P w K mg base x k ps S) : Dn P w K mg base x k ps (fun as Q => S as Q fun _ => False) := by
  obtain ⟨⟨fd, G, hb⟩, h1, h2⟩ := D
  refine ⟨⟨fd, ⟨fun as Q h => G.len as Q _ h, fun A outer s H args us vs Q hr hA e0 bt rv ⟨F, as, P, a1, a2, a3⟩ => ?_⟩, hb⟩, h1, h2⟩
  refine codeAny_mono (G.go A outer s H args us vs Q (fun _ _ _ => False) hr hA e0 bt rv ⟨F, as, P, _, a1, a2, a3, fun _ _ _ z _ _ => z⟩) fun r s' h => ?_
  match r, h with
  | .error e, h =>
    obtain ⟨_, _, _, _, _, _, _, _, _, _, _, _, z⟩ := h
    exact z.elim
  | .ok (.ret u), h => exact h
  | .ok .next, h => exact h
  | .ok .brk, h => exact h
  | .ok .cont, h => exact h
theorem DnX.imp {P : Program} {w : World} {K : PySem.W.Frag} {mg : Str → Option Value} {base : Heap} {x : Str} {k : Nat} {ps : List Str} {S S' : DSpX} (D : DnX P w K mg base x k ps S) (h : ∀ as Q E, S' as Q E → S as Q E) : DnX P w K mg base x k ps S' := by
  obtain ⟨⟨fd, G, hb⟩, h1, h2⟩ := D
  exact ⟨⟨fd, ⟨fun as Q E q => G.len as Q E (h _ _ _ q), fun as Q E q => G.nc as Q E (h _ _ _ q), fun A outer s H args us vs Q E hr hA e0 bt rv ⟨F, as, P, Ec, a1, a2, a3⟩ => G.go A outer s H args us vs Q E hr hA e0 bt rv ⟨F, as, P, Ec, a1, h _ _ _ a2, a3⟩⟩, hb⟩, h1, h2⟩
/-! ### isinstance(e, ..), e a caught refusal -/
def isxQ (d : PyData) (ds : List Str) (K : Bool → Prop) : Prop := match d with
  | .dict [(.none, .str c)] => K (ds.any (exSub c))
  | _ => False
theorem q_isx {c : Str} {ds : List Str} {K : Bool → Prop} : isxQ (exD c) ds K = K (ds.any (exSub c)) := rfl
def dIsx (ds : List Str) (wa : DE) (env : List SD) (P : PyData → List SD → Prop) : Prop := wa env fun d env' => isxQ d ds fun b => P (.bool b) env'
def isvQ (d : PyData) (K : Bool → Prop) : Prop := match d with
  | .dict [(.none, .str _)] => K true
  | _ => False
theorem q_isv {c : Str} {K : Bool → Prop} : isvQ (exD c) K = K true := rfl
def dIsv (wa : DE) (env : List SD) (P : PyData → List SD → Prop) : Prop := wa env fun d env' => isvQ d fun b => P (.bool b) env'
section
variable {X : Cx} {a : Expr} {wa : DE} {p q2 pos : Pos} {es : List Expr} {ds : List Str}
theorem exc_inv {K : PySem.W.Frag} {F : Hp} {v : V} {c : Str} (r : DR K F v (exD c)) : ∃ b, v = .ref b ∧ F b = some (.ext (ExcAt (He.ga K c) b)) ∧ XcF K c := by
  cases r with
  | exc h x => exact ⟨_, rfl, h, x⟩
theorem disx {x : Str} (hm : X.mg "isinstance" = none) (hx : X.mg x = some (.ref (He.ga X.K x))) (hd : exNames.contains x = true) (ha : PE X a (liftE X.K Z wa)) (hg : Gl X "isinstance" := by rfl) (hgx : Gl X x := by rfl) (hdx : (x == ("__debug__" : Str)) = false := by decide)
    (hs1 : starEach [a, .Name x q2] X.env = (false, eval a X.env) :: starEach [.Name x q2] X.env := by rfl) (hs2 : starEach [.Name x q2] X.env = (false, eval (.Name x q2) X.env) :: starEach [] X.env := by rfl)
    (hpl : (backTo pos (starEach [Expr.Name x q2] X.env)).any (·.1) = false := by rfl) : PE X (.Call (.Name "isinstance" p) [a, .Name x q2] [] pos) (liftE X.K Z (dIsx [x] wa)) :=
  PE.of (pe_callB call_isE1 hg hm (by decide +kernel) (pa_cons ha (pa_cons (pe_glob (v := .ref (He.ga X.K x)) hgx hx rfl hdx) pa_nil hs2) hs1) (by decide) (by decide) hs1 hpl) fun σ H Q ⟨g, F, env, P, k, w, q⟩ => by
    refine ⟨g, F, env, _, k, w, fun d env1 v F1 H1 p e1 k1 r1 => ?_⟩
    unfold isxQ at p
    split at p
    · rename_i c
      obtain ⟨b, rfl, hF, xc⟩ := exc_inv r1
      have hd' : x ∈ exNames := by simpa using hd
      exact ⟨b, _, _, _, _, rfl, .own _, k1.fh _ _ hF, xc.cls, xc.own x hd', by simpa using q _ env1 _ F1 H1 p e1 k1 (.bl _)⟩
    · exact p.elim
theorem disv (hm : X.mg "isinstance" = none) (hmv : X.mg "ValueError" = none) (ha : PE X a (liftE X.K Z wa)) (hg : Gl X "isinstance" := by rfl) (hgx : Gl X "ValueError" := by rfl)
    (hs1 : starEach [a, .Name "ValueError" q2] X.env = (false, eval a X.env) :: starEach [.Name "ValueError" q2] X.env := by rfl) (hs2 : starEach [.Name "ValueError" q2] X.env = (false, eval (.Name "ValueError" q2) X.env) :: starEach [] X.env := by rfl)
    (hpl : (backTo pos (starEach [Expr.Name "ValueError" q2] X.env)).any (·.1) = false := by rfl) : PE X (.Call (.Name "isinstance" p) [a, .Name "ValueError" q2] [] pos) (liftE X.K Z (dIsv wa)) :=
  PE.of (pe_callB call_isE1 hg hm (by decide +kernel) (pa_cons ha (pa_cons (pe_bltn (v := .ty "ValueError") hgx hmv (by decide +kernel) rfl (by decide) (by decide)) pa_nil hs2) hs1) (by decide) (by decide) hs1 hpl) fun σ H Q ⟨g, F, env, P, k, w, q⟩ => by
    refine ⟨g, F, env, _, k, w, fun d env1 v F1 H1 p e1 k1 r1 => ?_⟩
    unfold isvQ at p
    split at p
    · rename_i c
      obtain ⟨b, rfl, hF, xc⟩ := exc_inv r1
      exact ⟨b, _, _, _, _, rfl, .ty _, k1.fh _ _ hF, xc.cls, xc.ve, q _ env1 _ F1 H1 p e1 k1 (.bl _)⟩
    · exact p.elim
/-- names of classes, one behind the other -/
def tVs (vs : List V) : TA := fun _ H Q => Q vs H
theorem pcl_nil : PA X [] (tVs []) := PA.of pa_nil fun _ _ _ h => h
theorem pcl_cons {x : Str} (hx : X.mg x = some (.ref (He.ga X.K x))) (hr : PA X es (tVs (ds.map fun d => V.ref (He.ga X.K d)))) (hg : Gl X x := by rfl) (hd : (x == ("__debug__" : Str)) = false := by decide)
    (hs : starEach (.Name x q2 :: es) X.env = (false, eval (.Name x q2) X.env) :: starEach es X.env := by rfl) : PA X (.Name x q2 :: es) (tVs ((x :: ds).map fun d => V.ref (He.ga X.K d))) :=
  PA.of (pa_cons (pe_glob (v := .ref (He.ga X.K x)) hg hx rfl hd) hr hs) fun _ _ _ h => h
def rIsET (K : PySem.W.Frag) : List V → Hp → VK → Prop := fun xs H Q => ∃ (a C tp : Addr) (cs : List V) (us : List Value) (b : Bool), xs = [.ref a, .ref tp] ∧ H tp = some (.tup cs) ∧ Paired ClsV cs us ∧ H a = some (.ext (ExcAt C a)) ∧ ExcC K C ∧ PySem.W.kitAny K (.ref C) us = some b ∧ Q (.bl b) H
theorem call_isET : CallR X (.builtin "isinstance") (rIsET X.K) := by
  intro pins s σ H xs us Q I r h
  obtain ⟨a, C, tp, cs, ws, b, rfl, hT, k, hH, x, e, q⟩ := h
  obtain ⟨u1, u2, rfl, r1, r2⟩ := vals2 r
  cases (show u1 = Value.ref a from r1)
  cases (show u2 = Value.ref tp from r2)
  obtain ⟨oe, J⟩ := exc_inst I hH
  obtain ⟨_, its, rv, ⟨oc, od, dt, sl⟩, h1, h2, n, h3⟩ := (show ObjOk X.prog X.w H s.heap tp (.tup cs) from I.hok tp _ hT)
  have e3 := ClsV.all k rv
  dsimp only at h2 h3
  subst h2 h3 e3
  exact PySem.W.kia_tup (PySem.W.handS_kitx_exc x.hg x.hk x.hs x.hd x.ha x.hn x.ht x.hm) I.kIn J h1 e (fun z => nomatch z) fun tk => ⟨.bl b, H, I.tok tk, rfl, q⟩
theorem kitAny_ex {K : PySem.W.Frag} {c : Str} (xc : XcF K c) : ∀ ds : List Str, (∀ d ∈ ds, d ∈ exNames) → PySem.W.kitAny K (.ref (He.ga K c)) (ds.map fun d => Value.ref (He.ga K d)) = some (ds.any (exSub c))
  | [], _ => kitAny_nil
  | d :: ds, h => by
    refine kitAny_cons (xc.own d (h d List.mem_cons_self)) (fun z => ?_) fun z => ?_
    · rw [List.any_cons, z, Bool.false_or]
      exact kitAny_ex xc ds fun y hy => h y (List.mem_cons_of_mem _ hy)
    · rw [List.any_cons, z, Bool.true_or]
theorem paired_cls {K : PySem.W.Frag} : ∀ ds : List Str, Paired ClsV (ds.map fun d => V.ref (He.ga K d)) (ds.map fun d => Value.ref (He.ga K d))
  | [] => .nil
  | d :: ds => .cons (.own _) (paired_cls ds)
theorem disxT {kk : _} {tpos : Pos} (hm : X.mg "isinstance" = none) (hcl : PA X es (tVs (ds.map fun d => V.ref (He.ga X.K d)))) (hd : ds.all exNames.contains = true) (hl : ds.length ≤ 100) (ha : PE X a (liftE X.K Z wa)) (hg : Gl X "isinstance" := by rfl)
    (hs1 : starEach [a, .Tuple es kk tpos] X.env = (false, eval a X.env) :: starEach [.Tuple es kk tpos] X.env := by rfl) (hs2 : starEach [.Tuple es kk tpos] X.env = (false, eval (.Tuple es kk tpos) X.env) :: starEach [] X.env := by rfl)
    (hpl : (backTo pos (starEach [Expr.Tuple es kk tpos] X.env)).any (·.1) = false := by rfl) : PE X (.Call (.Name "isinstance" p) [a, .Tuple es kk tpos] [] pos) (liftE X.K Z (dIsx ds wa)) :=
  PE.of (pe_callB call_isET hg hm (by decide +kernel) (pa_cons ha (pa_cons (pe_tup hcl) pa_nil hs2) hs1) (by decide) (by decide) hs1 hpl) fun σ H Q ⟨g, F, env, P, k, w, q⟩ => by
    refine ⟨g, F, env, _, k, w, fun d env1 v F1 H1 p e1 k1 r1 => ?_⟩
    unfold isxQ at p
    split at p
    · rename_i c
      obtain ⟨b, rfl, hF, xc⟩ := exc_inv r1
      refine ⟨by rw [List.length_map]; exact Evl.sz_of (by omega), fun x hx => ?_⟩
      have ne : b ≠ x := ne_of_none (k1.fh _ _ hF) hx
      refine ⟨b, _, x, _, _, _, rfl, upd_same, paired_cls ds, by rw [upd_ne ne]; exact k1.fh _ _ hF, xc.cls, kitAny_ex xc ds fun d hd' => by simpa using List.all_eq_true.mp hd d hd', ?_⟩
      exact q _ env1 _ F1 _ p e1 (k1.extra hx) (.bl _)
    · exact p.elim
end
end DL

/-! The data layer, part 32: d = {a: True, b: True}; for x in ..: if t: d[k] = True; return sorted(d) -- a dict in the place of a set of whole numbers. -/
namespace DL
variable {Z : Zx}
open PySem PySem.Spec PyProof.Rows L2
open Evl (Ex)
section
variable {K : PySem.W.Frag} {g : Gx Z} {F : Hp} {env : List SD} {σ : L2.St} {H : Hp}
def Gx.hidO (g : Gx Z) (D : Addr) (o : HO) (h : g.Pr D = none) : Gx Z := ⟨upd g.Pr D o, fun a u e => by
  have q := g.px a u e
  have ne : a ≠ D := fun z => by rw [z, h] at q; cases q
  rw [upd_ne ne]
  exact q⟩
/-- no name's cell is at D -/
def NoNm (env : List SD) (σ : L2.St) (D : Addr) : Prop := ∀ (j : Nat) (p : Bool) (ys : List PyData), env[j]? = some (.cel p ys) → σ[j]? ≠ some (some (.ref D))
theorem Ok.hideO (k : Ok K g F env σ H) {D : Addr} {o : HO} (hF : F D = none) (hH : H D = some o) (nw : NoNm env σ D) (hp : g.Pr D = none) : Ok K (g.hidO D o hp) F env σ H :=
  ⟨k.len, k.fh, k.dat, k.cel, k.sep, k.pin, k.frame, k.newF, k.oldF, fun a u e => by
    have e' : upd g.Pr D o a = some u := e
    by_cases z : a = D
    · subst z
      rw [upd_same] at e'
      cases e'
      exact ⟨hH, hF, nw⟩
    · rw [upd_ne z] at e'
      exact k.prot a u e'⟩
theorem Ok.bareO {D : Addr} {o : HO} (hp : g.Pr D = none) (k : Ok K (g.hidO D o hp) F env σ H) : Ok K g F env σ H ∧ F D = none ∧ H D = some o ∧ NoNm env σ D := by
  obtain ⟨z1, z2, z3⟩ := k.prot D o (show upd g.Pr D o D = some o from upd_same)
  refine ⟨⟨k.len, k.fh, k.dat, k.cel, k.sep, k.pin, k.frame, k.newF, k.oldF, fun a u e => ?_⟩, z2, z1, z3⟩
  have ne : a ≠ D := fun z => by rw [z, hp] at e; cases e
  exact k.prot a u (show upd g.Pr D o a = some u by rw [upd_ne ne]; exact e)
/-- a new thing of no name -/
theorem Ok.newO (k : Ok K g F env σ H) {D : Addr} {o : HO} (h : H D = none) : Ok K g F env σ (upd H D o) ∧ F D = none ∧ g.Pr D = none ∧ g.H0 D = none ∧ NoNm env σ D := by
  refine ⟨k.extra h, fnone k.fh h, ?_, k.fresh0 h, fun j p ys e z => ?_⟩
  · cases e : g.Pr D with
    | none => rfl
    | some u =>
      have z := (k.prot D u e).1
      rw [h] at z
      cases z
  · obtain ⟨a, vs, z1, _, z3, _⟩ := k.cel j p ys e
    rw [z] at z1
    cases z1
    rw [h] at z3
    cases z3
end
/-! ### the keys -/
abbrev KB := List (Key × V)
def KeysAre (kvs : KB) (ks : List Int) : Prop := kvs.map (·.1) = ks.map Sum.inl ∧ ks.Nodup
theorem any_key {kvs : KB} {ks : List Int} (h : kvs.map (·.1) = ks.map Sum.inl) (n : Int) : (kvs.any fun kv => decide (kv.1 = Sum.inl n)) = decide (n ∈ ks) := by
  rw [Bool.eq_iff_iff, List.any_eq_true, decide_eq_true_eq]
  constructor
  · rintro ⟨kv, h1, h2⟩
    have h2 : kv.1 = Sum.inl n := of_decide_eq_true h2
    have : kv.1 ∈ kvs.map (·.1) := List.mem_map.mpr ⟨kv, h1, rfl⟩
    rw [h, h2] at this
    obtain ⟨m, m1, m2⟩ := List.mem_map.mp this
    cases m2
    exact m1
  · intro hn
    have : (Sum.inl n : Key) ∈ kvs.map (·.1) := by rw [h]; exact List.mem_map.mpr ⟨n, hn, rfl⟩
    obtain ⟨kv, m1, m2⟩ := List.mem_map.mp this
    exact ⟨kv, m1, decide_eq_true m2⟩
theorem keys_put {kvs : KB} {ks : List Int} (h : KeysAre kvs ks) (n : Int) (v : V) : ∃ ks', KeysAre (putK kvs (Sum.inl n) v) ks' ∧ (∀ m, m ∈ ks' ↔ m ∈ ks ∨ m = n) ∧ ks'.length ≤ ks.length + 1 := by
  unfold putK
  rw [any_key h.1 n]
  by_cases hn : n ∈ ks
  · rw [if_pos (decide_eq_true hn)]
    refine ⟨ks, ⟨?_, h.2⟩, fun m => ⟨.inl, fun z => z.elim id fun e => e ▸ hn⟩, by omega⟩
    rw [List.map_map, ← h.1]
    refine List.map_congr_left fun kv _ => ?_
    show (if kv.1 = Sum.inl n then (kv.1, v) else kv).1 = kv.1
    split <;> rfl
  · rw [if_neg (by simpa using hn)]
    refine ⟨ks ++ [n], ⟨by rw [List.map_append, h.1, List.map_append]; rfl, ?_⟩, fun m => by simp, by simp⟩
    rw [List.nodup_append]
    refine ⟨h.2, by simp, fun a ha b hb => ?_⟩
    rw [List.mem_singleton.mp hb]
    exact fun e => hn (e ▸ ha)
theorem keys_merge : ∀ {more : List Int} {kvs : KB} {ks : List Int}, KeysAre kvs ks → ∃ ks', KeysAre (mergeK kvs (more.map fun n => (Sum.inl n, V.bl true))) ks' ∧ (∀ m, m ∈ ks' ↔ m ∈ ks ∨ m ∈ more) ∧ ks'.length ≤ ks.length + more.length
  | [], kvs, ks, h => ⟨ks, h, fun m => by simp, by simp⟩
  | n :: r, kvs, ks, h => by
    obtain ⟨k1, h1, m1, l1⟩ := keys_put h n (V.bl true)
    obtain ⟨k2, h2, m2, l2⟩ := keys_merge (more := r) h1
    refine ⟨k2, h2, fun m => ?_, by simp; omega⟩
    rw [m2, m1, List.mem_cons, or_assoc]
/-! ### the walk -/
def intQ (d : PyData) (P : Prop) : Prop := match d with
  | .int _ => P
  | _ => False
theorem q_intQ {i : Int} {P : Prop} : intQ (.int i) P = P := rfl
theorem intQ_inv {d : PyData} {P : Prop} (h : intQ d P) : ∃ i, d = .int i ∧ P := by
  cases d <;> first | exact ⟨_, rfl, h⟩ | exact h.elim
def dsetN {I : Type} (f : I → PyData → (I → PyData → Prop) → (I → Prop) → Prop) (i : I) : List PyData → List PyData → (List PyData → Prop) → Prop
  | [], acc, K => sortSetQ (.list acc) K
  | d :: r, acc, K => f i d (fun i' k => i' = i ∧ intQ k (acc.length ≤ 1000 ∧ dsetN f i r (acc ++ [k]) K)) fun i' => i' = i ∧ dsetN f i r acc K
/-- sealed: the items aren't walked by the kernel -/
inductive dsetQ {I : Type} (f : I → PyData → (I → PyData → Prop) → (I → Prop) → Prop) (i : I) (items acc : List PyData) (K : List PyData → Prop) : Prop
  | mk : dsetN f i items acc K → dsetQ f i items acc K
theorem dsetQ.out {I : Type} {f : I → PyData → (I → PyData → Prop) → (I → Prop) → Prop} {i : I} {items acc : List PyData} {K : List PyData → Prop} (h : dsetQ f i items acc K) : dsetN f i items acc K := by
  cases h with
  | mk h => exact h
def decP1 {I : Type} (is : List Nat) (dec : List SD → Option I) (N : I → Prop) (env : List SD) : Prop := match dec (unS is env) with
  | some i => N i
  | none => False
theorem decP1_inv {I : Type} {is : List Nat} {dec : List SD → Option I} {N : I → Prop} {env : List SD} (h : decP1 is dec N env) : ∃ i, dec (unS is env) = some i ∧ N i := by
  unfold decP1 at h
  split at h
  · exact ⟨_, ‹_›, h⟩
  · exact h.elim
def dDset {I : Type} (iD j : Nat) (is : List Nat) (dec : List SD → Option I) (f : I → PyData → (I → PyData → Prop) → (I → Prop) → Prop) (wa wb : DE) (wi : DI) (E : DEnds) (env : List SD) : Prop :=
  wa env fun x env1 => wb env1 fun y env2 => intQ x (intQ y (bIf (noPar env2 iD && Nat.blt iD env2.length) (wi (env2.set iD .un) fun items env3 => decP1 is dec (fun i => dsetQ f i items [x, y] fun ys => E.rt (.dat (.list ys)) []) env3) False))
section
variable {X : Cx} {tg iter test key a b : Expr} {wa wb wk : DE} {wi : DI} {wt : DT} {D r : Str}
theorem acc_ints : ∀ {acc : List PyData} {ns : List Int}, intsD acc = some ns → acc = List.map PyData.int ns
  | [], _, h => by cases h; rfl
  | .int i :: u, ns, h => by
    cases q : intsD u with
    | none => simp [intsD, q] at h
    | some ms =>
      simp only [intsD, q, Option.map_some, Option.some.injEq] at h
      subst h
      rw [acc_ints q]
      rfl
  | .none :: _, _, h => by simp [intsD] at h
  | .bool _ :: _, _, h => by simp [intsD] at h
  | .str _ :: _, _, h => by simp [intsD] at h
  | .list _ :: _, _, h => by simp [intsD] at h
  | .tuple _ :: _, _, h => by simp [intsD] at h
  | .dict _ :: _, _, h => by simp [intsD] at h
/-- what stands of the dict in the course of the walk -/
structure Dst (K : PySem.W.Frag) (g : Gx Z) (F : Hp) (env : List SD) (σ : L2.St) (H : Hp) (iD : Nat) (A : Addr) (acc : List PyData) (kvs : KB) : Prop where
  ok : Ok K g F env σ H
  slot : σ[iD]? = some (some (.ref A))
  hF : F A = none
  hH : H A = some (.dK kvs)
  keys : ∃ (ks ns : List Int), KeysAre kvs ks ∧ acc = ns.map PyData.int ∧ (∀ m, m ∈ ks ↔ m ∈ ns) ∧ ks.length ≤ ns.length
  nw : NoNm env σ A
theorem nn_set {env : List SD} {σ : L2.St} {A : Addr} {i : Nat} {d : SD} {v : Option V} (h : NoNm env σ A) (hd : ∀ p xs, d ≠ .cel p xs) : NoNm (env.set i d) (σ.set i v) A := fun j p ys e => by
  rcases get_set e with ⟨_, z⟩ | ⟨n, z⟩
  · exact absurd z.symm (hd p ys)
  · rw [set_ne n]
    exact h j p ys z
theorem sdset {I : Type} (iD j : Nat) (is : List Nat) (dec : List SD → Option I) (emb : I → List SD) (f : I → PyData → (I → PyData → Prop) → (I → Prop) → Prop) (hde : ∀ env i, dec env = some i → env = emb i) {pos1 pos2 pos3 pos4 pos5 pos6 pos7 pd pd2 pd3 pr ps ps2 kpos spos rp : Pos} {jt jt2 jt3 : Nat}
    (hp : PassesOwn (model X.prog X.w) X.A X.env X.xe) (hc : X.calm = true) (hu : X.A.units + 64 < cLine) (hms : X.mg "sorted" = none) (hN : X.N.Nodup) (hne : iD ≠ j)
    (ha : PE X a (liftE X.K Z wa)) (hb : PE X b (liftE X.K Z wb)) (hi : PI X (.Name r pr) iter (liftI X.K Z wi)) (ht : PT X test (liftT X.K Z wt)) (hk : PE X key (liftE X.K Z wk))
    (hq : ∀ (i : I) (d : PyData) (add : I → PyData → Prop) (skip : I → Prop), f i d add skip → bIf (noPar (emb i) j) (wt ((emb i).set j (.dat d)) fun c env1 => bIf c (wk env1 fun k env2 => decP1 is dec (fun i' => add i' k) env2) (decP1 is dec skip env1)) False)
    (hiD : X.N[iD]? = some D := by rfl) (hij : X.N[j]? = some r := by rfl) (hlD : X.env.scope.names.lookup D = some .local := by rfl) (hlr : X.env.scope.names.lookup r = some .local := by rfl) (hdD : (D == ("__debug__" : Str)) = false := by decide) (hcD : (D == ("__classdict__" : Str)) = false := by decide)
    (hfD : X.fn D = true := by rfl) (hfr : X.fn r = true := by rfl) (hgs : Gl X "sorted" := by rfl)
    (hs1 : swapsWith (.Dict [some a, some b] [.Constant (.bool true) jt pd, .Constant (.bool true) jt2 pd2] kpos) (some (.Name D pos5)) pos1.line X.env = pure false := by rfl)
    (hs2 : swapsWith (.Constant (.bool true) jt3 pd3) (some (.Subscript (.Name D ps) key spos)) pos4.line X.env = pure false := by rfl)
    (hs3 : starEach [.Name D ps2] X.env = (false, eval (.Name D ps2) X.env) :: starEach [] X.env := by rfl) (hs4 : (backTo rp (starEach [] X.env)).any (·.1) = false := by rfl) (hs5 : ∀ x, foldedSetIterable iter X.env x = pure x := by intro _; rfl) :
    PSs X [.Assign [.Name D pos5] (.Dict [some a, some b] [.Constant (.bool true) jt pd, .Constant (.bool true) jt2 pd2] kpos) pos1,
      .For (.Name r pr) iter [.If test [.Assign [.Subscript (.Name D ps) key spos] (.Constant (.bool true) jt3 pd3) pos4] [] pos6] [] pos2,
      .Return (some (.Call (.Name "sorted" pos7) [.Name D ps2] [] rp)) pos3] (liftS X.K Z 0 (dDset iD j is dec f wa wb wi)) := by
  have vD : ∀ {p : Pos}, PE X (.Name D p) _ := fun {p} => pe_var (X := X) (i := iD) (pos := p) hiD (.inl hlD) hdD hcD
  refine PSs.of (pss_cons (ps_set hN hiD (.inl hlD) (pe_disp (pps_cons ha pe_bl (pps_cons hb pe_bl pps_nil)) rfl rfl (by simp) (by simp)) hs1 (.inl hfD))
    (pss_cons (ps_for hp hc hi (pg_name hN hij (.inl hlr) (.inl hfr)) (pss_one (ps_if ht (pss_one (ps_dput (by omega) vD hk pe_bl hs2)) pss_nil)) hs5)
      (pss_one (ps_ret (pe_callB (call_sortedDI hc) hgs hms (by decide +kernel) (pa_cons vD pa_nil hs3) (by decide) (by decide) hs3 hs4))))) fun E σ H ⟨g, F, env, P, k, w, q⟩ => ?_
  intro A hA
  obtain ⟨k1, f1, p1, h1, n1⟩ := k.newO (o := .dK []) hA
  refine ⟨g.hidO A (.dK []) p1, F, env, _, k1.hideO f1 upd_same n1 p1, w, fun xd env1 v1 F1 H1 w1 e1 k2 r1 => ?_⟩
  refine ⟨g.hidO A (.dK []) p1, F1, env1, _, k2, w1, fun yd env2 v2 F2 H2 w2 e2 k3 r2 => ?_⟩
  obtain ⟨x0, rfl, w2⟩ := intQ_inv w2
  obtain ⟨y0, rfl, w2⟩ := intQ_inv w2
  cases (r1.mono e2).inv_int
  cases r2.inv_int
  obtain ⟨k4, f4, h4, n4⟩ := Ok.bareO p1 k3
  obtain ⟨w3, w2⟩ := bIf_and w2
  obtain ⟨np, ln⟩ := Bool.and_eq_true_iff.mp w3
  have ln : iD < env2.length := by simpa [Nat.blt_eq] using ln
  refine ⟨h4, [(Sum.inl x0, V.bl true), (Sum.inl y0, V.bl true)], rfl, by simp, ?_⟩
  obtain ⟨ks, hks, mks, lks⟩ := keys_merge (more := [x0, y0]) (kvs := []) (ks := []) ⟨rfl, List.nodup_nil⟩
  have e12 := e1.trans e2
  have k5 := (k4.writeP (o := .dK (mergeK [] [(Sum.inl x0, V.bl true), (Sum.inl y0, V.bl true)])) f4 h1 p1 n4).setU (o := some (.ref A)) (noPar_of np)
  have sl : (σ.set iD (some (V.ref A)))[iD]? = some (some (.ref A)) := List.getElem?_set_self (by rw [← k4.len]; exact ln)
  have n5 := nn_set (i := iD) (d := .un) (v := some (.ref A)) n4 fun _ _ z => by cases z
  refine ⟨g.hidO A _ p1, F2, _, _, k5.hideO f4 upd_same n5 p1, w2, fun items env3 J F3 H3 w3 e3 k6 ⟨G, Y, wk', hG, hY⟩ => ?_⟩
  obtain ⟨i0, d0, w4⟩ := decP1_inv w3
  have w4 := w4.out
  obtain ⟨k7, f7, h7, n7⟩ := Ok.bareO p1 k6
  have e13 := e12.trans e3
  refine for_it wk' (fun jj σ' H' => ∃ env' F' acc kvs, Ex F3 F' ∧ Dst X.K g F' env' σ' H' iD A acc kvs ∧ dec (unS is env') = some i0 ∧ dsetN f i0 (items.drop jj) acc fun ys => P.rt (.dat (.list ys)) [])
    ⟨env3, F3, _, _, Ex.refl F3, ⟨k7, sl, f7, h7, ⟨ks, [x0, y0], hks, rfl, fun m => by rw [mks]; simp, by simpa using lks⟩, n7⟩, d0, w4⟩ (fun i σ' H' _ ⟨env', F', _, _, e, d, _⟩ => hG H' (e.trans d.ok.fh)) (fun jj x σ' H' H4 hj ⟨env', F', acc, kvs, e4, d, d1, w5⟩ y => ?_) fun σ' H' ⟨env', F', acc, kvs, e4, d, d1, w5⟩ => ?_
  · have kU := (d.ok.hideO d.hF d.hH d.nw p1).unS (is := is)
    rw [hde _ _ d1] at kU
    have hdr : items.drop jj = items[jj] :: items.drop (jj + 1) := List.drop_eq_getElem_cons hj
    rw [hdr] at w5
    obtain ⟨F5, e5, k8, r8⟩ := kU.yld e4 (hY jj H' x H4 items[jj] (e4.trans d.ok.fh) (by simp [hj]) y)
    obtain ⟨npj, w6⟩ := bIf_and (hq i0 _ _ _ w5)
    have k9 := k8.setD (noPar_of npj) r8
    have sl' : (σ'.set j (some x))[iD]? = some (some (.ref A)) := by rw [set_ne (Ne.symm hne)]; exact d.slot
    have e45 := e4.trans e5
    refine ⟨g.hidO A _ p1, F5, _, _, k9, w6, fun c env5 F6 H6 w7 e6 k10 => ?_⟩
    cases c with
    | false =>
      obtain ⟨i', d', ei, w8⟩ := decP1_inv w7
      rw [ei] at d'
      obtain ⟨k12, f12, h12, n12⟩ := Ok.bareO p1 k10
      exact iteF ⟨env5, F6, acc, kvs, e45.trans e6, ⟨k12, sl', f12, h12, d.keys, n12⟩, d', w8⟩
    | true =>
      refine iteT ⟨_, sl', g.hidO A _ p1, F6, env5, _, k10, w7, fun kd env6 vk F7 H7 w8 e7 k11 r11 => ?_⟩
      obtain ⟨i', d', ei, z⟩ := decP1_inv w8
      rw [ei] at d'
      obtain ⟨n, rfl, hl, w9⟩ := intQ_inv z
      cases r11.inv_int
      obtain ⟨k12, f12, h12, n12⟩ := Ok.bareO p1 k11
      obtain ⟨ks', ns, c1, c2, c3, c4⟩ := d.keys
      have lk : kvs.length = ks'.length := by simpa using congrArg List.length c1.1
      have ln : acc.length = ns.length := by rw [c2]; simp
      obtain ⟨ks2, b1, b2, b3⟩ := keys_put c1 n (V.bl true)
      refine ⟨A, _, rfl, DPut.k (k := Sum.inl n) h12 (by rw [sizeLine_eq]; omega), ?_⟩
      exact ⟨env6, F7, _, _, (e45.trans e6).trans e7, ⟨k12.writeP f12 h1 p1 n12, sl', f12, upd_same, ⟨ks2, ns ++ [n], b1, by simp [c2], fun m => by rw [b2, c3]; simp, by simp; omega⟩, n12⟩, d', w9⟩
  · rw [List.drop_length] at w5
    obtain ⟨ks', ns, c1, c2, c3, c4⟩ := d.keys
    subst c2
    have w5 : sortSetQ (.list (ns.map .int)) _ := w5
    rw [q_sortSet] at w5
    refine ⟨_, d.slot, A, kvs, ks', rfl, .inl d.hH, c1.1, by omega, fun ys p pm so hp' => ?_⟩
    have nd : ys.Nodup := pm.nodup_iff.mpr c1.2
    have st : ys.Pairwise (· < ·) := (so.and nd).imp fun z => by omega
    obtain ⟨ex, k13, r13⟩ := d.ok.newLst hp' (drs_ints ys)
    exact q.rt (.dat (.list (ys.map .int))) env' _ σ' _ _ (w5.2 ys st fun m => by rw [pm.mem_iff, c3]) ((e13.trans e4).trans ex) k13 r13
end
end DL

/-! The data layer, part 33: l.count(x), l.index(x) of lists of data. -/
namespace DL
variable {Z : Zx}
open PySem PySem.Spec PyProof.Rows L2
open Evl (Ex)
section
variable {X : Cx}
/-- l.count(x): how many are equal -/
def rCountD (K : PySem.W.Frag) : V → List V → Hp → VK → Prop := fun x xs H Q => ∃ (a : Addr) (y : V) (d : PyData) (ds : List PyData), x = V.ref a ∧ xs = [y] ∧ Dp K H (V.ref a) (.list ds) ∧ Dp K H y d ∧
  SeqAt.shaped (.list ds) = true ∧ SeqAt.shaped d = true ∧ Q (.int (ds.countP (fun z => PyData.eqv z d) : Nat)) H
theorem mt_countD (hu : X.A.units + 65 < cLine) : MtR X "list.count" (rCountD X.K) := by
  intro pins s σ H x xs v us Q I rx rxs h
  obtain ⟨a, y, d, ds, rfl, rfl, hl, hy, sl, sd, q⟩ := h
  cases rx
  cases rxs with
  | cons ry rt =>
    rename_i uy ut
    cases rt
    obtain ⟨bs, r1⟩ := Dp.reads I d y uy hy ry
    have hxs : PyData.canLayAll0 ds = true := SeqAt.canLay_of_shaped sl
    have hroom : X.A.units + 1 + min (PyData.depthAll ds) d.depth < cLine := room_in_shaped sd hu
    cases hl with
    | lst hs ha =>
      obtain ⟨its, rv, ⟨⟨cls, dd, data, sls⟩, n, ho, hc, hdn, hdt⟩, hlen⟩ := I.list hs
      simp only at hc hdt
      subst hc hdt
      obtain ⟨as, h4⟩ := Dp.readsAll I ds _ its ha rv
      have hmap : its.map (SeqAt.readOf s.heap) = ds := SeqAt.readsAll_map ds its as hxs h4
      refine call_meets PySem.F.slot_list_count ⟨_, ho, rfl⟩ PySem.F.entry_list_count (PySem.F.args_list_count_2 _ _)
        (SeqAt.list_countAt a its.toArray n dd sls uy (fun u => PyData.eqv (SeqAt.readOf s.heap u) d)) ⟨ho, SeqAt.items_eqAt (vs := its.toArray) (show ReadsAll s.heap its.toArray.toList ds as from h4) r1 hxs (SeqAt.canLay_of_shaped sd) hroom, ?_⟩
      have ec : its.toArray.toList.countP (fun u => PyData.eqv (SeqAt.readOf s.heap u) d) = ds.countP fun z => PyData.eqv z d := by
        rw [← hmap, List.countP_map]
        rfl
      refine ⟨.int (ds.countP (fun z => PyData.eqv z d) : Nat), H, I.tok _, ⟨s.toks, ?_⟩, q⟩
      rw [← ec]
end
/-! ### l.count(x), l.index(x) -/
def cntN (ds : List PyData) (y : PyData) : Nat := ds.countP fun z => eqD z y
def cntQ (ds : List PyData) (y : PyData) (P : PyData → Prop) : Prop := (SeqAt.shaped (.list ds) = true ∧ SeqAt.shaped y = true) ∧ P (.int (cntN ds y : Nat))
def idxQ (ds : List PyData) (y : PyData) (P : PyData → Prop) : Prop := (SeqAt.shaped (.list ds) = true ∧ SeqAt.shaped y = true) ∧ match ds.findIdx? fun z => eqD z y with
  | some j => P (.int (j : Nat))
  | none => False
def dMl (f : List PyData → PyData → (PyData → Prop) → Prop) (wa wb : DE) (env : List SD) (P : PyData → List SD → Prop) : Prop := wa env fun x env1 => lstQ x fun ds => wb env1 fun y env2 => f ds y fun z => P z env2
theorem cntN_eqv {ds : List PyData} {y : PyData} : (ds.countP fun z => PyData.eqv z y) = cntN ds y := by
  unfold cntN
  congr 1
  funext z
  rw [eqD_eq]
theorem lstQ_inv {x : PyData} {K : List PyData → Prop} (h : lstQ x K) : ∃ ds, x = .list ds ∧ K ds := by
  unfold lstQ at h
  split at h
  · exact ⟨_, rfl, h⟩
  · exact h.elim
section
variable {X : Cx} {a e : Expr} {wa we : DE} {apos cpos : Pos}
/-- a list's value is a list object -/
theorem isLst {K : PySem.W.Frag} {F H : Hp} {v : V} {ds : List PyData} (fh : Ex F H) (h : DR K F v (.list ds)) : tyV K "list" v H := by
  obtain ⟨a, xs, rfl, h1, _⟩ := h.inv_lst
  exact .inl ⟨rfl, xs, (h1.mono fh).sq⟩
theorem lift_ml {K : PySem.W.Frag} {r : V → List V → Hp → VK → Prop} {f : List PyData → PyData → (PyData → Prop) → Prop}
    (hf : ∀ (g : Gx Z) (F : Hp) (env : List SD) (σ : L2.St) (H : Hp) (ds : List PyData) (y : PyData) (vx vy : V) (P : PyData → Prop) (Q : VK), Ok K g F env σ H → DR K F vx (.list ds) → DR K F vy y → f ds y P → (∀ (z : PyData) (v : V), P z → DR K F v z → Q v H) → r vx [vy] H Q)
    {σ : L2.St} {H : Hp} {Q : VK} (h : liftE K Z (dMl f wa we) σ H Q) : tBM K "list" r (liftE K Z wa) (tCons (liftE K Z we) tNil) σ H Q := by
  obtain ⟨g, F, env, P, k, w, q⟩ := h
  refine ⟨g, F, env, _, k, w, fun x env1 v F1 H1 p e1 k1 r1 => ?_⟩
  obtain ⟨ds, rfl, p⟩ := lstQ_inv p
  refine ⟨isLst k1.fh r1, g, F1, env1, _, k1, p, fun y env2 v2 F2 H2 p2 e2 k2 r2 => ?_⟩
  exact hf g F2 env2 σ H2 ds y v v2 _ _ k2 (r1.mono e2) r2 p2 fun z u p3 r3 => q z env2 u F2 H2 p3 (e1.trans e2) k2 r3
theorem dcnt (hu : X.A.units + 65 < cLine) (ha : PE X a (liftE X.K Z wa)) (he : PE X e (liftE X.K Z we))
    (h1 : attributeBase a "count" X.env (eval a X.env) = eval a X.env := by rfl)
    (h2 : ((backTo cpos (starEach [e] X.env)).all (!·.1) && (backToKw cpos (keywordEach [] X.env)).all (·.1.isSome) && decide ([e].length + ([] : List Keyword).length + (if ([] : List Keyword).isEmpty then 0 else 1) < 30)) = true := by rfl)
    (h3 : (apos.endLine == cpos.line) = true := by rfl)
    (h4 : starEach [e] X.env = (false, eval e X.env) :: starEach [] X.env := by rfl) (h5 : (backTo cpos (starEach [] X.env)).any (·.1) = false := by rfl) :
    PE X (.Call (.Attribute a "count" apos) [e] [] cpos) (liftE X.K Z (dMl cntQ wa we)) :=
  PE.of (pe_bm PySem.F.plainAttrs_list PySem.F.slot_list_count PySem.F.type_list_count (mt_countD hu) ha (pa_cons he pa_nil h4) h1 h2 h3 h4 h5) fun σ H Q h => lift_ml (fun g F env σ H ds y vx vy P Q k rx ry f q => by
    obtain ⟨⟨s1, s2⟩, f⟩ := f
    obtain ⟨b, xs, rfl, _, _⟩ := rx.inv_lst
    exact ⟨b, vy, y, ds, rfl, rfl, DR.dp (drH k rx) (dict_of_shaped s1), DR.dp (drH k ry) (dict_of_shaped s2), s1, s2, by rw [cntN_eqv]; exact q _ _ f (.int _)⟩) h
theorem dlix (hu : X.A.units + 65 < cLine) (ha : PE X a (liftE X.K Z wa)) (he : PE X e (liftE X.K Z we))
    (h1 : attributeBase a "index" X.env (eval a X.env) = eval a X.env := by rfl)
    (h2 : ((backTo cpos (starEach [e] X.env)).all (!·.1) && (backToKw cpos (keywordEach [] X.env)).all (·.1.isSome) && decide ([e].length + ([] : List Keyword).length + (if ([] : List Keyword).isEmpty then 0 else 1) < 30)) = true := by rfl)
    (h3 : (apos.endLine == cpos.line) = true := by rfl)
    (h4 : starEach [e] X.env = (false, eval e X.env) :: starEach [] X.env := by rfl) (h5 : (backTo cpos (starEach [] X.env)).any (·.1) = false := by rfl) :
    PE X (.Call (.Attribute a "index" apos) [e] [] cpos) (liftE X.K Z (dMl idxQ wa we)) :=
  PE.of (pe_bm PySem.F.plainAttrs_list PySem.F.slot_list_index PySem.F.type_list_index (mt_indexD hu) ha (pa_cons he pa_nil h4) h1 h2 h3 h4 h5) fun σ H Q h => lift_ml (fun g F env σ H ds y vx vy P Q k rx ry f q => by
    obtain ⟨⟨s1, s2⟩, f⟩ := f
    obtain ⟨b, xs, rfl, _, _⟩ := rx.inv_lst
    split at f
    · rename_i j ej
      obtain ⟨hj, h2, h3⟩ := List.findIdx?_eq_some_iff_getElem.mp ej
      refine ⟨b, vy, y, ds, j, ds[j], rfl, rfl, DR.dp (drH k rx) (dict_of_shaped s1), DR.dp (drH k ry) (dict_of_shaped s2), s1, s2, List.getElem?_eq_getElem hj, by rw [← eqD_eq]; exact h2, fun m z' hm hz => ?_, q _ _ f (.int _)⟩
      obtain ⟨hm2, rfl⟩ := List.getElem?_eq_some_iff.mp hz
      rw [← eqD_eq]
      simpa using h3 m hm
    · exact f.elim) h
end
/-! ### sep.join(texts) -/
def strsD : List PyData → Option (List Str)
  | [] => some []
  | .str i :: r => (strsD r).map (i :: ·)
  | _ :: _ => none
theorem strs_rel {K : PySem.W.Frag} {F : Hp} : ∀ {ds : List PyData} {vs : List V} {ns : List Str}, DRs K F vs ds → strsD ds = some ns → vs = ns.map V.str
  | [], _, _, h, e => by cases h; cases e; rfl
  | .str i :: r, _, ns, h, e => by
    cases h with
    | cons a b =>
      cases q : strsD r with
      | none => simp [strsD, q] at e
      | some ms =>
        simp only [strsD, q, Option.map_some, Option.some.injEq] at e
        subst e
        cases a.inv_str
        rw [strs_rel b q]
        rfl
  | .none :: _, _, _, _, e => by simp [strsD] at e
  | .bool _ :: _, _, _, _, e => by simp [strsD] at e
  | .int _ :: _, _, _, _, e => by simp [strsD] at e
  | .list _ :: _, _, _, _, e => by simp [strsD] at e
  | .tuple _ :: _, _, _, _, e => by simp [strsD] at e
  | .dict _ :: _, _, _, _, e => by simp [strsD] at e
def joinOk (a : Str) (ys : List Str) : Prop := (ys.map (·.length)).sum + ys.length * a.length ≤ 16777216
def joinQ (a : Str) (ys : Option (List Str)) (P : PyData → Prop) : Prop := match ys with
  | some ys => joinOk a ys ∧ P (.str (Txt.join a ys))
  | none => False
def nJoin (a : Str) (y : PyData) (P : PyData → Prop) : Prop := match y with
  | .list ds => joinQ a (strsD ds) P
  | .tuple ds => joinQ a (strsD ds) P
  | _ => False
def dJoin (a : Str) (we : DE) (env : List SD) (P : PyData → List SD → Prop) : Prop := we env fun y env1 => nJoin a y fun z => P z env1
section
variable {X : Cx} {e : Expr} {we : DE} {apos pos p0 : Pos} {j0 : Nat}
theorem djoin {a : Str} (he : PE X e (liftE X.K Z we)) (hs : starEach [e] X.env = [(false, eval e X.env)] := by rfl)
    (hbase : attributeBase (.Constant (.str a) j0 p0) "join" X.env (eval (.Constant (.str a) j0 p0) X.env) = eval (.Constant (.str a) j0 p0) X.env := by rfl) (hline : (apos.endLine == pos.line) = true := by rfl) :
    PE X (.Call (.Attribute (.Constant (.str a) j0 p0) "join" apos) [e] [] pos) (liftE X.K Z (dJoin a we)) :=
  PE.of (pe_join (ds (Z := Z)) he hs hbase hline) fun σ H Q ⟨g, F, env, P, k, w, q⟩ => by
    refine ⟨g, F, env, fun d env' => d = .str a ∧ dJoin a we env' P, k, ⟨rfl, w⟩, fun d env1 v F1 H1 ⟨ed, w⟩ e1 k1 r1 => ?_⟩
    subst ed
    cases r1.inv_str
    refine ⟨⟨a, rfl⟩, g, F1, env1, _, k1, w, fun y env2 v2 F2 H2 p2 e2 k2 r2 => ?_⟩
    unfold nJoin at p2
    split at p2
    · obtain ⟨b, xs, rfl, h1, h2⟩ := r2.inv_lst
      unfold joinQ at p2
      split at p2
      · rename_i ys ey
        cases strs_rel h2 ey
        exact ⟨a, b, ys, rfl, rfl, .inl (h1.mono k2.fh).sq, p2.1, q _ env2 _ F2 H2 p2.2 (e1.trans e2) k2 (.str _)⟩
      · exact p2.elim
    · obtain ⟨b, xs, rfl, h1, h2⟩ := r2.inv_tup
      unfold joinQ at p2
      split at p2
      · rename_i ys ey
        cases strs_rel h2 ey
        exact ⟨a, b, ys, rfl, rfl, .inr (Evl.ex_t k2.fh h1), p2.1, q _ env2 _ F2 H2 p2.2 (e1.trans e2) k2 (.str _)⟩
      · exact p2.elim
    · exact p2.elim
end
end DL

/-! The data layer, part 34: defs that are called within an except suite. -/
namespace DL
variable {Z : Zx}
open PySem PySem.Spec PyProof.Rows L2
open Evl (Ex)
theorem _root_.L2H.RoomH.units {k : Nat} {A : Around} (r : L2H.RoomH k A) : A.units + 64 < cLine := by have := r.un; omega
theorem _root_.L2H.RoomH.u65 {k : Nat} {A : Around} (r : L2H.RoomH k A) : A.units + 65 < cLine := by have := r.un; omega
theorem _root_.L2.Room.mark {k : Nat} {A : Around} {v : Option Value} (r : Room k A) : L2H.RoomH k (A.mark v) := ⟨r.dp, r.un⟩
/-- as FnG, whatever is handled -/
structure FnB (P : Program) (w : World) (K : PySem.W.Frag) (mg : Str → Option Value) (base : Heap) (k : Nat) (f : Addr) (fd : FuncData) (ps : List Str) (S : DSp) : Prop where
  len : ∀ as Q, S as Q → as.length = ps.length
  go : ∀ (A : Around) (outer : List Env) (s : Shared) (H : Hp) (args : Args) (us : List Value) (vs : List V) (Q : VK), L2H.RoomH k A → A.guards = some [] → Env0 P w K mg base A outer s H →
    BindsTo s fd args (ps.zip us) → Vals vs us → spD K S vs H Q → codeAny (model P w) A (.call (.ref f) args) (CR CX0 outer P w H s Q E0) s
structure DnB (P : Program) (w : World) (K : PySem.W.Frag) (mg : Str → Option Value) (base : Heap) (x : Str) (k : Nat) (ps : List Str) (S : DSp) : Prop where
  ex : ∃ fd, FnB P w K mg base k (He.ga K x) fd ps S ∧ Binds K fd ps []
  glo : mg x = some (.ref (He.ga K x))
  kp : PySem.W.keepIn K (.ref (He.ga K x)) = true
theorem FnB.cool {P : Program} {w : World} {K : PySem.W.Frag} {mg : Str → Option Value} {base : Heap} {k : Nat} {f : Addr} {fd : FuncData} {ps : List Str} {S : DSp} (G : FnB P w K mg base k f fd ps S) : FnG P w K mg base k f fd ps S :=
  ⟨G.len, fun A outer s H args us vs Q hr => G.go A outer s H args us vs Q (L2H.roomH_of hr)⟩
theorem DnB.cool {P : Program} {w : World} {K : PySem.W.Frag} {mg : Str → Option Value} {base : Heap} {x : Str} {k : Nat} {ps : List Str} {S : DSp} (D : DnB P w K mg base x k ps S) : Dn P w K mg base x k ps S :=
  ⟨let ⟨fd, G, b⟩ := D.ex; ⟨fd, G.cool, b⟩, D.glo, D.kp⟩
section
variable {P : Program} {w : World} {K : PySem.W.Frag} {mg : Str → Option Value} {base : Heap}
/-- a def of the text, by its body read as data, whatever is handled -/
theorem dfnB (m : Nat) {x qual : Str} {st : Stmt} {f : Addr} {fd : FuncData} {N ps : List Str} {k : Nat} {S : DSp} (Fn : Fun K x qual st f fd) (sc : FnScope N ps (defScope st)) (len : ∀ as Q, S as Q → as.length = ps.length) (cels : CelsIn m S)
    (hbody : ∀ {Z : Zx} (cdv : Value) (A : Around) (outer : List Env) (s : Shared) (H : Hp) (p : Addr × Obj), L2H.RoomH k (A.deeper (envOfC qual (defScope st) s.heap.objs.size f cdv)) → (A.deeper (envOfC qual (defScope st) s.heap.objs.size f cdv)).guards = some [] →
      ∃ t : DS, PSs (L2H.cxH CX0 P w K mg base N qual (defScope st) f cdv A outer s H E0 p).nox (defBody st) (liftS K Z m t) ∧
        ∀ as Q, S as Q → t (defEnds m Q) (as ++ List.replicate (N.length - ps.length) .un)) : FnB P w K mg base (k + 1) f fd ps S := by
  obtain ⟨oc, od, kV, doc, pm, an, cdv, ct, osl, rfl, lk, hcd⟩ := Fn.ex
  refine ⟨len, fun A outer s H args us vs Q hr hg e0 hb rv ⟨F0, as, PP, ha, hS, hQ⟩ => ?_⟩
  have hl : vs.length = ps.length := ha.len.symm.trans (len as PP hS)
  have hpl : ps.length ≤ N.length := by
    have := congrArg List.length sc.pre
    rw [List.length_take] at this
    omega
  have KX : K.In s.heap := e0.mod.kin.keeps fun b o e => (e0.bs b o e).1
  -- the def's own object is known and out of the way
  have inB := e0.mod.kin _ _ lk
  have pin : L2H.PinOk outer H s (f, _) := ⟨(e0.bs f _ inB).1, (e0.bs f _ inB).2, fun hm => (by
    have z := (e0.funs.mem hm).1
    rw [inB] at z
    cases z), fun v z => by cases z⟩
  refine codeAny_call_function hr.depth (KX _ _ lk) rfl sc.co sc.gen rfl (PySem.W.codeRec_of KX hcd) (hb _ _ _ _ (wpAny_newFunctionEnv_cells sc.kind (fun ⟨n, v⟩ hy => ?_) fun env he s1 x => ?_))
  · rcases sc.par n (List.of_mem_zip hy).1 with q | q
    · exact .inl q
    · exact .inr ⟨q, PySem.W.cellsFrom_some _ _ _ (.inl q)⟩
  · subst he
    obtain ⟨t, ht, hq⟩ := hbody (Z := entryZ F0 H vs as) cdv A outer s H (f, _) (hr.deeper _) hg
    have I := L2H.inv_startH (E := E0) (CX := CX0) (mg := mg) (base := base) sc pin e0 hl rv x
    refine ⟨(e0.mod.nolimit.keeps fun b o e => (e0.bs b o e).1).keeps x.toInCall.keep, codeAny_func (wpAny_mono (ht.nox.run [] s1 (start N vs) H { nx := fun _ H' => Q .non H', rt := Q } I ?_) (fun fl s' hs => ?_) fun e s' hs => hs)⟩
    · have al : as.length = ps.length := len as PP hS
      refine ⟨entryG F0 H vs as, F0, _, _, entry_ok ha al hpl, hq as PP hS, ?_⟩
      exact .mk4 (.mk (fun env' σ' F' H' p _ k' => hQ _ _ _ _ _ p (post_of k' (cels _ _ hS) .non)) (fun _ _ _ _ p => p.elim) (fun _ _ _ _ p => p.elim) (fun r env' v σ' F' H' p _ k' r' => hQ _ _ _ _ _ p (post_of k' (cels _ _ hS) r'))) rfl
    · match fl, hs with
      | .ret u, ⟨v, σ', H', J, r, q⟩ => exact ⟨v, H', J.os, J.bare, J.base, J.hok, r, q⟩
      | .next, ⟨σ', H', J, q⟩ => exact ⟨V.non, H', J.os, J.bare, J.base, J.hok, rfl, q⟩
      | .brk, ⟨_, _, _, q⟩ => exact q.elim
      | .cont, ⟨_, _, _, q⟩ => exact q.elim
end
section
variable {X : Cx} {k : Nat} {f : Addr} {fd : FuncData} {ps : List Str} {S : DSp} {x : Str} {p pos : Pos} {e : Expr} {es : List Expr} {was : DA}
/-- f(..) within a suite -/
theorem dcnB (D : DnB X.prog X.w X.K X.mg X.base x k ps S) (hr : L2H.RoomH k X.A) (hA : X.A.guards = some [])
    (ha : PA X (e :: es) (liftA X.K Z was)) (hg : Gl X x := by rfl) (hdb : (x == ("__debug__" : Str)) = false := by decide)
    (he : starEach (e :: es) X.env = (false, eval e X.env) :: starEach es X.env := by rfl) (hpl : (backTo pos (starEach es X.env)).any (·.1) = false := by rfl) : PE X (.Call (.Name x p) (e :: es) [] pos) (liftX X.K Z (dCall S was)) := by
  obtain ⟨fd, G, hb⟩ := D.ex
  have go : ∀ {pins : List (Addr × Obj)} {σ : L2.St} {H : Hp} {s : Shared} {Q : VK} {us : List Value} {vs : List V}, Inv X pins σ H s → Vals vs us → spD X.K S vs H Q → wpAny (model X.prog X.w) X.A (call (.ref (He.ga X.K x)) us) (EP X pins σ Q) X.xe s := fun {pins σ H s Q us vs} I r h => by
    obtain ⟨F0, as, P, a1, a2, a3⟩ := id h
    have hl : (us ++ ([] : List Value)).length = ps.length := by rw [List.append_nil, ← r.length, ← a1.len]; exact G.len _ _ a2
    have hbb := hb s us I.kIn hl
    rw [List.append_nil] at hbb
    refine wpAny_call (codeAny_mono (G.go X.A X.stack s H ⟨us, []⟩ us vs Q hr hA I.env0 hbb r h) fun res s' hq => ?_)
    match res, hq with
    | .error e, hq => exact hq.elim
    | .ok (.ret u), hq => exact I.after hq
    | .ok .next, hq => exact hq.elim
    | .ok .brk, hq => exact hq.elim
    | .ok .cont, hq => exact hq.elim
  refine ⟨fun pins s σ H Q I ⟨g, F, env, P, k0, w, q⟩ => wpAny_Call_Name_kw (ld_glob I hg D.glo (PySem.W.callWith_K (h₀ := X.base) I.ok.mod.kin D.kp (thn (ha.run pos pins s σ H (spD X.K S · · Q) I ?_) fun us s1 ⟨vs, H1, I1, r, q1⟩ => ⟨I1.kIn, go I1 r q1⟩) he hpl) hdb)⟩
  refine ⟨g, F, env, _, k0, w, fun ds env1 vs F1 H1 p1 e1 k1 r1 => ⟨F1, ds.map .dat, _, args_dat k1.fh r1, p1, fun r as' v F2 H2 p2 po => ?_⟩⟩
  obtain ⟨k2, r2⟩ := k1.after no_cel po
  exact q r env1 v F2 H2 p2 (e1.trans po.ex) k2 r2
end
end DL

namespace K17
open PySem PySem.Spec PyProof.Rows L2 DL
def q_is_whole (thing : PyData) (K : PyData → Prop) : Prop :=
  vAnd (isiB thing "int") (fun k1 => k1 (.bool (!(isiB thing "bool")))) fun t2 =>
  K t2
def qb_divisor_of_1 (K : PyData → Prop) (i : Unit) (s : PyData × PyData) (nx bk : Unit → (PyData × PyData) → Prop) : Prop :=
  oGt s.2 (.int 0) fun t3 =>
  bT t3 fun b4 =>
  bIf b4
  (oMod s.1 s.2 fun t5 =>
  nx () (s.2, t5))
  (bk () (s.1, s.2))
def q_divisor_of (one : PyData) (other : PyData) (K : PyData → Prop) : Prop :=
  nAbs [one] fun t1 =>
  nAbs [other] fun t2 =>
  qWhile (qb_divisor_of_1 K) () (t1, t2) fun s7 =>
  K s7.1
def q_lowest (p : PyData) (q : PyData) (K : PyData → Prop) : Prop :=
  q_divisor_of p q fun by_1 =>
  oLt q (.int 0) fun t2 =>
  bT t2 fun b3 =>
  jn (fun J6 => bIf b3
  (oSub (.int 0) by_1 fun by_4 =>
  J6 by_4)
  (J6 by_1)) fun by_5 =>
  oFd p by_5 fun t7 =>
  oFd q by_5 fun t8 =>
  K (.tuple [t7, t8])
def q_is_hour (thing : PyData) (K : PyData → Prop) : Prop :=
  q_is_whole thing fun i1 =>
  bT i1 fun b2 =>
  vAnd b2 (fun k8 => oLe (.int 0) thing fun t3 =>
  bT t3 fun b4 =>
  vAnd b4 (fun k6 => oLe thing (.int (100000)) fun t5 =>
  k6 t5) fun t7 =>
  k8 t7) fun t9 =>
  K t9
def qb_is_log_row_1 (d : PyData) (i : PyData) (s : Unit) (sk : PyData → Unit → Prop) (yd : PyData → PyData → Unit → Prop) : Prop :=
  q_is_whole d fun i13 =>
  bT i13 fun b14 =>
  vAnd b14 (fun k17 => nAbs [d] fun t15 =>
  oLe t15 (.int (10000)) fun t16 =>
  k17 t16) fun t18 =>
  yd t18 i ()
def q_is_log_row (thing : PyData) (K : PyData → Prop) : Prop :=
  tOr (!(isiB thing "tuple")) (fun k9 => nLen [thing] fun t1 =>
  oNe t1 (.int 3) fun t2 =>
  bT t2 fun b3 =>
  tOr b3 (fun k7 => oIx thing (.int 0) fun t4 =>
  q_is_hour t4 fun i5 =>
  bT i5 fun b6 =>
  k7 (!b6)) fun b8 =>
  k9 b8) fun b10 =>
  bIf b10
  (K (.bool false))
  (oSl thing (some 1) none fun l11 =>
  itemsQ l11 fun l12 =>
  qLc qb_is_log_row_1 thing l12 [] () fun l19 s21 =>
  nAll [(.list l19)] fun t22 =>
  K t22)
def qb_is_log_1 (d : PyData) (i : PyData) (s : Unit) (sk : PyData → Unit → Prop) (yd : PyData → PyData → Unit → Prop) : Prop :=
  q_is_log_row d fun i9 =>
  yd i9 i ()
def qb_is_log_2 (d : PyData) (i : PyData) (s : Unit) (sk : PyData → Unit → Prop) (yd : PyData → PyData → Unit → Prop) : Prop :=
  tupQ d fun r =>
  consQ r fun one' r1 =>
  consQ r1 fun other' r2 =>
  nilQ r2 (oIx one' (.int 0) fun t21 =>
  oIx other' (.int 0) fun t22 =>
  oLt t21 t22 fun t23 =>
  yd t23 i ())
def q_is_log (thing : PyData) (K : PyData → Prop) : Prop :=
  tOr (!(isiB thing "tuple")) (fun k17 => nLen [thing] fun t1 =>
  oLe (.int 1) t1 fun t2 =>
  bT t2 fun b3 =>
  vAnd b3 (fun k5 => oLe t1 (.int (20)) fun t4 =>
  k5 t4) fun t6 =>
  bT t6 fun b7 =>
  tOr (!b7) (fun k15 => itemsQ thing fun l8 =>
  qLc qb_is_log_1 thing l8 [] () fun l10 s12 =>
  nAll [(.list l10)] fun t13 =>
  bT t13 fun b14 =>
  k15 (!b14)) fun b16 =>
  k17 b16) fun b18 =>
  bIf b18
  (K (.bool false))
  (oSl thing (some 1) none fun l19 =>
  zipQ [thing, l19] fun l20 =>
  qLc qb_is_log_2 thing l20 [] () fun l24 s26 =>
  nAll [(.list l24)] fun t27 =>
  K t27)
def q_need_log (thing : PyData) (K : PyData → Prop) : Prop :=
  q_is_log thing fun i1 =>
  bT i1 fun b2 =>
  bIf (!b2)
  (False)
  (K .none)
def q_need_chase (low : PyData) (high : PyData) (K : PyData → Prop) : Prop :=
  q_is_hour low fun i1 =>
  bT i1 fun b2 =>
  tOr (!b2) (fun k9 => q_is_hour high fun i3 =>
  bT i3 fun b4 =>
  tOr (!b4) (fun k7 => oGt low high fun t5 =>
  bT t5 fun b6 =>
  k7 b6) fun b8 =>
  k9 b8) fun b10 =>
  bIf b10
  (False)
  (K .none)
def qb_place_between_1 (d : PyData) (i : PyData × PyData × PyData × PyData) (s : Unit) (sk : (PyData × PyData × PyData × PyData) → Unit → Prop) (yd : PyData → (PyData × PyData × PyData × PyData) → Unit → Prop) : Prop :=
  tupQ d fun r =>
  consQ r fun here' r1 =>
  consQ r1 fun there' r2 =>
  nilQ r2 (oMul here' i.2.2.1 fun t11 =>
  oSub there' here' fun t12 =>
  oMul t12 i.2.2.2 fun t13 =>
  oAdd t11 t13 fun t14 =>
  q_lowest t14 i.2.2.1 fun l15 =>
  yd l15 (i.1, i.2.1, i.2.2.1, i.2.2.2) ())
def q_place_between (one : PyData) (other : PyData) (p : PyData) (q : PyData) (K : PyData → Prop) : Prop :=
  oIx other (.int 0) fun t1 =>
  oIx one (.int 0) fun t2 =>
  oSub t1 t2 fun t3 =>
  oMul t3 q fun gap4 =>
  oIx one (.int 0) fun t5 =>
  oMul t5 q fun t6 =>
  oSub p t6 fun gone7 =>
  oSl one (some 1) none fun l8 =>
  oSl other (some 1) none fun l9 =>
  zipQ [l8, l9] fun l10 =>
  qLc qb_place_between_1 (one, other, gap4, gone7) l10 [] () fun l16 s18 =>
  nTuple [(.list l16)] fun t19 =>
  K t19
def qb_place_of_1 (K : PyData → Prop) (d : PyData) (i : PyData × PyData × PyData) (s : Unit) (nx bk : (PyData × PyData × PyData) → Unit → Prop) : Prop :=
  tupQ d fun r20 =>
  consQ r20 fun one21 r22 =>
  consQ r22 fun other23 r24 =>
  nilQ r24 (oIx other23 (.int 0) fun t25 =>
  oMul t25 i.2.2 fun t26 =>
  oLe i.2.1 t26 fun t27 =>
  bT t27 fun b28 =>
  bIf b28
  (q_place_between one21 other23 i.2.1 i.2.2 fun p29 =>
  K p29)
  (nx (i.1, i.2.1, i.2.2) ()))
def qb_place_of_2 (d : PyData) (i : PyData) (s : Unit) (sk : PyData → Unit → Prop) (yd : PyData → PyData → Unit → Prop) : Prop :=
  yd (.tuple [d, (.int 1)]) i ()
def q_place_of (log : PyData) (moment : PyData) (K : PyData → Prop) : Prop :=
  tupQ moment fun r1 =>
  consQ r1 fun p2 r3 =>
  consQ r3 fun q4 r5 =>
  nilQ r5 (oIx log (.int 0) fun t6 =>
  oIx t6 (.int 0) fun t7 =>
  oMul t7 q4 fun t8 =>
  oLt p2 t8 fun t9 =>
  bT t9 fun b10 =>
  tOr b10 (fun k16 => oIx log (.int (-1)) fun t11 =>
  oIx t11 (.int 0) fun t12 =>
  oMul t12 q4 fun t13 =>
  oGt p2 t13 fun t14 =>
  bT t14 fun b15 =>
  k16 b15) fun b17 =>
  bIf b17
  (K .none)
  (oSl log (some 1) none fun l18 =>
  zipQ [log, l18] fun l19 =>
  qFor (qb_place_of_1 K) (log, p2, q4) l19 () fun s31 =>
  oIx log (.int 0) fun t32 =>
  oSl t32 (some 1) none fun l33 =>
  itemsQ l33 fun l34 =>
  qLc qb_place_of_2 log l34 [] () fun l35 s37 =>
  nTuple [(.list l35)] fun t38 =>
  K t38))
def q_place_at (log : PyData) (moment : PyData) (K : PyData → Prop) : Prop :=
  q_need_log log fun n1 =>
  q_place_of log moment fun p2 =>
  K p2
def q_hours_of_both (one : PyData) (other : PyData) (low : PyData) (high : PyData) (K : PyData → Prop) : Prop :=
  oIx one (.int 0) fun t1 =>
  oIx t1 (.int 0) fun t2 =>
  oIx other (.int 0) fun t3 =>
  oIx t3 (.int 0) fun t4 =>
  nMax3 [t2, t4, low] fun begin5 =>
  oIx one (.int (-1)) fun t6 =>
  oIx t6 (.int 0) fun t7 =>
  oIx other (.int (-1)) fun t8 =>
  oIx t8 (.int 0) fun t9 =>
  nMin3 [t7, t9, high] fun end_10 =>
  oGt begin5 end_10 fun t11 =>
  bT t11 fun b12 =>
  bIf b12
  (K .none)
  (K (.tuple [begin5, end_10]))
def q_both_tell (one : PyData) (other : PyData) (low : PyData) (high : PyData) (K : PyData → Prop) : Prop :=
  q_need_log one fun n1 =>
  q_need_log other fun n2 =>
  q_need_chase low high fun n3 =>
  q_hours_of_both one other low high fun h4 =>
  K h4
def qb_marks_between_1 (d : PyData) (i : PyData × PyData × PyData × PyData) (s : Unit) (sk : (PyData × PyData × PyData × PyData) → Unit → Prop) (yd : PyData → (PyData × PyData × PyData × PyData) → Unit → Prop) : Prop :=
  oIx d (.int 0) fun t3 =>
  oLt i.2.2.1 t3 fun t4 =>
  bT t4 fun b5 =>
  vAnd b5 (fun k7 => oLt t3 i.2.2.2 fun t6 =>
  k7 t6) fun t8 =>
  bT t8 fun b9 =>
  bIf b9
  (oIx d (.int 0) fun t10 =>
  yd t10 (i.1, i.2.1, i.2.2.1, i.2.2.2) ())
  (sk (i.1, i.2.1, i.2.2.1, i.2.2.2) ())
def q_marks_between (one : PyData) (other : PyData) (begin : PyData) (end_ : PyData) (K : PyData → Prop) : Prop :=
  oAdd one other fun t1 =>
  itemsQ t1 fun l2 =>
  qLc qb_marks_between_1 (one, other, begin, end_) l2 [] () fun l11 s13 =>
  oAdd (.list [begin, end_]) (.list l11) fun t14 =>
  sortSetQ t14 fun l15 =>
  K (.list l15)
def q_alike_at (one : PyData) (other : PyData) (hour : PyData) (K : PyData → Prop) : Prop :=
  q_place_of one (.tuple [hour, (.int 1)]) fun p1 =>
  q_place_of other (.tuple [hour, (.int 1)]) fun p2 =>
  oEq p1 p2 fun t3 =>
  K t3
def qb_part_at_1 (K : PyData → Prop) (d : PyData) (i : PyData × PyData) (s : PyData) (nx bk : (PyData × PyData) → PyData → Prop) : Prop :=
  q_alike_at i.1 i.2 d fun a11 =>
  bT a11 fun b12 =>
  bIf (!b12)
  (K s)
  (nx (i.1, i.2) d)
def q_part_at (one : PyData) (other : PyData) (K : PyData → Prop) : Prop :=
  q_need_log one fun n1 =>
  q_need_log other fun n2 =>
  q_hours_of_both one other (.int 0) (.int (100000)) fun hours3 =>
  oIsN hours3 fun t4 =>
  bT t4 fun b5 =>
  bIf b5
  (K .none)
  (oIx hours3 (.int 0) fun ahead6 =>
  oIx hours3 (.int 0) fun t7 =>
  oIx hours3 (.int 1) fun t8 =>
  q_marks_between one other t7 t8 fun m9 =>
  itemsQ m9 fun l10 =>
  qFor (qb_part_at_1 K) (one, other) l10 ahead6 fun s14 =>
  K .none)
def qb_whole_place_1 (K : PyData → Prop) (d : PyData) (i : PyData × PyData) (s : Unit) (nx bk : (PyData × PyData) → Unit → Prop) : Prop :=
  tupQ d fun r3 =>
  consQ r3 fun one4 r5 =>
  consQ r5 fun other6 r7 =>
  nilQ r7 (oIx other6 (.int 0) fun t8 =>
  oLe i.2 t8 fun t9 =>
  bT t9 fun b10 =>
  bIf b10
  (oIx other6 (.int 0) fun t11 =>
  oIx one4 (.int 0) fun t12 =>
  oSub t11 t12 fun gap13 =>
  oIx one4 (.int 0) fun t14 =>
  oSub i.2 t14 fun gone15 =>
  oIx one4 (.int 1) fun t16 =>
  oMul t16 gap13 fun t17 =>
  oIx other6 (.int 1) fun t18 =>
  oIx one4 (.int 1) fun t19 =>
  oSub t18 t19 fun t20 =>
  oMul t20 gone15 fun t21 =>
  oAdd t17 t21 fun t22 =>
  oIx one4 (.int 2) fun t23 =>
  oMul t23 gap13 fun t24 =>
  oIx other6 (.int 2) fun t25 =>
  oIx one4 (.int 2) fun t26 =>
  oSub t25 t26 fun t27 =>
  oMul t27 gone15 fun t28 =>
  oAdd t24 t28 fun t29 =>
  K (.tuple [t22, t29, gap13]))
  (nx (i.1, i.2) ()))
def q_whole_place (log : PyData) (hour : PyData) (K : PyData → Prop) : Prop :=
  oSl log (some 1) none fun l1 =>
  zipQ [log, l1] fun l2 =>
  qFor (qb_whole_place_1 K) (log, hour) l2 () fun s31 =>
  oIx log (.int 0) fun t32 =>
  oIx t32 (.int 1) fun t33 =>
  oIx log (.int 0) fun t34 =>
  oIx t34 (.int 2) fun t35 =>
  K (.tuple [t33, t35, (.int 1)])
def q_apart_at (one : PyData) (other : PyData) (hour : PyData) (K : PyData → Prop) : Prop :=
  q_whole_place one hour fun w1 =>
  tupQ w1 fun r2 =>
  consQ r2 fun x3 r4 =>
  consQ r4 fun y5 r6 =>
  consQ r6 fun by_7 r8 =>
  nilQ r8 (q_whole_place other hour fun w9 =>
  tupQ w9 fun r10 =>
  consQ r10 fun u11 r12 =>
  consQ r12 fun v13 r14 =>
  consQ r14 fun times15 r16 =>
  nilQ r16 (oMul x3 times15 fun t17 =>
  oMul u11 by_7 fun t18 =>
  oSub t17 t18 fun t19 =>
  oMul y5 times15 fun t20 =>
  oMul v13 by_7 fun t21 =>
  oSub t20 t21 fun t22 =>
  oMul by_7 times15 fun t23 =>
  K (.tuple [t19, t22, t23])))
def q_least_between (one : PyData) (other : PyData) (begin : PyData) (end_ : PyData) (K : PyData → Prop) : Prop :=
  q_apart_at one other begin fun a1 =>
  tupQ a1 fun r2 =>
  consQ r2 fun x3 r4 =>
  consQ r4 fun y5 r6 =>
  consQ r6 fun by_7 r8 =>
  nilQ r8 (q_apart_at one other end_ fun a9 =>
  tupQ a9 fun r10 =>
  consQ r10 fun u11 r12 =>
  consQ r12 fun v13 r14 =>
  consQ r14 fun times15 r16 =>
  nilQ r16 (oMul x3 times15 fun t17 =>
  oMul y5 times15 fun t18 =>
  oMul u11 by_7 fun t19 =>
  oMul x3 times15 fun t20 =>
  oSub t19 t20 fun t21 =>
  oMul v13 by_7 fun t22 =>
  oMul y5 times15 fun t23 =>
  oSub t22 t23 fun t24 =>
  tupQ (.tuple [t17, t18, t21, t24]) fun r25 =>
  consQ r25 fun x26 r27 =>
  consQ r27 fun y28 r29 =>
  consQ r29 fun u30 r31 =>
  consQ r31 fun v32 r33 =>
  nilQ r33 (oMul by_7 by_7 fun t34 =>
  oMul t34 times15 fun t35 =>
  oMul t35 times15 fun bottom36 =>
  oMul x26 u30 fun t37 =>
  oMul y28 v32 fun t38 =>
  oAdd t37 t38 fun along39 =>
  oMul u30 u30 fun t40 =>
  oMul v32 v32 fun t41 =>
  oAdd t40 t41 fun swift42 =>
  oGe along39 (.int 0) fun t43 =>
  bT t43 fun b44 =>
  bIf b44
  (oMul x26 x26 fun t45 =>
  oMul y28 y28 fun t46 =>
  oAdd t45 t46 fun t47 =>
  q_lowest t47 bottom36 fun l48 =>
  K (.tuple [l48, (.tuple [begin, (.int 1)])]))
  (oAdd along39 swift42 fun t49 =>
  oLe t49 (.int 0) fun t50 =>
  bT t50 fun b51 =>
  bIf b51
  (oAdd x26 u30 fun t52 =>
  oAdd x26 u30 fun t53 =>
  oMul t52 t53 fun t54 =>
  oAdd y28 v32 fun t55 =>
  oAdd y28 v32 fun t56 =>
  oMul t55 t56 fun t57 =>
  oAdd t54 t57 fun t58 =>
  q_lowest t58 bottom36 fun l59 =>
  K (.tuple [l59, (.tuple [end_, (.int 1)])]))
  (oMul x26 v32 fun t60 =>
  oMul y28 u30 fun t61 =>
  oSub t60 t61 fun across62 =>
  oMul across62 across62 fun t63 =>
  oMul swift42 bottom36 fun t64 =>
  q_lowest t63 t64 fun l65 =>
  oMul begin swift42 fun t66 =>
  oSub end_ begin fun t67 =>
  oMul along39 t67 fun t68 =>
  oSub t66 t68 fun t69 =>
  q_lowest t69 swift42 fun l70 =>
  K (.tuple [l65, l70]))))))
def qb_nearest_of_1 (K : PyData → Prop) (d : PyData) (i : PyData × PyData) (s : PyData) (nx bk : (PyData × PyData) → PyData → Prop) : Prop :=
  tupQ d fun r12 =>
  consQ r12 fun begin13 r14 =>
  consQ r14 fun end_15 r16 =>
  nilQ r16 (q_least_between i.1 i.2 begin13 end_15 fun here17 =>
  oIx here17 (.int 0) fun t18 =>
  oIx t18 (.int 0) fun t19 =>
  oIx s (.int 0) fun t20 =>
  oIx t20 (.int 1) fun t21 =>
  oMul t19 t21 fun t22 =>
  oIx s (.int 0) fun t23 =>
  oIx t23 (.int 0) fun t24 =>
  oIx here17 (.int 0) fun t25 =>
  oIx t25 (.int 1) fun t26 =>
  oMul t24 t26 fun t27 =>
  oLt t22 t27 fun t28 =>
  bT t28 fun b29 =>
  bIf b29
  (nx (i.1, i.2) here17)
  (nx (i.1, i.2) s))
def q_nearest_of (one : PyData) (other : PyData) (low : PyData) (high : PyData) (K : PyData → Prop) : Prop :=
  q_hours_of_both one other low high fun hours1 =>
  oIsN hours1 fun t2 =>
  bT t2 fun b3 =>
  bIf b3
  (K .none)
  (oIx hours1 (.int 0) fun t4 =>
  oIx hours1 (.int 1) fun t5 =>
  q_marks_between one other t4 t5 fun marks6 =>
  oIx marks6 (.int 0) fun t7 =>
  oIx marks6 (.int 0) fun t8 =>
  q_least_between one other t7 t8 fun found9 =>
  oSl marks6 (some 1) none fun l10 =>
  zipQ [marks6, l10] fun l11 =>
  qFor (qb_nearest_of_1 K) (one, other) l11 found9 fun s31 =>
  K s31)
def q_need_both (one : PyData) (other : PyData) (low : PyData) (high : PyData) (K : PyData → Prop) : Prop :=
  q_need_log one fun n1 =>
  q_need_log other fun n2 =>
  q_need_chase low high fun n3 =>
  K .none
def q_nearest (one : PyData) (other : PyData) (low : PyData) (high : PyData) (K : PyData → Prop) : Prop :=
  q_need_both one other low high fun n1 =>
  q_nearest_of one other low high fun n2 =>
  K n2
def q_are_near_by (one : PyData) (other : PyData) (low : PyData) (high : PyData) (miles : PyData) (K : PyData → Prop) : Prop :=
  q_nearest_of one other low high fun found1 =>
  oNotN found1 fun t2 =>
  bT t2 fun b3 =>
  vAnd b3 (fun k11 => oIx found1 (.int 0) fun t4 =>
  oIx t4 (.int 0) fun t5 =>
  oMul miles miles fun t6 =>
  oIx found1 (.int 0) fun t7 =>
  oIx t7 (.int 1) fun t8 =>
  oMul t6 t8 fun t9 =>
  oLe t5 t9 fun t10 =>
  k11 t10) fun t12 =>
  K t12
def q_are_near (one : PyData) (other : PyData) (low : PyData) (high : PyData) (miles : PyData) (K : PyData → Prop) : Prop :=
  q_need_both one other low high fun n1 =>
  q_is_whole miles fun i2 =>
  bT i2 fun b3 =>
  tOr (!b3) (fun k10 => oLe (.int 0) miles fun t4 =>
  bT t4 fun b5 =>
  vAnd b5 (fun k7 => oLe miles (.int (100000)) fun t6 =>
  k7 t6) fun t8 =>
  bT t8 fun b9 =>
  k10 (!b9)) fun b11 =>
  bIf b11
  (False)
  (q_are_near_by one other low high miles fun a12 =>
  K a12)
def q_law_pot_of (script : PyData) (K : List PyData → Prop) : Prop :=
  oSl script none (some 63) fun l1 =>
  nList [l1] fun l2 =>
  K [(.list l2), (.int 0), (.int 0), (.int 0), (.int 29)]
def q_law_mixed (seed : PyData) (turn : PyData) (K : PyData → Prop) : Prop :=
  oAdd (.list [(.int 2147483647), (.int 2147483629), (.int 2147483587), (.int 2147483579)]) (.list [(.int 2147483563), (.int 2147483549), (.int 2147483543)]) fun primes1 =>
  oMul (.int 130363) turn fun t2 =>
  oAdd seed t2 fun t3 =>
  oAdd t3 (.int 1) fun t4 =>
  oPow t4 (.int 3) fun t5 =>
  oMod turn (.int 7) fun t6 =>
  oIx primes1 t6 fun t7 =>
  oMod t5 t7 fun one8 =>
  oMul one8 (.int 69621) fun t9 =>
  oMul (.int 6301) turn fun t10 =>
  oMul t10 turn fun t11 =>
  oAdd t9 t11 fun t12 =>
  oMod seed (.int 65537) fun t13 =>
  oAdd t12 t13 fun t14 =>
  oAdd t14 (.int 11) fun two15 =>
  oPow two15 (.int 5) fun t16 =>
  oAdd turn (.int 3) fun t17 =>
  oMod t17 (.int 7) fun t18 =>
  oIx primes1 t18 fun t19 =>
  oMod t16 t19 fun two20 =>
  oMul two20 two20 fun t21 =>
  oAdd t21 one8 fun t22 =>
  oAdd turn (.int 5) fun t23 =>
  oMod t23 (.int 7) fun t24 =>
  oIx primes1 t24 fun t25 =>
  oMod t22 t25 fun t26 =>
  oDiv t26 (.int 32) fun t27 =>
  K t27
def q_law_draw (pot : List PyData) (many : PyData) (K : PyData → List PyData → Prop) : Prop :=
  ixQ pot (.int 2) fun t1 =>
  oEq t1 (.int 0) fun t2 =>
  bT t2 fun b3 =>
  tAnd b3 (fun k9 => ixQ pot (.int 1) fun t4 =>
  ixQ pot (.int 0) fun t5 =>
  nLen [t5] fun t6 =>
  oLt t4 t6 fun t7 =>
  bT t7 fun b8 =>
  k9 b8) fun b10 =>
  jn (fun J27 => bIf b10
  (ixQ pot (.int 0) fun t11 =>
  ixQ pot (.int 1) fun t12 =>
  oIx t11 t12 fun cell13 =>
  ixQ pot (.int 1) fun t14 =>
  oAdd t14 (.int 1) fun t15 =>
  stQ pot (.int 1) t15 fun pot16 =>
  ixQ pot16 (.int 4) fun t17 =>
  oMul t17 (.int 31) fun t18 =>
  oAdd t18 cell13 fun t19 =>
  oMod t19 (.int 1000000007) fun t20 =>
  stQ pot16 (.int 4) t20 fun pot21 =>
  oPow (.int 10) (.int 18) fun t22 =>
  oGe cell13 t22 fun t23 =>
  bT t23 fun b24 =>
  bIf b24
  (stQ pot21 (.int 2) cell13 fun pot25 =>
  J27 pot25)
  (J27 pot21))
  (J27 pot)) fun pot26 =>
  ixQ pot26 (.int 2) fun t28 =>
  oGt t28 (.int 0) fun t29 =>
  bT t29 fun b30 =>
  bIf b30
  (ixQ pot26 (.int 2) fun t31 =>
  oMod t31 many fun digit32 =>
  ixQ pot26 (.int 2) fun t33 =>
  oDiv t33 many fun t34 =>
  stQ pot26 (.int 2) t34 fun pot35 =>
  K digit32 pot35)
  (ixQ pot26 (.int 3) fun t36 =>
  oAdd t36 (.int 1) fun t37 =>
  stQ pot26 (.int 3) t37 fun pot38 =>
  ixQ pot38 (.int 4) fun t39 =>
  ixQ pot38 (.int 3) fun t40 =>
  q_law_mixed t39 t40 fun m41 =>
  oMod m41 many fun t42 =>
  K t42 pot38)
def qb_law_wide_1 (K : PyData → List PyData → Prop) (d : PyData) (i : PyData) (s : List PyData × PyData) (nx bk : PyData → (List PyData × PyData) → Prop) : Prop :=
  oPow (.int 10) (.int 6) fun t6 =>
  oMul s.2 t6 fun t7 =>
  oPow (.int 10) (.int 6) fun t8 =>
  q_law_draw s.1 t8 fun d9 pot10 =>
  oAdd t7 d9 fun number11 =>
  nx i (pot10, number11)
def q_law_wide (pot : List PyData) (many : PyData) (K : PyData → List PyData → Prop) : Prop :=
  nStr [many] fun t1 =>
  nLen [t1] fun t2 =>
  oDiv t2 (.int 6) fun t3 =>
  oAdd (.int 1) t3 fun t4 =>
  rng1 [t4] fun l5 =>
  qFor (qb_law_wide_1 K) many l5 (pot, (.int 0)) fun s13 =>
  oMod s13.2 many fun t14 =>
  K t14 s13.1
def qb_law_common_1 (K : PyData → Prop) (i : Unit) (s : PyData × PyData) (nx bk : Unit → (PyData × PyData) → Prop) : Prop :=
  oNe s.2 (.int 0) fun t1 =>
  bT t1 fun b2 =>
  bIf b2
  (oMod s.1 s.2 fun t3 =>
  nx () (s.2, t3))
  (bk () (s.1, s.2))
def q_law_common (one : PyData) (other : PyData) (K : PyData → Prop) : Prop :=
  qWhile (qb_law_common_1 K) () (one, other) fun s5 =>
  nAbs [s5.1] fun t6 =>
  K t6
def q_law_terms (top : PyData) (bottom : PyData) (K : PyData → Prop) : Prop :=
  q_law_common top bottom fun c1 =>
  oLt bottom (.int 0) fun t2 =>
  nInt [t2] fun t3 =>
  oIx (.list [(.int 1), (.int (-1))]) t3 fun t4 =>
  oMul c1 t4 fun by_5 =>
  oDiv top by_5 fun t6 =>
  oDiv bottom by_5 fun t7 =>
  K (.tuple [t6, t7])
def qb_law_log_1 (K : PyData → List PyData → Prop) (d : PyData) (i : PyData × PyData) (s : List PyData × PyData × List PyData) (nx bk : (PyData × PyData) → (List PyData × PyData × List PyData) → Prop) : Prop :=
  oMul (.int 2) i.2 fun t26 =>
  oAdd t26 (.int 1) fun t27 =>
  q_law_draw s.1 t27 fun d28 pot29 =>
  oSub d28 i.2 fun t30 =>
  oMul (.int 2) i.2 fun t31 =>
  oAdd t31 (.int 1) fun t32 =>
  q_law_draw pot29 t32 fun d33 pot34 =>
  oSub d33 i.2 fun t35 =>
  apQ s.2.2 (.tuple [s.2.1, t30, t35]) fun rows36 =>
  oAdd s.2.1 (.int 1) fun t37 =>
  q_law_draw pot34 i.1 fun d38 pot39 =>
  oAdd t37 d38 fun hour40 =>
  nx (i.1, i.2) (pot39, hour40, rows36)
def q_law_log (pot : List PyData) (most : PyData) (K : PyData → List PyData → Prop) : Prop :=
  q_law_draw pot most fun d1 pot2 =>
  oAdd (.int 1) d1 fun t3 =>
  q_law_draw pot2 (.int 4) fun d4 pot5 =>
  oIx (.list [(.int 1), (.int 2), t3, most]) d4 fun many6 =>
  q_law_draw pot5 (.int 4) fun d7 pot8 =>
  oIx (.list [(.int 1), (.int 3), (.int 50), (.int 5000)]) d7 fun gap_here9 =>
  oPow (.int 10) (.int 4) fun t10 =>
  q_law_draw pot8 (.int 3) fun d11 pot12 =>
  oIx (.list [(.int 2), (.int 40), t10]) d11 fun far13 =>
  q_law_draw pot12 (.int 30) fun d14 pot15 =>
  oPow (.int 10) (.int 5) fun t16 =>
  oMul many6 gap_here9 fun t17 =>
  oSub t16 t17 fun t18 =>
  oAdd t18 (.int 1) fun t19 =>
  q_law_draw pot15 t19 fun d20 pot21 =>
  q_law_draw pot21 (.int 3) fun d22 pot23 =>
  oIx (.list [(.int 0), d14, d20]) d22 fun hour24 =>
  rng1 [many6] fun l25 =>
  qFor (qb_law_log_1 K) (gap_here9, far13) l25 (pot23, hour24, []) fun s42 =>
  K (.tuple s42.2.2) s42.1
def q_law_plain (number : PyData) (K : PyData → Prop) : Prop :=
  vAnd (isiB number "int") (fun k1 => k1 (.bool (!(isiB number "bool")))) fun t2 =>
  K t2
def qb_law_is_log_2 (d : PyData) (i : PyData × PyData) (s : Unit) (sk : (PyData × PyData) → Unit → Prop) (yd : PyData → (PyData × PyData) → Unit → Prop) : Prop :=
  q_law_plain d fun p15 =>
  bT p15 fun b16 =>
  bIf (!b16)
  (yd d (i.1, i.2) ())
  (sk (i.1, i.2) ())
def qb_law_is_log_1 (K : PyData → Prop) (d : PyData) (i : Unit) (s : PyData) (nx bk : Unit → PyData → Prop) : Prop :=
  tOr (!(isiB d "tuple")) (fun k24 => nLen [d] fun t11 =>
  oNe t11 (.int 3) fun t12 =>
  bT t12 fun b13 =>
  tOr b13 (fun k22 => itemsQ d fun l14 =>
  qLc qb_law_is_log_2 (s, d) l14 [] () fun l17 s19 =>
  oEmp true (.list l17) (.list []) fun t20 =>
  bT t20 fun b21 =>
  k22 b21) fun b23 =>
  k24 b23) fun b25 =>
  bIf b25
  (K (.bool false))
  (oIx d (.int 0) fun t26 =>
  oLt s t26 fun t27 =>
  bT t27 fun b28 =>
  vAnd b28 (fun k31 => oPow (.int 10) (.int 5) fun t29 =>
  oLe t26 t29 fun t30 =>
  k31 t30) fun t32 =>
  bT t32 fun b33 =>
  tOr (!b33) (fun k46 => oIx d (.int 1) fun t34 =>
  nAbs [t34] fun t35 =>
  oPow (.int 10) (.int 4) fun t36 =>
  oGt t35 t36 fun t37 =>
  bT t37 fun b38 =>
  tOr b38 (fun k44 => oIx d (.int 2) fun t39 =>
  nAbs [t39] fun t40 =>
  oPow (.int 10) (.int 4) fun t41 =>
  oGt t40 t41 fun t42 =>
  bT t42 fun b43 =>
  k44 b43) fun b45 =>
  k46 b45) fun b47 =>
  bIf b47
  (K (.bool false))
  (oIx d (.int 0) fun last48 =>
  nx () last48))
def q_law_is_log (thing : PyData) (K : PyData → Prop) : Prop :=
  tOr (!(isiB thing "tuple")) (fun k8 => nLen [thing] fun t1 =>
  oLe (.int 1) t1 fun t2 =>
  bT t2 fun b3 =>
  vAnd b3 (fun k5 => oLe t1 (.int 20) fun t4 =>
  k5 t4) fun t6 =>
  bT t6 fun b7 =>
  k8 (!b7)) fun b9 =>
  bIf b9
  (K (.bool false))
  (itemsQ thing fun l10 =>
  qFor (qb_law_is_log_1 K) () l10 (.int (-1)) fun s50 =>
  K (.bool true))
def qb_law_spot_1 (K : PyData → Prop) (d : PyData) (i : PyData × PyData × PyData) (s : Unit) (nx bk : (PyData × PyData × PyData) → Unit → Prop) : Prop :=
  tupQ d fun r15 =>
  consQ r15 fun one16 r17 =>
  consQ r17 fun other18 r19 =>
  nilQ r19 (oIx one16 (.int 0) fun t20 =>
  oMul t20 i.2.2 fun t21 =>
  oLe t21 i.2.1 fun t22 =>
  bT t22 fun b23 =>
  vAnd b23 (fun k27 => oIx other18 (.int 0) fun t24 =>
  oMul t24 i.2.2 fun t25 =>
  oLe i.2.1 t25 fun t26 =>
  k27 t26) fun t28 =>
  bT t28 fun b29 =>
  bIf b29
  (oIx other18 (.int 0) fun t30 =>
  oIx one16 (.int 0) fun t31 =>
  oSub t30 t31 fun t32 =>
  oMul t32 i.2.2 fun t33 =>
  oIx one16 (.int 0) fun t34 =>
  oMul t34 i.2.2 fun t35 =>
  oSub i.2.1 t35 fun t36 =>
  oIx one16 (.int 1) fun t37 =>
  oMul t37 t33 fun t38 =>
  oIx other18 (.int 1) fun t39 =>
  oIx one16 (.int 1) fun t40 =>
  oSub t39 t40 fun t41 =>
  oMul t41 t36 fun t42 =>
  oAdd t38 t42 fun x43 =>
  oIx one16 (.int 2) fun t44 =>
  oMul t44 t33 fun t45 =>
  oIx other18 (.int 2) fun t46 =>
  oIx one16 (.int 2) fun t47 =>
  oSub t46 t47 fun t48 =>
  oMul t48 t36 fun t49 =>
  oAdd t45 t49 fun t50 =>
  K (.tuple [x43, t50, t33]))
  (nx (i.1, i.2.1, i.2.2) ()))
def q_law_spot (log_here : PyData) (top : PyData) (bottom : PyData) (K : PyData → Prop) : Prop :=
  oIx log_here (.int 0) fun t1 =>
  oIx t1 (.int 0) fun t2 =>
  oMul t2 bottom fun t3 =>
  oLt top t3 fun t4 =>
  bT t4 fun b5 =>
  tOr b5 (fun k11 => oIx log_here (.int (-1)) fun t6 =>
  oIx t6 (.int 0) fun t7 =>
  oMul t7 bottom fun t8 =>
  oGt top t8 fun t9 =>
  bT t9 fun b10 =>
  k11 b10) fun b12 =>
  bIf b12
  (K .none)
  (oSl log_here (some 1) none fun l13 =>
  zipQ [log_here, l13] fun l14 =>
  qFor (qb_law_spot_1 K) (log_here, top, bottom) l14 () fun s52 =>
  oIx log_here (.int 0) fun t53 =>
  oIx t53 (.int 1) fun t54 =>
  oIx log_here (.int 0) fun t55 =>
  oIx t55 (.int 2) fun t56 =>
  K (.tuple [t54, t56, (.int 1)]))
def qb_law_more_rows_2 (K : PyData → Prop) (d : PyData) (i : PyData × PyData) (s : List PyData) (nx bk : (PyData × PyData) → (List PyData) → Prop) : Prop :=
  q_law_spot i.1 d (.int 1) fun s16 =>
  tupQ s16 fun r17 =>
  consQ r17 fun x18 r19 =>
  consQ r19 fun y20 r21 =>
  consQ r21 fun by_22 r23 =>
  nilQ r23 (ixQ s (.int (-1)) fun t24 =>
  oIx t24 (.int 0) fun t25 =>
  oLt t25 d fun t26 =>
  bT t26 fun b27 =>
  vAnd b27 (fun k30 => oIx i.2 (.int 0) fun t28 =>
  oLt d t28 fun t29 =>
  k30 t29) fun t31 =>
  bT t31 fun b32 =>
  tAnd b32 (fun k47 => oMod x18 by_22 fun t33 =>
  oEq t33 (.int 0) fun t34 =>
  bT t34 fun b35 =>
  tAnd b35 (fun k45 => oMod y20 by_22 fun t36 =>
  oEq t36 (.int 0) fun t37 =>
  bT t37 fun b38 =>
  tAnd b38 (fun k43 => nLen [i.1] fun t39 =>
  oAdd (.int ((List.length s : Nat) : Int)) t39 fun t40 =>
  oLt t40 (.int 18) fun t41 =>
  bT t41 fun b42 =>
  k43 b42) fun b44 =>
  k45 b44) fun b46 =>
  k47 b46) fun b48 =>
  bIf b48
  (oDiv x18 by_22 fun t49 =>
  oDiv y20 by_22 fun t50 =>
  apQ s (.tuple [d, t49, t50]) fun rows51 =>
  nx (i.1, i.2) rows51)
  (nx (i.1, i.2) s))
def qb_law_more_rows_1 (K : PyData → Prop) (d : PyData) (i : PyData) (s : List PyData) (nx bk : PyData → (List PyData) → Prop) : Prop :=
  tupQ d fun r4 =>
  consQ r4 fun one5 r6 =>
  consQ r6 fun other7 r8 =>
  nilQ r8 (oIx one5 (.int 0) fun t9 =>
  oAdd t9 (.int 1) fun t10 =>
  oIx one5 (.int 0) fun t11 =>
  oIx other7 (.int 0) fun t12 =>
  oAdd t11 t12 fun t13 =>
  oDiv t13 (.int 2) fun t14 =>
  itemsQ (.tuple [t10, t14]) fun l15 =>
  qFor (qb_law_more_rows_2 K) (i, other7) l15 s fun s53 =>
  apQ s53 other7 fun rows54 =>
  nx i rows54)
def q_law_more_rows (log_here : PyData) (K : PyData → Prop) : Prop :=
  oIx log_here (.int 0) fun t1 =>
  oSl log_here (some 1) none fun l2 =>
  zipQ [log_here, l2] fun l3 =>
  qFor (qb_law_more_rows_1 K) log_here l3 [t1] fun s56 =>
  oSl (.tuple s56) none (some 20) fun l57 =>
  K l57
def qb_law_twin_1 (K : PyData → List PyData → Prop) (d : PyData) (i : List PyData × PyData × PyData × PyData × PyData × PyData × PyData) (s : List PyData) (nx bk : (List PyData × PyData × PyData × PyData × PyData × PyData × PyData) → (List PyData) → Prop) : Prop :=
  tupQ d fun r15 =>
  consQ r15 fun k16 r17 =>
  consQ r17 fun row18 r19 =>
  nilQ r19 (oGt k16 i.2.2.2.1 fun t20 =>
  nInt [t20] fun away21 =>
  oIx row18 (.int 0) fun t22 =>
  oIx row18 (.int 1) fun t23 =>
  oMul i.2.2.2.2.1 away21 fun t24 =>
  oAdd t23 t24 fun t25 =>
  oIx row18 (.int 2) fun t26 =>
  oMul i.2.2.2.2.2.1 away21 fun t27 =>
  oAdd t26 t27 fun t28 =>
  oIx row18 (.int 0) fun t29 =>
  oAdd t29 i.2.2.2.2.2.2 fun t30 =>
  oIx row18 (.int 1) fun t31 =>
  oIx row18 (.int 2) fun t32 =>
  oIx row18 (.int 0) fun t33 =>
  oIx row18 (.int 1) fun t34 =>
  oAdd t34 i.2.2.2.2.1 fun t35 =>
  oIx row18 (.int 2) fun t36 =>
  oAdd t36 i.2.2.2.2.2.1 fun t37 =>
  oAdd (.list [row18, row18, (.tuple [t22, t25, t28])]) (.list [(.tuple [t30, t31, t32]), (.tuple [t33, t35, t37])]) fun here38 =>
  oIx row18 (.int 0) fun t39 =>
  oIx row18 (.int 2) fun t40 =>
  oNeg t40 fun t41 =>
  oIx row18 (.int 1) fun t42 =>
  oAdd here38 (.list [(.tuple [t39, t41, t42])]) fun t43 =>
  oIx t43 i.2.2.1 fun t44 =>
  apQ s t44 fun rows45 =>
  nx (i.1, i.2.1, i.2.2.1, i.2.2.2.1, i.2.2.2.2.1, i.2.2.2.2.2.1, i.2.2.2.2.2.2) rows45)
def qb_law_twin_2 (d : PyData) (i : List PyData × PyData × PyData) (s : Unit) (sk : (List PyData × PyData × PyData) → Unit → Prop) (yd : PyData → (List PyData × PyData × PyData) → Unit → Prop) : Prop :=
  q_law_is_log (.tuple [d]) fun i56 =>
  bT i56 fun b57 =>
  bIf b57
  (yd d (i.1, i.2.1, i.2.2) ())
  (sk (i.1, i.2.1, i.2.2) ())
def q_law_twin (pot : List PyData) (log_here : PyData) (K : PyData → List PyData → Prop) : Prop :=
  q_law_draw pot (.int 6) fun kind1 pot2 =>
  nLen [log_here] fun t3 =>
  q_law_draw pot2 t3 fun at_4 pot5 =>
  q_law_draw pot5 (.int 9) fun d6 pot7 =>
  oSub d6 (.int 4) fun t8 =>
  q_law_draw pot7 (.int 9) fun d9 pot10 =>
  oSub d9 (.int 4) fun t11 =>
  q_law_draw pot10 (.int 50) fun later12 pot13 =>
  enumQ [log_here] fun l14 =>
  qFor (qb_law_twin_1 K) (pot13, log_here, kind1, at_4, t8, t11, later12) l14 [] fun s47 =>
  oEq kind1 (.int 0) fun t48 =>
  bT t48 fun b49 =>
  bIf b49
  (q_law_log pot13 (.int 8) fun l50 pot51 =>
  K l50 pot51)
  (oEq kind1 (.int 1) fun t52 =>
  bT t52 fun b53 =>
  bIf b53
  (q_law_more_rows (.tuple s47) fun m54 =>
  K m54 pot13)
  (itemsQ (.list s47) fun l55 =>
  qLc qb_law_twin_2 (pot13, log_here, (.list s47)) l55 [] () fun l58 s60 =>
  nTuple [(.list l58)] fun kept61 =>
  oEmp false kept61 (.tuple []) fun t62 =>
  bT t62 fun b63 =>
  vIf b63 (fun k65 => k65 log_here) (fun k65 => k65 kept61) fun t64 =>
  K t64 pot13))
def q_law_chase (pot : List PyData) (one : PyData) (other : PyData) (K : PyData → List PyData → Prop) : Prop :=
  q_law_draw pot (.int 6) fun kind1 pot2 =>
  oIx one (.int 0) fun t3 =>
  oIx t3 (.int 0) fun t4 =>
  oIx other (.int (-1)) fun t5 =>
  oIx t5 (.int 0) fun t6 =>
  oPow (.int 10) (.int 4) fun t7 =>
  q_law_draw pot2 (.int 3) fun d8 pot9 =>
  oIx (.list [(.int 3), (.int 100), t7]) d8 fun t10 =>
  q_law_draw pot9 t10 fun d11 pot12 =>
  oAdd (.int 1) d11 fun width13 =>
  oPow (.int 10) (.int 5) fun t14 =>
  nMin2 [t4, t6] fun t15 =>
  nMax2 [t4, t6] fun t16 =>
  oPow (.int 10) (.int 5) fun t17 =>
  oAdd t4 width13 fun t18 =>
  nMin2 [t17, t18] fun t19 =>
  oSub t6 width13 fun t20 =>
  nMax2 [(.int 0), t20] fun t21 =>
  oPow (.int 10) (.int 5) fun t22 =>
  oAdd t6 (.int 1) fun t23 =>
  nMin2 [t22, t23] fun t24 =>
  oPow (.int 10) (.int 5) fun t25 =>
  oAdd (.list [(.tuple [(.int 0), t14]), (.tuple [t15, t16]), (.tuple [t4, t19]), (.tuple [t6, t6])]) (.list [(.tuple [t21, t6]), (.tuple [t24, t25])]) fun some_26 =>
  oIx some_26 kind1 fun t27 =>
  K t27 pot12
def q_law_less (one : PyData) (other : PyData) (K : PyData → Prop) : Prop :=
  oIx one (.int 0) fun t1 =>
  oIx other (.int 1) fun t2 =>
  oMul t1 t2 fun t3 =>
  oIx other (.int 0) fun t4 =>
  oIx one (.int 1) fun t5 =>
  oMul t4 t5 fun t6 =>
  oLt t3 t6 fun t7 =>
  K t7
def q_law_first (one : PyData) (other : PyData) (K : PyData → Prop) : Prop :=
  oIsN one fun t1 =>
  bT t1 fun b2 =>
  tOr b2 (fun k5 => oIsN other fun t3 =>
  bT t3 fun b4 =>
  k5 b4) fun b6 =>
  bIf b6
  (oIsN other fun t7 =>
  bT t7 fun b8 =>
  vIf b8 (fun k10 => k10 one) (fun k10 => k10 other) fun t9 =>
  K t9)
  (oIx other (.int 0) fun t11 =>
  oIx one (.int 0) fun t12 =>
  q_law_less t11 t12 fun l13 =>
  bT l13 fun b14 =>
  vIf b14 (fun k16 => k16 other) (fun k16 => k16 one) fun t15 =>
  K t15)
def q_law_together (one : PyData) (other : PyData) (K : PyData → Prop) : Prop :=
  oIsN one fun t1 =>
  bT t1 fun b2 =>
  tOr b2 (fun k5 => oIsN other fun t3 =>
  bT t3 fun b4 =>
  k5 b4) fun b6 =>
  bIf b6
  (oIsN other fun t7 =>
  bT t7 fun b8 =>
  vIf b8 (fun k10 => k10 one) (fun k10 => k10 other) fun t9 =>
  K t9)
  (oIx one (.int 0) fun t11 =>
  oIx other (.int 1) fun t12 =>
  K (.tuple [t11, t12]))
def q_law_gap (one : PyData) (other : PyData) (K : PyData → Prop) : Prop :=
  oIx one (.int 0) fun t1 =>
  oIx other (.int 1) fun t2 =>
  oMul t1 t2 fun t3 =>
  oIx other (.int 0) fun t4 =>
  oIx one (.int 1) fun t5 =>
  oMul t4 t5 fun t6 =>
  oSub t3 t6 fun t7 =>
  oIx one (.int 1) fun t8 =>
  oIx other (.int 1) fun t9 =>
  oMul t8 t9 fun t10 =>
  K (.tuple [t7, t10])
def q_law_apart (one : PyData) (other : PyData) (K : PyData → Prop) : Prop :=
  oIx one (.int 0) fun t1 =>
  oIx other (.int 0) fun t2 =>
  q_law_gap t1 t2 fun g3 =>
  oIx one (.int 1) fun t4 =>
  oIx other (.int 1) fun t5 =>
  q_law_gap t4 t5 fun g6 =>
  oIx g3 (.int 0) fun t7 =>
  oIx g3 (.int 0) fun t8 =>
  oMul t7 t8 fun t9 =>
  oIx g6 (.int 1) fun t10 =>
  oMul t9 t10 fun t11 =>
  oIx g6 (.int 1) fun t12 =>
  oMul t11 t12 fun t13 =>
  oIx g6 (.int 0) fun t14 =>
  oIx g6 (.int 0) fun t15 =>
  oMul t14 t15 fun t16 =>
  oIx g3 (.int 1) fun t17 =>
  oMul t16 t17 fun t18 =>
  oIx g3 (.int 1) fun t19 =>
  oMul t18 t19 fun t20 =>
  oAdd t13 t20 fun top21 =>
  oIx g3 (.int 1) fun t22 =>
  oIx g6 (.int 1) fun t23 =>
  oMul t22 t23 fun bottom24 =>
  oMul bottom24 bottom24 fun t25 =>
  q_law_terms top21 t25 fun t26 =>
  K t26
def qb_law_none_nearer_1 (K : PyData → List PyData → Prop) (d : PyData) (i : PyData × PyData × PyData × PyData × PyData × PyData) (s : List PyData) (nx bk : (PyData × PyData × PyData × PyData × PyData × PyData) → (List PyData) → Prop) : Prop :=
  oMul i.2.2.1 i.2.2.2.2.2 fun t5 =>
  oSub i.2.2.2.1 i.2.2.1 fun t6 =>
  oMul t6 i.2.2.2.2.2 fun t7 =>
  oAdd t7 (.int 1) fun t8 =>
  q_law_wide s t8 fun w9 pot10 =>
  oAdd t5 w9 fun t11 =>
  q_law_terms t11 i.2.2.2.2.2 fun moment12 =>
  q_place_at i.1 moment12 fun p13 =>
  q_place_at i.2.1 moment12 fun p14 =>
  oNotN p13 fun t15 =>
  bT t15 fun b16 =>
  tAnd b16 (fun k19 => oNotN p14 fun t17 =>
  bT t17 fun b18 =>
  k19 b18) fun b20 =>
  bIf b20
  (oIsN i.2.2.2.2.1 fun t21 =>
  bT t21 fun b22 =>
  tOr b22 (fun k27 => q_law_apart p13 p14 fun a23 =>
  oIx i.2.2.2.2.1 (.int 0) fun t24 =>
  q_law_less a23 t24 fun l25 =>
  bT l25 fun b26 =>
  k27 b26) fun b28 =>
  bIf b28
  (K (.bool false) pot10)
  (nx (i.1, i.2.1, i.2.2.1, i.2.2.2.1, i.2.2.2.2.1, i.2.2.2.2.2) pot10))
  (nx (i.1, i.2.1, i.2.2.1, i.2.2.2.1, i.2.2.2.2.1, i.2.2.2.2.2) pot10)
def q_law_none_nearer (pot : List PyData) (one : PyData) (other : PyData) (low : PyData) (high : PyData) (told : PyData) (K : PyData → List PyData → Prop) : Prop :=
  q_law_draw pot (.int 1000) fun d1 pot2 =>
  oAdd (.int 1) d1 fun by_3 =>
  rng1 [(.int 6)] fun l4 =>
  qFor (qb_law_none_nearer_1 K) (one, other, low, high, told, by_3) l4 pot2 fun s30 =>
  oIsN told fun t31 =>
  bT t31 fun b32 =>
  bIf b32
  (K (.bool true) s30)
  (oIx told (.int 1) fun t33 =>
  q_place_at one t33 fun p34 =>
  oIx told (.int 1) fun t35 =>
  q_place_at other t35 fun p36 =>
  q_law_apart p34 p36 fun a37 =>
  oIx told (.int 0) fun t38 =>
  oEq a37 t38 fun t39 =>
  K t39 s30)
def q_law_parting_right (one : PyData) (other : PyData) (low : PyData) (high : PyData) (K : PyData → Prop) : Prop :=
  q_part_at one other fun p1 =>
  oPow (.int 10) (.int 5) fun t2 =>
  q_both_tell one other (.int 0) t2 fun b3 =>
  oIsN b3 fun t4 =>
  bT t4 fun b5 =>
  bIf b5
  (oIsN p1 fun t6 =>
  K t6)
  (oIsN p1 fun t7 =>
  bT t7 fun b8 =>
  bIf b8
  (oPow (.int 10) (.int 5) fun t9 =>
  q_nearest one other (.int 0) t9 fun n10 =>
  oIx b3 (.int 0) fun t11 =>
  oEq n10 (.tuple [(.tuple [(.int 0), (.int 1)]), (.tuple [t11, (.int 1)])]) fun t12 =>
  K t12)
  (oIx b3 (.int 0) fun t13 =>
  oGt p1 t13 fun t14 =>
  bT t14 fun b15 =>
  tAnd b15 (fun k21 => oIx b3 (.int 0) fun t16 =>
  q_nearest one other t16 p1 fun n17 =>
  oIx b3 (.int 0) fun t18 =>
  oNe n17 (.tuple [(.tuple [(.int 0), (.int 1)]), (.tuple [t18, (.int 1)])]) fun t19 =>
  bT t19 fun b20 =>
  k21 b20) fun b22 =>
  bIf b22
  (K (.bool false))
  (oIx b3 (.int 0) fun t23 =>
  oEq p1 t23 fun t24 =>
  bT t24 fun b25 =>
  vOr b25 (fun k29 => oIx b3 (.int 0) fun t26 =>
  q_are_near one other t26 p1 (.int 0) fun a27 =>
  oIsB false true a27 fun t28 =>
  k29 t28) fun t30 =>
  K t30)))
def qb_law_1 (K : PyData → Prop) (d : PyData) (i : Unit) (s : List PyData) (nx bk : Unit → (List PyData) → Prop) : Prop :=
  q_law_log s (.int 10) fun one6 pot7 =>
  q_law_twin pot7 one6 fun other8 pot9 =>
  q_law_chase pot9 one6 other8 fun c10 pot11 =>
  tupQ c10 fun r12 =>
  consQ r12 fun low13 r14 =>
  consQ r14 fun high15 r16 =>
  nilQ r16 (oSub high15 low13 fun t17 =>
  oAdd t17 (.int 1) fun t18 =>
  q_law_draw pot11 t18 fun d19 pot20 =>
  oAdd low13 d19 fun amid21 =>
  q_nearest one6 other8 low13 high15 fun told22 =>
  q_nearest one6 other8 low13 amid21 fun n23 =>
  q_nearest one6 other8 amid21 high15 fun n24 =>
  q_law_first n23 n24 fun f25 =>
  oNe told22 f25 fun t26 =>
  bT t26 fun b27 =>
  bIf b27
  (K (.bool false))
  (q_law_none_nearer pot20 one6 other8 low13 high15 told22 fun n28 pot29 =>
  bT n28 fun b30 =>
  bIf (!b30)
  (K (.bool false))
  (q_both_tell one6 other8 low13 amid21 fun b31 =>
  q_both_tell one6 other8 amid21 high15 fun b32 =>
  q_law_together b31 b32 fun hours33 =>
  q_both_tell one6 other8 low13 high15 fun b34 =>
  oNe b34 hours33 fun t35 =>
  bT t35 fun b36 =>
  tOr b36 (fun k39 => q_law_parting_right one6 other8 low13 high15 fun p37 =>
  bT p37 fun b38 =>
  k39 (!b38)) fun b40 =>
  bIf b40
  (K (.bool false))
  (q_law_draw pot29 (.int 50) fun miles41 pot42 =>
  q_are_near one6 other8 low13 amid21 miles41 fun a43 =>
  bT a43 fun b44 =>
  tAnd b44 (fun k47 => q_are_near one6 other8 low13 high15 miles41 fun a45 =>
  bT a45 fun b46 =>
  k47 (!b46)) fun b48 =>
  bIf b48
  (K (.bool false))
  (nx () pot42)))))
def q_law (script : PyData) (K : PyData → Prop) : Prop :=
  q_law_pot_of script fun pot1 =>
  nLen [script] fun t2 =>
  nMin2 [(.int 10), t2] fun t3 =>
  nMax2 [(.int 1), t3] fun t4 =>
  rng1 [t4] fun l5 =>
  qFor (qb_law_1 K) () l5 pot1 fun s50 =>
  K (.bool true)
local macro_rules | `(tactic| walk_at "q") => `(tactic| try simp only [q_bT, q_add, q_addT, q_addL, q_addS, q_sub, q_mul, q_mulT, q_div, q_mod, q_pow, q_neg, q_lt, q_le, q_gt, q_ge, q_oI, q_eq, q_ne, q_eqS, q_neS, q_isN, q_isNi, q_isNt, q_isNs, q_notN, q_notNi, q_notNt, q_ix, q_ixL, q_ixQ, q_len, q_lenT, q_lenS, q_abs, q_min, q_max, q_tupleOf, q_tupleOfT, q_int, q_intB, q_list, q_listT, q_tup, q_cons, q_nil, q_so, q_lst, q_items, q_itemsT, q_rev, q_zip, q_zipT, q_rng1, q_rng2, q_sumI, q_sumTI, q_allB, q_anyB, q_ap, q_jn, q_fd, q_rep, q_slT, q_slL, q_max3, q_min3, q_str, q_cat, q_catN, q_scalN, q_scalB, q_scalI, q_scalS, q_enumL, q_enumT, q_inL, q_inT, q_inS, q_ninL, q_ninT, q_ninS, Bool.true_eq_false, Bool.false_eq_true, false_imp_iff, true_imp_iff, q_eqB, q_neB, q_empL, q_empT, q_isB, q_revL, q_revT, List.isEmpty_cons, List.isEmpty_nil, bne_self_eq_false, Bool.bne_false, Bool.bne_true, q_same, q_tAnd_k, q_tOr_k, q_vAnd_k, q_vOr_k, q_tAnd_s, q_tOr_s, q_vAnd_s, q_vOr_s, q_vIf_k, q_tAnd_t, q_tAnd_f, q_tOr_t, q_tOr_f, q_vAnd_t, q_vAnd_f, q_vOr_t, q_vOr_f, q_vIf_t, q_vIf_f, at0, at1, at2, at3, at4, at5, at6, atLast, st0, st1, st2, st3, st4, bIf_t, bIf_f, true_and, and_true, Bool.not_true, Bool.not_false, Bool.true_and, Bool.false_and, Bool.and_true, Bool.and_false, Bool.true_or, Bool.or_true, Bool.false_or, Bool.or_false, Bool.not_not, decide_true, decide_false, List.length_cons, List.cons_append, List.nil_append, List.length_nil, List.length_map, List.length_append, isi_non_int, isi_non_bool, isi_non_str, isi_non_list, isi_non_tuple, isi_non_dict, isi_bl_int, isi_bl_bool, isi_bl_str, isi_bl_list, isi_bl_tuple, isi_bl_dict, isi_int_int, isi_int_bool, isi_int_str, isi_int_list, isi_int_tuple, isi_int_dict, isi_str_int, isi_str_bool, isi_str_str, isi_str_list, isi_str_tuple, isi_str_dict, isi_lst_int, isi_lst_bool, isi_lst_str, isi_lst_list, isi_lst_tuple, isi_lst_dict, isi_tup_int, isi_tup_bool, isi_tup_str, isi_tup_list, isi_tup_tuple, isi_tup_dict, isi_dct_int, isi_dct_bool, isi_dct_str, isi_dct_list, isi_dct_tuple, isi_dct_dict])
local macro_rules | `(tactic| walk_at "side") => `(tactic| first | assumption | exact rfl | omega | exact sz_of (by omega) (by omega) | decide | (refine ⟨?_, ?_⟩ <;> walk_at "side"))
local macro_rules | `(tactic| walk_at "sides") => `(tactic| repeat ((with_reducible refine And.intro ?_ ?_); (· walk_at "side"); walk_at "q"))
local macro_rules | `(tactic| walk_at "go") => `(tactic| (walk_at "q"; walk_at "sides"))
local macro_rules | `(tactic| walk_at "j") => `(tactic| try simp only [q_bT, q_add, q_addT, q_addL, q_addS, q_sub, q_mul, q_mulT, q_div, q_mod, q_pow, q_neg, q_lt, q_le, q_gt, q_ge, q_oI, q_eq, q_ne, q_eqS, q_neS, q_isN, q_isNi, q_isNt, q_isNs, q_notN, q_notNi, q_notNt, q_ix, q_ixL, q_ixQ, q_len, q_lenT, q_lenS, q_abs, q_min, q_max, q_tupleOf, q_tupleOfT, q_int, q_intB, q_list, q_listT, q_tup, q_cons, q_nil, q_so, q_lst, q_items, q_itemsT, q_rev, q_zip, q_zipT, q_rng1, q_rng2, q_sumI, q_sumTI, q_allB, q_anyB, q_ap, q_fd, q_rep, q_slT, q_slL, q_max3, q_min3, q_str, q_cat, q_catN, q_scalN, q_scalB, q_scalI, q_scalS, q_enumL, q_enumT, q_inL, q_inT, q_inS, q_ninL, q_ninT, q_ninS, Bool.true_eq_false, Bool.false_eq_true, false_imp_iff, true_imp_iff, q_eqB, q_neB, q_empL, q_empT, q_isB, q_revL, q_revT, List.isEmpty_cons, List.isEmpty_nil, bne_self_eq_false, Bool.bne_false, Bool.bne_true, q_same, q_tAnd_k, q_tOr_k, q_vAnd_k, q_vOr_k, q_tAnd_s, q_tOr_s, q_vAnd_s, q_vOr_s, q_vIf_k, q_tAnd_t, q_tAnd_f, q_tOr_t, q_tOr_f, q_vAnd_t, q_vAnd_f, q_vOr_t, q_vOr_f, q_vIf_t, q_vIf_f, at0, at1, at2, at3, at4, at5, at6, atLast, st0, st1, st2, st3, st4, bIf_t, bIf_f, true_and, and_true, Bool.not_true, Bool.not_false, Bool.true_and, Bool.false_and, Bool.and_true, Bool.and_false, Bool.true_or, Bool.or_true, Bool.false_or, Bool.or_false, Bool.not_not, decide_true, decide_false, List.length_cons, List.cons_append, List.nil_append, List.length_nil, List.length_map, List.length_append, isi_non_int, isi_non_bool, isi_non_str, isi_non_list, isi_non_tuple, isi_non_dict, isi_bl_int, isi_bl_bool, isi_bl_str, isi_bl_list, isi_bl_tuple, isi_bl_dict, isi_int_int, isi_int_bool, isi_int_str, isi_int_list, isi_int_tuple, isi_int_dict, isi_str_int, isi_str_bool, isi_str_str, isi_str_list, isi_str_tuple, isi_str_dict, isi_lst_int, isi_lst_bool, isi_lst_str, isi_lst_list, isi_lst_tuple, isi_lst_dict, isi_tup_int, isi_tup_bool, isi_tup_str, isi_tup_list, isi_tup_tuple, isi_tup_dict, isi_dct_int, isi_dct_bool, isi_dct_str, isi_dct_list, isi_dct_tuple, isi_dct_dict])
def isW : PyData → Bool
  | .int _ => true
  | _ => false
def isIn (a : PyData) (l m : Int) : Bool := match a with
  | .int i => decide (l ≤ i) && decide (i ≤ m)
  | _ => false
def areW (a : PyData) (n : Int) : Bool := match a with
  | .tuple ds => decide ((ds.length : Int) = n) && ds.all isW
  | _ => false
def isFr (a : PyData) : Bool := match a with
  | .tuple [.int p, .int q] => decide (0 < q) && decide (Int.gcd p q = 1)
  | _ => false
def isPart (a : PyData) : Bool := match a with
  | .tuple [.int p, .int q] => isFr a && (decide (0 ≤ p) && decide (p ≤ q))
  | _ => false
structure Sale (g c r h b p q : Int) : Prop where
  g0 : 0 ≤ g
  g1 : g ≤ 10 ^ 12
  c0 : 0 ≤ c
  c1 : c ≤ 10 ^ 12
  r0 : 0 ≤ r
  r1 : r ≤ 10000
  h0 : 0 ≤ h
  h1 : h ≤ 1000
  b0 : 0 ≤ b
  b1 : b ≤ 10 ^ 9
  p0 : 0 ≤ p
  pq : p ≤ q
  q0 : 0 < q
  q1 : q ≤ 10 ^ 40
  co : Int.gcd p q = 1
structure SaleB (g c r h b p q : Int) : Prop where
  g0 : 0 ≤ g
  g1 : g ≤ 10 ^ 70
  c0 : 0 ≤ c
  c1 : c ≤ 10 ^ 12
  r0 : 0 ≤ r
  r1 : r ≤ 10000
  h0 : 0 ≤ h
  h1 : h ≤ 1000
  b0 : 0 ≤ b
  b1 : b ≤ 10 ^ 9
  p0 : 0 ≤ p
  pq : p ≤ q
  q0 : 0 < q
  q1 : q ≤ 10 ^ 40
theorem Sale.B {g c r h b p q : Int} (s : Sale g c r h b p q) : SaleB g c r h b p q := ⟨s.g0, Int.le_trans s.g1 (by decide), s.c0, s.c1, s.r0, s.r1, s.h0, s.h1, s.b0, s.b1, s.p0, s.pq, s.q0, s.q1⟩
def saleD (g c r h b p q : Int) : PyData := .tuple [.int g, .int c, .int r, .int h, .int b, .tuple [.int p, .int q]]
def paid (g c : Int) : Int := if g < c then g else c
def caps (g c p q : Int) : Int := (g - paid g c) * p / q
def pot (g c h b p q : Int) : Int := caps g c p q + h * b
def fee (g c r h b p q : Int) : Int := pot g c h b p q * r / 10000
def purseD (g c r h b p q : Int) : PyData := .tuple [.int (paid g c), .int (g - paid g c - caps g c p q), .int (fee g c r h b p q), .int (pot g c h b p q - fee g c r h b p q)]
def PotOk (n : Int) (xs : List PyData) : Prop := ∃ g s t : Int, xs = [.int g, .int s, .int t] ∧ 0 ≤ s ∧ s ≤ 10 ^ 12 ∧ 0 ≤ t ∧ t ≤ n
theorem PotOk.mono {n m : Int} {xs : List PyData} (h : PotOk n xs) (e : n ≤ m) : PotOk m xs := by
  obtain ⟨g, s, t, h1, h2, h3, h4, h5⟩ := h
  exact ⟨g, s, t, h1, h2, h3, h4, by omega⟩
theorem gcd_step (i j : Int) (h0 : 0 < j) (hi : 0 ≤ i) : Int.gcd j (i % j) = Int.gcd i j := by
  obtain ⟨a, rfl⟩ := Int.eq_ofNat_of_zero_le hi
  obtain ⟨b, rfl⟩ := Int.eq_ofNat_of_zero_le (Int.le_of_lt h0)
  have e : ((a : Int) % (b : Int)) = ((a % b : Nat) : Int) := by simp
  rw [e]
  show Nat.gcd b (a % b) = Nat.gcd a b
  rw [Nat.gcd_comm a b, Nat.gcd_comm b (a % b)]
  exact (Nat.gcd_rec b a).symm
theorem part_true {p q : Int} (h0 : 0 ≤ p) (h1 : p ≤ q) (h2 : 0 < q) (h3 : Int.gcd p q = 1) : isPart (.tuple [.int p, .int q]) = true := by
  simp [isPart, isFr, h0, h1, h2, h3]
theorem caps_le {x p q : Int} (h0 : 0 ≤ x) (h1 : 0 ≤ p) (h2 : p ≤ q) (h3 : 0 < q) : 0 ≤ x * p / q ∧ x * p / q ≤ x := by
  refine ⟨Int.ediv_nonneg (Int.mul_nonneg h0 h1) (by omega), ?_⟩
  have : x * p ≤ x * q := Int.mul_le_mul_of_nonneg_left h2 h0
  exact Int.le_trans (Int.ediv_le_ediv h3 this) (by rw [Int.mul_ediv_cancel _ (by omega)]; exact Int.le_refl x)
theorem paid_in {g c : Int} (h0 : 0 ≤ g) (h1 : 0 ≤ c) : 0 ≤ paid g c ∧ paid g c ≤ g := by
  unfold paid
  split <;> omega
theorem sale_caps {g c r h b p q : Int} (s : Sale g c r h b p q) : 0 ≤ caps g c p q ∧ caps g c p q ≤ 10 ^ 12 := by
  have h1 := paid_in s.g0 s.c0
  have h2 := s.g1
  have h3 := caps_le (x := g - paid g c) (by omega) s.p0 s.pq s.q0
  unfold caps
  constructor
  · exact h3.1
  · exact Int.le_trans h3.2 (by omega)
theorem sale_pot {g c r h b p q : Int} (s : Sale g c r h b p q) : 0 ≤ pot g c h b p q ∧ pot g c h b p q ≤ 10 ^ 13 := by
  have h1 := sale_caps s
  have h2 : 0 ≤ h * b := Int.mul_nonneg s.h0 s.b0
  have h3 : h * b ≤ 1000 * 10 ^ 9 := Int.mul_le_mul s.h1 s.b1 s.b0 (by decide)
  unfold pot
  constructor <;> omega
theorem sale_fee {g c r h b p q : Int} (s : Sale g c r h b p q) : 0 ≤ fee g c r h b p q ∧ fee g c r h b p q ≤ 10 ^ 13 := by
  have h1 := sale_pot s
  have h2 := caps_le (x := pot g c h b p q) h1.1 s.r0 s.r1 (by decide : (0 : Int) < 10000)
  unfold fee
  exact ⟨h2.1, Int.le_trans h2.2 h1.2⟩
theorem B_caps {g c r h b p q : Int} (s : SaleB g c r h b p q) : 0 ≤ caps g c p q ∧ caps g c p q ≤ 10 ^ 70 := by
  have h1 := paid_in s.g0 s.c0
  have h2 := s.g1
  have h3 := caps_le (x := g - paid g c) (by omega) s.p0 s.pq s.q0
  unfold caps
  constructor
  · exact h3.1
  · exact Int.le_trans h3.2 (by omega)
theorem B_pot {g c r h b p q : Int} (s : SaleB g c r h b p q) : 0 ≤ pot g c h b p q ∧ pot g c h b p q ≤ 10 ^ 71 := by
  have h1 := B_caps s
  have h2 : 0 ≤ h * b := Int.mul_nonneg s.h0 s.b0
  have h3 : h * b ≤ 1000 * 10 ^ 9 := Int.mul_le_mul s.h1 s.b1 s.b0 (by decide)
  unfold pot
  constructor <;> omega
theorem B_fee {g c r h b p q : Int} (s : SaleB g c r h b p q) : 0 ≤ fee g c r h b p q ∧ fee g c r h b p q ≤ 10 ^ 71 := by
  have h1 := B_pot s
  have h2 := caps_le (x := pot g c h b p q) h1.1 s.r0 s.r1 (by decide : (0 : Int) < 10000)
  unfold fee
  exact ⟨h2.1, Int.le_trans h2.2 h1.2⟩
theorem mem3 {α : Type} {x a b c : α} (h : x ∈ [a, b, c]) : x = a ∨ x = b ∨ x = c := by simpa using h
theorem mem4 {α : Type} {x a b c d : α} (h : x ∈ [a, b, c, d]) : x = a ∨ x = b ∨ x = c ∨ x = d := by simpa using h
theorem mem5 {α : Type} {x a b c d e : α} (h : x ∈ [a, b, c, d, e]) : x = a ∨ x = b ∨ x = c ∨ x = d ∨ x = e := by simpa using h
theorem gcd_one (p q : Int) (h0 : 0 ≤ p) (h1 : 0 < q) : Int.gcd (p / (Int.gcd p q : Nat)) (q / (Int.gcd p q : Nat)) = 1 := by
  obtain ⟨a, rfl⟩ := Int.eq_ofNat_of_zero_le h0
  obtain ⟨b, rfl⟩ := Int.eq_ofNat_of_zero_le (Int.le_of_lt h1)
  have hb : 0 < b := by omega
  have e1 : ((a : Int) / ((Int.gcd a b : Nat) : Int)) = ((a / Nat.gcd a b : Nat) : Int) := by
    show ((a : Int) / ((Nat.gcd a b : Nat) : Int)) = _
    simp
  have e2 : ((b : Int) / ((Int.gcd a b : Nat) : Int)) = ((b / Nat.gcd a b : Nat) : Int) := by
    show ((b : Int) / ((Nat.gcd a b : Nat) : Int)) = _
    simp
  rw [e1, e2]
  show Nat.gcd (a / Nat.gcd a b) (b / Nat.gcd a b) = 1
  rw [Nat.gcd_div (Nat.gcd_dvd_left a b) (Nat.gcd_dvd_right a b)]
  exact Nat.div_self (Nat.gcd_pos_of_pos_right a hb)
theorem purse_sum {g c r h b p q : Int} : [paid g c, g - paid g c - caps g c p q, fee g c r h b p q, pot g c h b p q - fee g c r h b p q].sum = g + h * b := by
  simp only [List.sum_cons, List.sum_nil]
  unfold pot
  omega
def leastPot (r n : Int) : PyData := if n = 0 then .int 0 else if r = 10000 then .none else .int ((n - 1) * 10000 / (10000 - r) + 1)
def leastGross (c r h b p q n : Int) : PyData := match leastPot r n with
  | .int m => if m - h * b ≤ 0 then .int 0 else if p = 0 then .none else .int (c + ((m - h * b) * q - 1) / p + 1)
  | _ => .none
def sharedOf (g c r h b p q : Int) : Int := pot g c h b p q - fee g c r h b p q
theorem keep_iff {x r n : Int} (h : r < 10000) : n ≤ x - x * r / 10000 ↔ (n - 1) * 10000 / (10000 - r) + 1 ≤ x := by
  have e : x * (10000 - r) = x * 10000 - x * r := by rw [Int.mul_sub]
  have h1 : (n - 1) * 10000 / (10000 - r) < x ↔ (n - 1) * 10000 < x * (10000 - r) := Int.ediv_lt_iff_lt_mul (by omega)
  constructor
  · intro h2
    have : (n - 1) * 10000 < x * (10000 - r) := by omega
    have := h1.mpr this
    omega
  · intro h2
    have := h1.mp (by omega)
    omega
theorem left_iff {x p q k : Int} (hp : 0 < p) (hq : 0 < q) : k ≤ x * p / q ↔ (k * q - 1) / p + 1 ≤ x := by
  have h1 : (k * q - 1) / p < x ↔ k * q - 1 < x * p := Int.ediv_lt_iff_lt_mul hp
  have h2 : k ≤ x * p / q ↔ k * q ≤ x * p := Int.le_ediv_iff_mul_le hq
  rw [h2]
  constructor
  · intro h
    have := h1.mpr (by omega)
    omega
  · intro h
    have := h1.mp (by omega)
    omega
theorem shared_iff {g c r h b p q n m : Int} (s : SaleB g c r h b p q) (n0 : 0 ≤ n) (lp : leastPot r n = .int m) : n ≤ sharedOf g c r h b p q ↔ m ≤ pot g c h b p q := by
  have hp := B_pot s
  have hf : fee g c r h b p q ≤ pot g c h b p q := by
    have := caps_le (x := pot g c h b p q) hp.1 s.r0 s.r1 (by decide : (0 : Int) < 10000)
    exact this.2
  unfold leastPot at lp
  split at lp
  · cases lp
    unfold sharedOf
    constructor <;> intro _ <;> omega
  · split at lp
    · cases lp
    · cases lp
      have hr := s.r1
      have := keep_iff (x := pot g c h b p q) (r := r) (n := n) (by omega)
      exact this
theorem pot_iff {g c h b p q m : Int} (g0 : 0 ≤ g) (c0 : 0 ≤ c) (hp : 0 < p) (hq : 0 < q) (hm : 0 < m - h * b) : m ≤ pot g c h b p q ↔ c + ((m - h * b) * q - 1) / p + 1 ≤ g := by
  have h1 := left_iff (x := g - paid g c) (k := m - h * b) hp hq
  have h2 : m ≤ pot g c h b p q ↔ m - h * b ≤ (g - paid g c) * p / q := by
    unfold pot caps
    constructor <;> intro _ <;> omega
  have h3 : 0 ≤ ((m - h * b) * q - 1) / p := Int.ediv_nonneg (by have := Int.mul_pos hm hq; omega) (by omega)
  have h4 : g - paid g c = if c ≤ g then g - c else 0 := by unfold paid; split <;> split <;> omega
  rw [h2, h1, h4]
  split <;> constructor <;> intro _ <;> omega
theorem right_law {g c r h b p q n : Int} (s : Sale g c r h b p q) (n0 : 0 ≤ n) (n1 : n ≤ 10 ^ 16) :
    (((r = 10000 ∧ 0 < n) ∨ (p = 0 ∧ sharedOf 0 c r h b p q < n)) ∧ leastGross c r h b p q n = .none) ∨
    (¬ (r = 10000 ∧ 0 < n) ∧ ¬ (p = 0 ∧ sharedOf 0 c r h b p q < n) ∧ ∃ t, leastGross c r h b p q n = .int t ∧ 0 ≤ t ∧ t ≤ 10 ^ 65 ∧ n ≤ sharedOf t c r h b p q ∧ (t = 0 ∨ sharedOf (t - 1) c r h b p q < n)) := by
  obtain ⟨g0, g1, c0, c1, r0, r1, e0, e1, b0, b1, p0, pq, q0, q1, co⟩ := id s
  have hb0 : 0 ≤ h * b := Int.mul_nonneg e0 b0
  have B : ∀ t, 0 ≤ t → t ≤ 10 ^ 70 → SaleB t c r h b p q := fun t t0 t1 => ⟨t0, t1, c0, c1, r0, r1, e0, e1, b0, b1, p0, pq, q0, q1⟩
  by_cases hr : r = 10000 ∧ 0 < n
  · refine .inl ⟨.inl hr, ?_⟩
    unfold leastGross leastPot
    rw [if_neg (by omega), if_pos hr.1]
  · have lp : ∃ m, leastPot r n = .int m ∧ 0 ≤ m ∧ m ≤ 10 ^ 21 := by
      unfold leastPot
      split
      · exact ⟨0, rfl, by omega, by omega⟩
      · rw [if_neg (by omega)]
        refine ⟨_, rfl, ?_, ?_⟩
        · have := Int.ediv_nonneg (a := (n - 1) * 10000) (b := 10000 - r) (by omega) (by omega)
          omega
        · have := Int.ediv_le_self (a := (n - 1) * 10000) (10000 - r) (by omega)
          omega
    obtain ⟨m, lp, m0, m1⟩ := lp
    have p00 : pot 0 c h b p q = h * b := by
      have : paid 0 c = 0 := by unfold paid; split <;> omega
      unfold pot caps
      rw [this]
      simp
    have iff0 := shared_iff (B 0 (by omega) (by decide)) n0 lp
    rw [p00] at iff0
    have lg : leastGross c r h b p q n = if m - h * b ≤ 0 then .int 0 else if p = 0 then .none else .int (c + ((m - h * b) * q - 1) / p + 1) := by
      unfold leastGross
      rw [lp]
    rw [lg]
    by_cases hm : m - h * b ≤ 0
    · rw [if_pos hm]
      have : n ≤ sharedOf 0 c r h b p q := iff0.mpr (by omega)
      exact .inr ⟨hr, by omega, 0, rfl, by omega, by decide, this, .inl rfl⟩
    · rw [if_neg hm]
      have h0 : sharedOf 0 c r h b p q < n := by
        have : ¬ n ≤ sharedOf 0 c r h b p q := fun z => by have := iff0.mp z; omega
        omega
      by_cases hp : p = 0
      · rw [if_pos hp]
        exact .inl ⟨.inr ⟨hp, h0⟩, rfl⟩
      · rw [if_neg hp]
        have hq1 : 0 < (m - h * b) * q := Int.mul_pos (by omega) q0
        have hq2 : (m - h * b) * q ≤ 10 ^ 21 * 10 ^ 40 := Int.mul_le_mul (by omega) q1 (by omega) (by decide)
        have hd0 : 0 ≤ ((m - h * b) * q - 1) / p := Int.ediv_nonneg (by omega) p0
        have hd1 := Int.ediv_le_self (a := (m - h * b) * q - 1) p (by omega)
        have ht0 : 0 ≤ c + ((m - h * b) * q - 1) / p + 1 := by omega
        have ht1 : c + ((m - h * b) * q - 1) / p + 1 ≤ 10 ^ 65 := by omega
        have i1 := (shared_iff (B _ ht0 (by omega)) n0 lp).trans (pot_iff ht0 c0 (by omega) q0 (by omega))
        have i2 := (shared_iff (B _ (show 0 ≤ c + ((m - h * b) * q - 1) / p + 1 - 1 by omega) (by omega)) n0 lp).trans (pot_iff (by omega) c0 (by omega) q0 (by omega))
        refine .inr ⟨hr, fun z => hp z.1, _, rfl, ht0, ht1, i1.mpr (Int.le_refl _), .inr ?_⟩
        have : ¬ n ≤ sharedOf (c + ((m - h * b) * q - 1) / p + 1 - 1) c r h b p q := fun z => by have := i2.mp z; omega
        omega
theorem mem7 {α : Type} {x a b c d e f g : α} (h : x ∈ [a, b, c, d, e, f, g]) : x = a ∨ x = b ∨ x = c ∨ x = d ∨ x = e ∨ x = f ∨ x = g := by simpa using h
theorem Sale.sh {g c r h b p q : Int} (s : Sale g c r h b p q) : 0 ≤ sharedOf g c r h b p q ∧ sharedOf g c r h b p q ≤ 10 ^ 13 := by
  have h1 := sale_pot s
  have h2 := caps_le (x := pot g c h b p q) h1.1 s.r0 s.r1 (by decide : (0 : Int) < 10000)
  unfold sharedOf fee
  omega
theorem Sale.zero {g c r h b p q : Int} (s : Sale g c r h b p q) : Sale 0 c r h b p q := ⟨by omega, by omega, s.c0, s.c1, s.r0, s.r1, s.h0, s.h1, s.b0, s.b1, s.p0, s.pq, s.q0, s.q1, s.co⟩
theorem least_iff {c r h b p q n t x : Int} (s : SaleB x c r h b p q) (n0 : 0 ≤ n) (e : leastGross c r h b p q n = .int t) : n ≤ sharedOf x c r h b p q ↔ t ≤ x := by
  unfold leastGross at e
  split at e
  · rename_i m lp
    have i1 := shared_iff s n0 lp
    rw [i1]
    have hb0 : 0 ≤ h * b := Int.mul_nonneg s.h0 s.b0
    have hx := s.g0
    split at e
    · cases e
      have := (B_caps s).1
      unfold pot
      constructor <;> intro _ <;> omega
    · split at e
      · cases e
      · cases e
        have := s.p0
        exact pot_iff s.g0 s.c0 (by omega) s.q0 (by omega)
  · cases e
theorem least_none {c r h b p q n x : Int} (s : SaleB x c r h b p q) (n0 : 0 ≤ n) (e : leastGross c r h b p q n = .none) : sharedOf x c r h b p q < n := by
  unfold leastGross at e
  split at e
  · rename_i m lp
    have i1 := shared_iff s n0 lp
    split at e
    · cases e
    · split at e
      · rename_i hp
        have : pot x c h b p q = h * b := by
          unfold pot caps
          rw [hp, Int.mul_zero, Int.zero_ediv]
          omega
        rw [this] at i1
        have : ¬ n ≤ sharedOf x c r h b p q := fun z => by have := i1.mp z; omega
        omega
      · cases e
  · rename_i lp
    have hr : r = 10000 ∧ n ≠ 0 := by
      unfold leastPot at lp
      split at lp
      · exact absurd rfl (lp 0)
      · split at lp
        · rename_i h1 h2
          exact ⟨h2, h1⟩
        · exact absurd rfl (lp _)
    have : sharedOf x c r h b p q = 0 := by
      unfold sharedOf fee
      rw [hr.1, Int.mul_ediv_cancel _ (by decide)]
      omega
    omega
theorem least_kind {c r h b p q n : Int} : leastGross c r h b p q n = .none ∨ ∃ t, leastGross c r h b p q n = .int t := by
  unfold leastGross
  split
  · split
    · exact .inr ⟨_, rfl⟩
    · split
      · exact .inl rfl
      · exact .inr ⟨_, rfl⟩
  · exact .inl rfl
theorem parts_rise {g k c r h b p q : Int} (s : SaleB g c r h b p q) (s2 : SaleB k c r h b p q) (hk : g ≤ k) :
    paid g c ≤ paid k c ∧ g - paid g c - caps g c p q ≤ k - paid k c - caps k c p q ∧ fee g c r h b p q ≤ fee k c r h b p q ∧ pot g c h b p q - fee g c r h b p q ≤ pot k c h b p q - fee k c r h b p q := by
  have rise : ∀ x y p q : Int, x ≤ y → 0 ≤ p → 0 < q → x * p / q ≤ y * p / q := fun x y p q h0 h1 h2 => Int.ediv_le_ediv h2 (Int.mul_le_mul_of_nonneg_right h0 h1)
  have slow : ∀ x y p q : Int, x ≤ y → 0 ≤ p → p ≤ q → 0 < q → x - x * p / q ≤ y - y * p / q := fun x y p q h0 h1 h2 h3 => by
    have e : y * p = x * p + (y - x) * p := by rw [Int.sub_mul]; omega
    have l : (y - x) * p ≤ (y - x) * q := Int.mul_le_mul_of_nonneg_left h2 (by omega)
    have : y * p / q ≤ (x * p + (y - x) * q) / q := Int.ediv_le_ediv h3 (by omega)
    rw [Int.add_mul_ediv_right _ _ (by omega)] at this
    omega
  have hl : g - paid g c ≤ k - paid k c := by unfold paid; split <;> split <;> omega
  have hc := rise _ _ p q hl s.p0 s.q0
  have hq : pot g c h b p q ≤ pot k c h b p q := by unfold pot caps; omega
  refine ⟨by unfold paid; split <;> split <;> omega, ?_, rise _ _ r 10000 hq s.r0 (by decide), slow _ _ r 10000 hq s.r0 s.r1 (by decide)⟩
  exact slow _ _ p q hl s.p0 s.pq s.q0
theorem is_whole_q (a : PyData) (K : PyData → Prop) : q_is_whole a K = K (.bool (isW a)) := by
  cases a with
  | dict kv => cases kv <;> rfl
  | _ => rfl
theorem divisor_of_q (i j : Int) (K : PyData → Prop) (h : K (.int (Int.gcd i j : Nat))) : q_divisor_of (.int i) (.int j) K := by
  unfold q_divisor_of
  walk_at "q"
  have ea : (if i < 0 then -i else i) = (i.natAbs : Int) := by split <;> omega
  have eb : (if j < 0 then -j else j) = (j.natAbs : Int) := by split <;> omega
  rw [ea, eb]
  refine qWhile_ind (m := j.natAbs) (fun m s => ∃ a b : Int, s = (.int a, .int b) ∧ 0 ≤ a ∧ 0 ≤ b ∧ b.toNat = m ∧ Int.gcd a b = Int.gcd i j) ⟨_, _, rfl, by omega, by omega, by omega, by simp [Int.gcd]⟩ ?_
  rintro m _ nx ⟨a, b, rfl, ha, hb, hm, hg⟩ hn
  unfold qb_divisor_of_1
  walk_at "q"
  refine bIf_d (fun h0 => ?_) fun h0 => ?_
  · walk_at "go"
    have hm1 := Int.emod_lt_of_pos a h0
    have hm0 := Int.emod_nonneg a (by omega : b ≠ 0)
    exact hn (a % b).toNat _ (by omega) ⟨b, a % b, rfl, by omega, hm0, rfl, by rw [gcd_step a b h0 ha]; exact hg⟩
  · have e : b = 0 := by omega
    subst e
    have : Int.gcd a 0 = a.natAbs := Int.gcd_zero_right a
    rw [← hg, this] at h
    have e2 : ((a.natAbs : Nat) : Int) = a := by omega
    rw [e2] at h
    exact h
/-! ### fractions in lowest terms -/
theorem lowest_ok (p q : Int) (hq : q ≠ 0) : ∃ a b : Int, (∀ by_ : Int, by_ = (if q < 0 then 0 - (Int.gcd p q : Int) else Int.gcd p q) → p.fdiv by_ = a ∧ q.fdiv by_ = b ∧ by_ ≠ 0) ∧ 0 < b ∧ Int.gcd a b = 1 ∧ a * q = p * b ∧ a.natAbs ≤ p.natAbs ∧ b.natAbs ≤ q.natAbs := by
  have g0 : 0 < Int.gcd p q := Int.gcd_pos_of_ne_zero_right p hq
  obtain ⟨p', hp⟩ := Int.gcd_dvd_left p q
  obtain ⟨q', hq'⟩ := Int.gcd_dvd_right p q
  generalize hg : Int.gcd p q = g at *
  have g1 : Int.gcd p' q' = 1 := by
    have := Int.gcd_mul_left (g : Int) p' q'
    rw [← hp, ← hq', hg] at this
    have e : g * 1 = g * Int.gcd p' q' := by simpa using this
    exact (Nat.eq_of_mul_eq_mul_left g0 e).symm
  have gi : (g : Int) ≠ 0 := by omega
  have np : p'.natAbs ≤ p.natAbs := by
    conv => rhs; rw [hp]
    rw [Int.natAbs_mul]
    exact Nat.le_mul_of_pos_left _ (by omega)
  have nq : q'.natAbs ≤ q.natAbs := by
    conv => rhs; rw [hq']
    rw [Int.natAbs_mul]
    exact Nat.le_mul_of_pos_left _ (by omega)
  by_cases hn : q < 0
  · refine ⟨-p', -q', fun by_ hb => ?_, ?_, ?_, ?_, by omega, by omega⟩
    · rw [if_pos hn] at hb
      have e1 : p = by_ * -p' := by rw [hb, Int.zero_sub, Int.neg_mul_neg]; exact hp
      have e2 : q = by_ * -q' := by rw [hb, Int.zero_sub, Int.neg_mul_neg]; exact hq'
      have b0 : by_ ≠ 0 := by omega
      refine ⟨?_, ?_, b0⟩
      · rw [e1]; exact Int.mul_fdiv_cancel_left _ b0
      · rw [e2]; exact Int.mul_fdiv_cancel_left _ b0
    · have : ¬ 0 ≤ q' := fun h => by
        have := Int.mul_nonneg (show (0 : Int) ≤ g by omega) h
        omega
      omega
    · rw [Int.neg_gcd, Int.gcd_neg]; exact g1
    · rw [hp, hq', Int.neg_mul, Int.mul_neg]
      congr 1
      rw [← Int.mul_assoc, Int.mul_comm p' g, Int.mul_assoc]
  · refine ⟨p', q', fun by_ hb => ?_, ?_, g1, ?_, np, nq⟩
    · rw [if_neg hn] at hb
      subst hb
      refine ⟨?_, ?_, gi⟩
      · rw [hp]; exact Int.mul_fdiv_cancel_left _ gi
      · rw [hq']; exact Int.mul_fdiv_cancel_left _ gi
    · have : ¬ q' ≤ 0 := fun h => by
        have := Int.mul_nonneg (show (0 : Int) ≤ g by omega) (show 0 ≤ -q' by omega)
        rw [Int.mul_neg] at this
        omega
      omega
    · rw [hp, hq', ← Int.mul_assoc, Int.mul_comm p' g]

theorem gcd_down (i j : Int) : Int.gcd j (i % j) = Int.gcd i j := by
  have e : i = i % j + j * (i / j) := by rw [Int.emod_add_mul_ediv]
  rw [Int.gcd_comm i j]
  conv => rhs; rw [e]
  rw [Int.gcd_add_mul_left_right]
/-- the top, the bottom of p by q, q above 0 -/
def lowN (p q : Int) : Int := p.fdiv (Int.gcd p q : Int)
def lowB (p q : Int) : Int := q.fdiv (Int.gcd p q : Int)
abbrev lowD (p q : Int) : PyData := .tuple [.int (lowN p q), .int (lowB p q)]
structure Low (p q : Int) : Prop where
  b0 : 0 < lowB p q
  b1 : lowB p q ≤ q
  co : Int.gcd (lowN p q) (lowB p q) = 1
  eq : lowN p q * q = p * lowB p q
  n0 : -(p.natAbs : Int) ≤ lowN p q
  n1 : lowN p q ≤ p.natAbs
  g0 : (Int.gcd p q : Int) ≠ 0
  g1 : (Int.gcd p q : Int) ≤ q
theorem low_of (p : Int) {q : Int} (h : 0 < q) : Low p q := by
  obtain ⟨a, b, hb, b0, g1, e, _⟩ := lowest_ok p q (by omega)
  obtain ⟨e1, e2, e3⟩ := hb (Int.gcd p q : Int) (by rw [if_neg (by omega)])
  have gd : (Int.gcd p q : Int) ≤ q := Int.le_of_dvd h (Int.gcd_dvd_right p q)
  have ea : lowN p q = a := e1
  have eb : lowB p q = b := e2
  have g0 : (0 : Int) < (Int.gcd p q : Int) := by omega
  have xa : p = (Int.gcd p q : Int) * a := by
    rw [← e1, Int.mul_fdiv_cancel' (Int.gcd_dvd_left p q)]
  have xb : q = (Int.gcd p q : Int) * b := by
    rw [← e2, Int.mul_fdiv_cancel' (Int.gcd_dvd_right p q)]
  have na : a.natAbs ≤ p.natAbs := by
    conv => rhs; rw [xa]
    rw [Int.natAbs_mul]
    exact Nat.le_mul_of_pos_left _ (by omega)
  refine ⟨by rw [eb]; exact b0, ?_, by rw [ea, eb]; exact g1, by rw [ea, eb]; exact e, by rw [ea]; omega, by rw [ea]; omega, e3, gd⟩
  rw [eb]
  conv => rhs; rw [xb]
  have := Int.mul_le_mul_of_nonneg_right (show (1 : Int) ≤ (Int.gcd p q : Int) by omega) (show 0 ≤ b by omega)
  rwa [Int.one_mul] at this
theorem lowest_q {p q : Int} (hq : 0 < q) (h1 : q ≤ 10 ^ 100) (K : PyData → Prop) (h : K (lowD p q)) : q_lowest (.int p) (.int q) K := by
  unfold q_lowest
  refine divisor_of_q p q _ ?_
  walk_at "q"
  have l := low_of p hq
  have g0 := l.g0
  have g1 := l.g1
  refine bIf_d (fun hn => ?_) fun hn => ?_
  · omega
  · exact ⟨⟨g0, sz_of (by omega) (by omega)⟩, ⟨g0, sz_of (by omega) (by omega)⟩, h⟩
/-! ### the stock of draws: cells, how many are taken, what is left of a great one, how many were mixed, the seed -/
def DrawOk (n : Int) (xs : List PyData) : Prop := ∃ (cs : List Int) (a b c e : Int), xs = [.list (cs.map .int), .int a, .int b, .int c, .int e] ∧ 0 ≤ a ∧ 0 ≤ c ∧ c ≤ n ∧ 0 ≤ e ∧ e < 1000000007
theorem DrawOk.mono {n m : Int} {xs : List PyData} (h : DrawOk n xs) (e : n ≤ m) : DrawOk m xs := by
  obtain ⟨cs, a, b, c, d, h1, h2, h3, h4, h5⟩ := h
  exact ⟨cs, a, b, c, d, h1, h2, h3, by omega, h5⟩
theorem cut_ints (ns : List Int) (lo hi : Option Int) : ∃ ms : List Int, DL.cutD (ns.map .int) lo hi = ms.map .int := by
  unfold DL.cutD
  exact ⟨(ns.drop _).take _, by rw [List.map_take, List.map_drop]⟩
theorem law_pot_of_q (ns : List Int) (K : List PyData → Prop) (h : ∀ xs, DrawOk 0 xs → K xs) : q_law_pot_of (.list (ns.map .int)) K := by
  unfold q_law_pot_of
  walk_at "q"
  obtain ⟨ms, e⟩ := cut_ints ns none (some 63)
  rw [e]
  exact h _ ⟨ms, 0, 0, 0, 29, rfl, by decide, by decide, by decide, by decide, by decide⟩
theorem prime_mem {d : PyData} (h : d ∈ [PyData.int 2147483647, .int 2147483629, .int 2147483587, .int 2147483579, .int 2147483563, .int 2147483549, .int 2147483543]) : ∃ p : Int, d = .int p ∧ 0 < p ∧ p ≤ 2147483647 := by
  simp only [List.mem_cons, List.not_mem_nil, or_false] at h
  rcases h with rfl | rfl | rfl | rfl | rfl | rfl | rfl <;> exact ⟨_, rfl, by decide, by decide⟩
theorem law_mixed_q {s t : Int} (s0 : 0 ≤ s) (s1 : s < 1000000007) (t0 : 0 ≤ t) (t1 : t ≤ 10 ^ 6) (K : PyData → Prop) (h : ∀ r : Int, K (.int r)) : q_law_mixed (.int s) (.int t) K := by
  unfold q_law_mixed
  walk_at "go"
  refine pick_mem (Int.emod_nonneg _ (by decide)) (by have := Int.emod_lt_of_pos t (by decide : (0 : Int) < 7); simpa using this) fun d hd => ?_
  obtain ⟨p, rfl, p0, p1⟩ := prime_mem hd
  walk_at "q"
  refine ⟨p0, ?_⟩
  have b0 := Int.emod_nonneg ((s + 130363 * t + 1) ^ Int.toNat 3) (by omega : p ≠ 0)
  have b1 := Int.emod_lt_of_pos ((s + 130363 * t + 1) ^ Int.toNat 3) p0
  generalize (s + 130363 * t + 1) ^ Int.toNat 3 % p = A at b0 b1 ⊢
  have q0 : 0 ≤ 6301 * t * t := Int.mul_nonneg (by omega) t0
  have q1 : 6301 * t * t ≤ 6301 * 10 ^ 6 * 10 ^ 6 := Int.mul_le_mul (by omega) t1 t0 (by decide)
  have c0 := Int.emod_nonneg s (by decide : (65537 : Int) ≠ 0)
  have c1 := Int.emod_lt_of_pos s (by decide : (0 : Int) < 65537)
  generalize 6301 * t * t = B at q0 q1 ⊢
  walk_at "go"
  refine pick_mem (Int.emod_nonneg _ (by decide)) (by have := Int.emod_lt_of_pos (t + 3) (by decide : (0 : Int) < 7); simpa using this) fun d hd => ?_
  obtain ⟨p', rfl, p0', p1'⟩ := prime_mem hd
  walk_at "q"
  refine ⟨p0', ?_⟩
  generalize hC : (A * 69621 + B + s % 65537 + 11) ^ Int.toNat 5 % p' = C
  have d0 := Int.emod_nonneg ((A * 69621 + B + s % 65537 + 11) ^ Int.toNat 5) (by omega : p' ≠ 0)
  have d1 := Int.emod_lt_of_pos ((A * 69621 + B + s % 65537 + 11) ^ Int.toNat 5) p0'
  rw [hC] at d0 d1
  walk_at "go"
  refine pick_mem (Int.emod_nonneg _ (by decide)) (by have := Int.emod_lt_of_pos (t + 5) (by decide : (0 : Int) < 7); simpa using this) fun d hd => ?_
  obtain ⟨p2, rfl, p02, p12⟩ := prime_mem hd
  walk_at "go"
  exact h _
theorem law_draw_q {n m : Int} {xs : List PyData} (hp : DrawOk n xs) (hn : n ≤ 10 ^ 5) (m0 : 0 < m) (m1 : m ≤ 10 ^ 60) (K : PyData → List PyData → Prop) (h : ∀ r xs', 0 ≤ r → r < m → DrawOk (n + 1) xs' → K (.int r) xs') : q_law_draw xs (.int m) K := by
  obtain ⟨cs, a, b, c, e, rfl, a0, c0, c1, e0, e1⟩ := hp
  have fin : ∀ a b e : Int, 0 ≤ a → 0 ≤ e → e < 1000000007 → (bIf (decide (0 < b))
      ((0 < m) ∧ (0 < m ∧ Sz m) ∧ K (.int (b % m)) [.list (cs.map .int), .int a, .int (b / m), .int c, .int e])
      (q_law_mixed (.int e) (.int (c + 1)) fun m41 => oMod m41 (.int m) fun t42 => K t42 [.list (cs.map .int), .int a, .int b, .int (c + 1), .int e])) := fun a b e a0 e0 e1 => by
    refine bIf_d (fun h0 => ?_) fun h0 => ?_
    · walk_at "sides"
      exact h _ _ (Int.emod_nonneg _ (by omega)) (Int.emod_lt_of_pos _ m0) ⟨cs, _, _, _, _, rfl, a0, c0, by omega, e0, e1⟩
    · refine law_mixed_q e0 e1 (by omega) (by omega) _ fun r => ?_
      walk_at "go"
      exact h _ _ (Int.emod_nonneg _ (by omega)) (Int.emod_lt_of_pos _ m0) ⟨cs, _, _, _, _, rfl, a0, by omega, by omega, e0, e1⟩
  unfold q_law_draw
  walk_at "q"
  refine bIf_of (fun hb => ?_) fun _ => fin a b e a0 e0 e1
  rw [Bool.and_eq_true, decide_eq_true_eq, decide_eq_true_eq] at hb
  refine pick_mem a0 (by simpa using hb.2) fun d hd => ?_
  obtain ⟨v, _, rfl⟩ := List.mem_map.mp hd
  walk_at "go"
  have f0 := Int.emod_nonneg (e * 31 + v) (by decide : (1000000007 : Int) ≠ 0)
  have f1 := Int.emod_lt_of_pos (e * 31 + v) (by decide : (0 : Int) < 1000000007)
  refine bIf_d (fun _ => ?_) fun _ => ?_
  · exact fin _ v _ (by omega) f0 f1
  · exact fin _ b _ (by omega) f0 f1
/-! ### what a log is -/
def hourOf : PyData → Int
  | .tuple (.int h :: _) => h
  | _ => 0
def isFar : PyData → Bool
  | .int i => decide ((if i < 0 then -i else i) ≤ 10000)
  | _ => false
def isRow : PyData → Bool
  | .tuple [h, x, y] => isIn h 0 100000 && (isFar x && isFar y)
  | _ => false
/-- rows, each behind the one ahead -/
def rowsFrom : Int → List PyData → Bool
  | _, [] => true
  | l, r :: rs => isRow r && (decide (l < hourOf r) && rowsFrom (hourOf r) rs)
def isLog : PyData → Bool
  | .tuple xs => decide (1 ≤ xs.length) && decide (xs.length ≤ 20) && rowsFrom (-1) xs
  | _ => false
theorem isRow_inv {d : PyData} (h : isRow d = true) : ∃ h x y : Int, d = .tuple [.int h, .int x, .int y] ∧ 0 ≤ h ∧ h ≤ 100000 := by
  unfold isRow at h
  split at h
  · rename_i a b c
    simp only [Bool.and_eq_true] at h
    obtain ⟨h1, h2, h3⟩ := h
    cases a <;> simp only [isIn, Bool.and_eq_true, decide_eq_true_eq, Bool.false_eq_true] at h1
    cases b <;> simp only [isFar, Bool.false_eq_true] at h2
    cases c <;> simp only [isFar, Bool.false_eq_true] at h3
    exact ⟨_, _, _, rfl, h1.1, h1.2⟩
  · cases h
theorem rows_split : ∀ (l : Int) (xs : List PyData), l < 0 ∨ xs = [] ∨ True → rowsFrom l xs = (xs.all isRow && ((xs.head?.all fun r => decide (l < hourOf r)) && (zipD xs (xs.drop 1)).all fun d => match d with | .tuple [a, b] => decide (hourOf a < hourOf b) | _ => false))
  | _, [], _ => rfl
  | l, [r], _ => by simp [rowsFrom, zipD]
  | l, r :: r2 :: rs, _ => by
    have := rows_split (hourOf r) (r2 :: rs) (.inr (.inr trivial))
    rw [rowsFrom, this]
    simp only [List.all_cons, List.drop_succ_cons, List.drop_zero, List.head?_cons, Option.all_some, zipD]
    cases isRow r <;> cases isRow r2 <;> cases rs.all isRow <;> cases decide (l < hourOf r) <;> cases decide (hourOf r < hourOf r2) <;> rfl
theorem is_hour_q (a : PyData) (K : PyData → Prop) : q_is_hour a K = K (.bool (isIn a 0 100000)) := by
  unfold q_is_hour
  simp only [is_whole_q]
  cases a <;> simp only [isW, isIn] <;> walk_at "q"
theorem is_log_row_q (a : PyData) (K : PyData → Prop) (h : K (.bool (isRow a))) : q_is_log_row a K := by
  unfold q_is_log_row
  cases a with
  | tuple xs =>
    walk_at "q"
    by_cases hn : (xs.length : Int) = 3
    · rw [decide_eq_true hn]
      walk_at "q"
      match xs, hn, h with
      | [a, b, c], _, h =>
        walk_at "q"
        rw [is_hour_q]
        walk_at "q"
        cases e : isIn a 0 100000 with
        | false =>
          walk_at "q"
          simpa only [isRow, e, Bool.false_and] using h
        | true =>
          walk_at "q"
          simp only [cut1]
          refine qLc_map (fun d => .bool (isFar d)) (by simp) (fun d hd sk yd hy => ?_) ?_
          · unfold qb_is_log_row_1
            rw [is_whole_q]
            cases d <;> simp only [isW] <;> walk_at "q" <;> exact hy
          · walk_at "q"
            simpa only [isRow, e, Bool.true_and, List.all_cons, List.all_nil, Bool.and_true] using h
    · rw [decide_eq_false hn]
      walk_at "q"
      have e : isRow (.tuple xs) = false := by
        unfold isRow
        split
        · rename_i e
          cases e
          exact absurd rfl hn
        · rfl
      rwa [e] at h
  | dict kv => cases kv <;> exact h
  | _ => walk_at "q"; exact h
theorem is_log_q (a : PyData) (K : PyData → Prop) (h : K (.bool (isLog a))) : q_is_log a K := by
  unfold q_is_log
  cases a with
  | tuple xs =>
    walk_at "q"
    by_cases hn : decide (1 ≤ (xs.length : Int)) && decide ((xs.length : Int) ≤ 20)
    · rw [hn]
      simp only [Bool.and_eq_true, decide_eq_true_eq] at hn
      walk_at "q"
      refine qLc_map (fun d => .bool (isRow d)) (by omega) (fun d hd sk yd hy => by unfold qb_is_log_1; exact is_log_row_q d _ hy) ?_
      walk_at "q"
      have e0 : isLog (.tuple xs) = rowsFrom (-1) xs := by
        simp only [isLog, decide_eq_true (show 1 ≤ xs.length by omega), decide_eq_true (show xs.length ≤ 20 by omega), Bool.true_and]
      rw [e0, rows_split _ _ (.inl (by decide))] at h
      cases ea : xs.all isRow with
      | false =>
        walk_at "q"
        simpa only [ea, Bool.false_and] using h
      | true =>
        walk_at "q"
        have ec : DL.cutD xs (some 1) none = xs.drop 1 := by
          match xs, hn with
          | a :: l, _ => rw [cut1]; rfl
        rw [ec]
        walk_at "q"
        have hr : ∀ d ∈ xs, isRow d = true := List.all_eq_true.mp ea
        refine qLc_map (fun d => .bool (match d with | .tuple [a, b] => decide (hourOf a < hourOf b) | _ => false)) (by rw [zipD_length]; omega) (fun d hd sk yd hy => ?_) ?_
        · obtain ⟨i, hi⟩ := List.mem_iff_getElem?.mp hd
          obtain ⟨x, y, e1, e2, rfl⟩ := zipD_get hi
          obtain ⟨h1, _, _, rfl, _⟩ := isRow_inv (hr x (List.mem_of_getElem? e1))
          obtain ⟨h2, _, _, rfl, _⟩ := isRow_inv (hr y (List.mem_of_mem_drop (List.mem_of_getElem? e2)))
          unfold qb_is_log_2
          walk_at "q"
          exact hy
        · rw [q_allB]
          have eh : (xs.head?.all fun r => decide (-1 < hourOf r)) = true := by
            match xs, hr with
            | [], _ => rfl
            | a :: l, hr =>
              obtain ⟨h1, _, _, rfl, h0, _⟩ := isRow_inv (hr a List.mem_cons_self)
              simp only [List.head?_cons, Option.all_some, hourOf]
              exact decide_eq_true (by omega)
          rw [eh] at h
          simpa only [ea, Bool.true_and] using h
    · rw [Bool.not_eq_true] at hn
      rw [hn]
      walk_at "q"
      have e0 : isLog (.tuple xs) = false := by
        have : (decide (1 ≤ xs.length) && decide (xs.length ≤ 20)) = false := by
          rw [← hn]
          congr 1 <;> exact decide_eq_decide.mpr (by omega)
        simp only [isLog, this, Bool.false_and]
      rwa [e0] at h
  | dict kv => cases kv <;> exact h
  | _ => walk_at "q"; exact h
theorem law_plain_q (a : PyData) (K : PyData → Prop) : q_law_plain a K = K (.bool (isW a)) := by
  cases a with
  | dict kv => cases kv <;> rfl
  | _ => rfl
theorem law_is_log_q (a : PyData) (K : PyData → Prop) (hK : K (.bool (isLog a))) : q_law_is_log a K := by
  unfold q_law_is_log
  cases a with
  | tuple xs =>
    walk_at "q"
    by_cases hn : decide (1 ≤ (xs.length : Int)) && decide ((xs.length : Int) ≤ 20)
    · rw [hn]
      simp only [Bool.and_eq_true, decide_eq_true_eq] at hn
      walk_at "q"
      have e0 : isLog (.tuple xs) = rowsFrom (-1) xs := by
        simp only [isLog, decide_eq_true (show 1 ≤ xs.length by omega), decide_eq_true (show xs.length ≤ 20 by omega), Bool.true_and]
      rw [e0] at hK
      clear e0 hn
      have go : ∀ (rs : List PyData) (l : Int), -1 ≤ l → K (.bool (rowsFrom l rs)) → qFor (qb_law_is_log_1 K) () rs (.int l) fun _ => K (.bool true) := by
        intro rs
        induction rs with
        | nil => exact fun l _ h => h
        | cons r rs ih =>
          intro l hl h
          rw [qFor]
          generalize hN : (same () fun s => qFor (qb_law_is_log_1 K) () rs s fun _ => K (.bool true)) = N
          unfold qb_law_is_log_1
          have no : isRow r = false → K (.bool false) := fun e => by simpa only [rowsFrom, e, Bool.false_and] using h
          cases r with
          | tuple ys =>
            walk_at "q"
            by_cases h3 : (ys.length : Int) = 3
            · rw [decide_eq_true h3]
              walk_at "q"
              match ys, h3, h, no with
              | [a, b, c], _, h, no =>
                refine qLc_fmap (fun d => if isW d then none else some d) (by simp) (fun d hd sk yd hy hs => ?_) ?_
                · unfold qb_law_is_log_2
                  rw [law_plain_q]
                  cases e : isW d <;> walk_at "q"
                  · exact hy _ (by rw [e]; rfl)
                  · exact hs (by rw [e]; rfl)
                · walk_at "q"
                  by_cases hw : isW a = true ∧ isW b = true ∧ isW c = true
                  · obtain ⟨wa, wb, wc⟩ := hw
                    cases a <;> simp only [isW, Bool.false_eq_true] at wa
                    cases b <;> simp only [isW, Bool.false_eq_true] at wb
                    cases c <;> simp only [isW, Bool.false_eq_true] at wc
                    rename_i a b c _
                    simp only [List.filterMap_cons, List.filterMap_nil, isW, if_true]
                    walk_at "q"
                    have z := sz_of (i := 10) (by decide) (by decide)
                    have side : (Sz 10 ∧ 0 ≤ (4 : Int) ∧ (4 : Int) ≤ 10000) := ⟨z, by decide, by decide⟩
                    have side2 : (Sz 10 ∧ 0 ≤ (5 : Int) ∧ (5 : Int) ≤ 10000) := ⟨z, by decide, by decide⟩
                    simp only [side, side2, true_and, implies_true]
                    have e5 : (10 : Int) ^ Int.toNat 5 = 100000 := by decide
                    have e4 : (10 : Int) ^ Int.toNat 4 = 10000 := by decide
                    simp only [e4, e5]
                    have eb : (decide ((10000 : Int) < if b < 0 then -b else b)) = !isFar (.int b) := by
                      unfold isFar
                      rw [← decide_not]
                      exact decide_eq_decide.mpr (by omega)
                    have ec : (decide ((10000 : Int) < if c < 0 then -c else c)) = !isFar (.int c) := by
                      unfold isFar
                      rw [← decide_not]
                      exact decide_eq_decide.mpr (by omega)
                    rw [eb, ec]
                    have er : rowsFrom l (.tuple [.int a, .int b, .int c] :: rs) = (decide (0 ≤ a) && decide (a ≤ 100000) && (isFar (.int b) && isFar (.int c)) && (decide (l < a) && rowsFrom a rs)) := rfl
                    rw [er] at h
                    by_cases h1 : l < a
                    · have h0 : 0 ≤ a := by omega
                      rw [decide_eq_true h1, decide_eq_true h0] at h
                      rw [decide_eq_true h1]
                      cases e1 : decide (a ≤ 100000) <;> cases e2 : isFar (.int b) <;> cases e3 : isFar (.int c) <;> rw [e1, e2, e3] at h <;> walk_at "q" <;> first | exact h | skip
                      rw [← hN]
                      exact ⟨rfl, ih a (by omega) h⟩
                    · rw [decide_eq_false h1] at h ⊢
                      walk_at "q"
                      simpa using h
                  · have ne : (List.filterMap (fun d => if isW d then none else some d) [a, b, c]).isEmpty = false := by
                      cases e1 : isW a <;> cases e2 : isW b <;> cases e3 : isW c <;> simp [List.filterMap_cons, e1, e2, e3] at hw ⊢
                    rw [ne]
                    walk_at "q"
                    refine no ?_
                    cases er : isRow (.tuple [a, b, c]) with
                    | false => rfl
                    | true =>
                      obtain ⟨_, _, _, e, _⟩ := isRow_inv er
                      cases e
                      exact absurd ⟨rfl, rfl, rfl⟩ hw
            · rw [decide_eq_false h3]
              walk_at "q"
              refine no ?_
              cases er : isRow (.tuple ys) with
              | false => rfl
              | true =>
                obtain ⟨_, _, _, e, _⟩ := isRow_inv er
                cases e
                exact absurd rfl h3
          | dict kv => cases kv <;> exact no rfl
          | _ => walk_at "q"; exact no rfl
      exact go xs (-1) (by decide) hK
    · rw [Bool.not_eq_true] at hn
      rw [hn]
      walk_at "q"
      have e0 : isLog (.tuple xs) = false := by
        have : (decide (1 ≤ xs.length) && decide (xs.length ≤ 20)) = false := by
          rw [← hn]
          congr 1 <;> exact decide_eq_decide.mpr (by omega)
        simp only [isLog, this, Bool.false_and]
      rwa [e0] at hK
  | dict kv => cases kv <;> exact hK
  | _ => walk_at "q"; exact hK
/-! ### logs as rows of three whole numbers -/
structure Rw where
  h : Int
  x : Int
  y : Int
def rowD (r : Rw) : PyData := .tuple [.int r.h, .int r.x, .int r.y]
structure RowOk (r : Rw) : Prop where
  h0 : 0 ≤ r.h
  h1 : r.h ≤ 100000
  x0 : -10000 ≤ r.x
  x1 : r.x ≤ 10000
  y0 : -10000 ≤ r.y
  y1 : r.y ≤ 10000
theorem rowOk {h x y : Int} (h0 : 0 ≤ h) (h1 : h ≤ 100000) (x0 : -10000 ≤ x) (x1 : x ≤ 10000) (y0 : -10000 ≤ y) (y1 : y ≤ 10000) : RowOk ⟨h, x, y⟩ := ⟨h0, h1, x0, x1, y0, y1⟩
def Rises (rs : List Rw) : Prop := rs.Pairwise fun a b => a.h < b.h
structure LogOk (rs : List Rw) : Prop where
  n0 : 1 ≤ rs.length
  n1 : rs.length ≤ 20
  ok : ∀ r ∈ rs, RowOk r
  up : Rises rs
abbrev logD (rs : List Rw) : PyData := .tuple (rs.map rowD)
theorem isFar_iff {i : Int} : isFar (.int i) = true ↔ -10000 ≤ i ∧ i ≤ 10000 := by
  unfold isFar
  rw [decide_eq_true_eq]
  split <;> omega
theorem isRow_iff {r : Rw} : isRow (rowD r) = true ↔ RowOk r := by
  unfold isRow rowD
  simp only [Bool.and_eq_true, isFar_iff, isIn, decide_eq_true_eq]
  exact ⟨fun ⟨⟨h1, h2⟩, ⟨h3, h4⟩, h5, h6⟩ => ⟨h1, h2, h3, h4, h5, h6⟩, fun h => ⟨⟨h.h0, h.h1⟩, ⟨h.x0, h.x1⟩, h.y0, h.y1⟩⟩
theorem rows_of : ∀ (rs : List Rw) (l : Int), (∀ r ∈ rs, RowOk r ∧ l < r.h) → Rises rs → rowsFrom l (rs.map rowD) = true
  | [], _, _, _ => rfl
  | r :: rs, l, h, u => by
    obtain ⟨u1, u2⟩ := List.pairwise_cons.mp u
    rw [List.map_cons, rowsFrom, isRow_iff.mpr (h r (by simp)).1]
    have e : hourOf (rowD r) = r.h := rfl
    rw [e, decide_eq_true (h r (by simp)).2, rows_of rs r.h (fun q hq => ⟨(h q (by simp [hq])).1, u1 q hq⟩) u2]
    rfl
theorem LogOk.is {rs : List Rw} (h : LogOk rs) : isLog (logD rs) = true := by
  have e : isLog (logD rs) = (decide (1 ≤ (rs.map rowD).length) && decide ((rs.map rowD).length ≤ 20) && rowsFrom (-1) (rs.map rowD)) := rfl
  rw [e, List.length_map, decide_eq_true h.n0, decide_eq_true h.n1, rows_of rs (-1) (fun r hr => ⟨h.ok r hr, by have := (h.ok r hr).h0; omega⟩) h.up]
  rfl
theorem row_get {rs : List Rw} {i : Nat} {d : PyData} (h : (rs.map rowD)[i]? = some d) : ∃ r, rs[i]? = some r ∧ d = rowD r := by
  rw [List.getElem?_map] at h
  cases e : rs[i]? with
  | none => rw [e] at h; cases h
  | some r => rw [e] at h; cases h; exact ⟨r, rfl, rfl⟩
theorem Rises.lt {rs : List Rw} (u : Rises rs) {i j : Nat} {a b : Rw} (ha : rs[i]? = some a) (hb : rs[j]? = some b) (h : i < j) : a.h < b.h := by
  obtain ⟨h1, rfl⟩ := List.getElem?_eq_some_iff.mp ha
  obtain ⟨h2, rfl⟩ := List.getElem?_eq_some_iff.mp hb
  exact List.pairwise_iff_getElem.mp u i j h1 h2 h
theorem Rises.le {rs : List Rw} (u : Rises rs) {i j : Nat} {a b : Rw} (ha : rs[i]? = some a) (hb : rs[j]? = some b) (h : i ≤ j) : a.h ≤ b.h := by
  rcases Nat.lt_or_eq_of_le h with h | rfl
  · exact Int.le_of_lt (u.lt ha hb h)
  · rw [ha] at hb
    cases hb
    exact Int.le_refl _
theorem rises_of {rs : List Rw} (h : ∀ (i j : Nat) (a b : Rw), rs[i]? = some a → rs[j]? = some b → i < j → a.h < b.h) : Rises rs :=
  List.pairwise_iff_getElem.mpr fun i j hi hj e => h i j _ _ (by simp [hi]) (by simp [hj]) e
theorem Rises.push {rs : List Rw} (u : Rises rs) {r : Rw} (h : ∀ q ∈ rs, q.h < r.h) : Rises (rs ++ [r]) :=
  List.pairwise_append.mpr ⟨u, List.pairwise_singleton _ _, fun a ha b hb => by rw [List.mem_singleton.mp hb]; exact h a ha⟩
/-- the first row, the last row -/
theorem LogOk.first {rs : List Rw} (h : 1 ≤ rs.length) : ∃ r, rs[0]? = some r ∧ r ∈ rs ∧ ∀ P : PyData → Prop, pick (rs.map rowD) 0 P = P (.tuple [.int r.h, .int r.x, .int r.y]) := by
  cases rs with
  | nil => simp at h
  | cons r rs => exact ⟨r, rfl, by simp, fun P => at0⟩
theorem LogOk.last {rs : List Rw} (h : 1 ≤ rs.length) : ∃ r, rs[rs.length - 1]? = some r ∧ r ∈ rs ∧ ∀ P : PyData → Prop, pick (rs.map rowD) (-1) P = P (.tuple [.int r.h, .int r.x, .int r.y]) := by
  have hne : rs ≠ [] := fun e => by rw [e] at h; simp at h
  have e := List.dropLast_concat_getLast hne
  refine ⟨rs.getLast hne, ?_, List.getLast_mem hne, fun P => ?_⟩
  · rw [List.getLast_eq_getElem]
    simp
  · have e2 : rs.map rowD = rs.dropLast.map rowD ++ [rowD (rs.getLast hne)] := by
      rw [← List.map_singleton, ← List.map_append, e]
    rw [e2]
    exact atLast
theorem pick_idx {xs : List PyData} {k : Int} {P : PyData → Prop} (h0 : 0 ≤ k) (h1 : k < xs.length) (h : ∀ (j : Nat) d, xs[j]? = some d → k = j → P d) : pick xs k P := by
  obtain ⟨n, rfl⟩ := Int.eq_ofNat_of_zero_le h0
  have hn : n < xs.length := by omega
  refine pick_at (d := xs[n]) (by simp [hn]) (h n _ (by simp [hn]) rfl)
/-- a number between two, by parts of a way -/
theorem mix_in {a c g o : Int} (a0 : -10000 ≤ a) (a1 : a ≤ 10000) (c0 : -10000 ≤ c) (c1 : c ≤ 10000) (o0 : 0 ≤ o) (o1 : o ≤ g) : -(10000 * g) ≤ a * g + (c - a) * o ∧ a * g + (c - a) * o ≤ 10000 * g := by
  have e : a * g + (c - a) * o = a * (g - o) + c * o := by rw [Int.sub_mul, Int.mul_sub]; omega
  have h1 : a * (g - o) ≤ 10000 * (g - o) := Int.mul_le_mul_of_nonneg_right a1 (by omega)
  have h2 : -10000 * (g - o) ≤ a * (g - o) := Int.mul_le_mul_of_nonneg_right a0 (by omega)
  have h3 : c * o ≤ 10000 * o := Int.mul_le_mul_of_nonneg_right c1 o0
  have h4 : -10000 * o ≤ c * o := Int.mul_le_mul_of_nonneg_right c0 o0
  rw [e]
  omega
theorem mix_div {a c g o : Int} (a0 : -10000 ≤ a) (a1 : a ≤ 10000) (c0 : -10000 ≤ c) (c1 : c ≤ 10000) (o0 : 0 ≤ o) (o1 : o ≤ g) (g0 : 0 < g) : -10000 ≤ (a * g + (c - a) * o) / g ∧ (a * g + (c - a) * o) / g ≤ 10000 := by
  obtain ⟨h1, h2⟩ := mix_in a0 a1 c0 c1 o0 o1
  exact ⟨Int.le_ediv_of_mul_le g0 (by rw [Int.neg_mul]; exact h1), Int.ediv_le_of_le_mul g0 h2⟩
theorem need_log_q {rs : List Rw} (h : LogOk rs) (K : PyData → Prop) (hK : K .none) : q_need_log (logD rs) K := by
  unfold q_need_log
  refine is_log_q _ _ ?_
  rw [h.is]
  walk_at "q"
  exact hK
theorem need_chase_q {l h : Int} (l0 : 0 ≤ l) (lh : l ≤ h) (h1 : h ≤ 100000) (K : PyData → Prop) (hK : K .none) : q_need_chase (.int l) (.int h) K := by
  unfold q_need_chase
  rw [is_hour_q]
  have e1 : isIn (.int l) 0 100000 = true := by simp only [isIn, Bool.and_eq_true, decide_eq_true_eq]; omega
  have e2 : isIn (.int h) 0 100000 = true := by simp only [isIn, Bool.and_eq_true, decide_eq_true_eq]; omega
  rw [e1]
  walk_at "q"
  rw [is_hour_q, e2]
  walk_at "q"
  rw [decide_eq_false (by omega)]
  walk_at "q"
  exact hK
theorem law_log_q {n : Int} {xs : List PyData} (hp : DrawOk n xs) (hn : n ≤ 10 ^ 4) {m : Int} (m0 : 1 ≤ m) (m1 : m ≤ 20) (K : PyData → List PyData → Prop) (h : ∀ rs xs', LogOk rs → DrawOk (n + 100) xs' → K (logD rs) xs') : q_law_log xs (.int m) K := by
  unfold q_law_log
  have z := sz_of (i := 10) (by decide) (by decide)
  refine law_draw_q hp (by omega) (by omega) (by omega) _ fun d1 xs d10 d11 hp => ?_
  walk_at "q"
  refine law_draw_q hp (by omega) (by decide) (by decide) _ fun w xs w0 w1 hp => ?_
  walk_at "q"
  refine pick_mem w0 (by simpa using w1) fun d hd => ?_
  obtain ⟨many, rfl, c0, c1⟩ : ∃ c : Int, d = .int c ∧ 1 ≤ c ∧ c ≤ 20 := by
    rcases mem4 hd with rfl | rfl | rfl | rfl <;> exact ⟨_, rfl, by omega, by omega⟩
  clear hd
  refine law_draw_q hp (by omega) (by decide) (by decide) _ fun w xs w0 w1 hp => ?_
  walk_at "q"
  refine pick_mem w0 (by simpa using w1) fun d hd => ?_
  obtain ⟨gap, rfl, g0, g1⟩ : ∃ c : Int, d = .int c ∧ 1 ≤ c ∧ c ≤ 5000 := by
    rcases mem4 hd with rfl | rfl | rfl | rfl <;> exact ⟨_, rfl, by omega, by omega⟩
  clear hd
  walk_at "go"
  refine law_draw_q hp (by omega) (by decide) (by decide) _ fun w xs w0 w1 hp => ?_
  walk_at "q"
  refine pick_mem w0 (by simpa using w1) fun d hd => ?_
  obtain ⟨far, rfl, f0, f1⟩ : ∃ c : Int, d = .int c ∧ 1 ≤ c ∧ c ≤ 10000 := by
    rcases mem3 hd with rfl | rfl | rfl <;> exact ⟨_, rfl, by decide, by decide⟩
  clear hd
  refine law_draw_q hp (by omega) (by decide) (by decide) _ fun d14 xs a0 a1 hp => ?_
  walk_at "go"
  have mg : many * gap ≤ 20 * 5000 := Int.mul_le_mul c1 g1 (by omega) (by decide)
  have mg1 : (many - 1) * gap ≤ 19 * 5000 := Int.mul_le_mul (by omega) g1 (by omega) (by decide)
  have mg2 : (many - 1) * gap = many * gap - gap := by rw [Int.sub_mul, Int.one_mul]
  have mg0 : 0 ≤ many * gap := Int.mul_nonneg (by omega) (by omega)
  have e5 : (10 : Int) ^ Int.toNat 5 = 100000 := by decide
  refine law_draw_q hp (by omega) (by rw [e5]; omega) (by rw [e5]; omega) _ fun d20 xs b0 b1 hp => ?_
  rw [e5] at b1
  refine law_draw_q hp (by omega) (by decide) (by decide) _ fun w xs w0 w1 hp => ?_
  walk_at "q"
  refine pick_mem w0 (by simpa using w1) fun d hd => ?_
  obtain ⟨hour, rfl, s0, s1⟩ : ∃ c : Int, d = .int c ∧ 0 ≤ c ∧ c + (many - 1) * gap ≤ 100000 := by
    rcases mem3 hd with rfl | rfl | rfl <;> exact ⟨_, rfl, by omega, by omega⟩
  clear hd
  walk_at "sides"
  refine qFor_range (fun k s => ∃ (xs : List PyData) (hr : Int) (rs : List Rw), s = (xs, .int hr, rs.map rowD) ∧ rs.length = k ∧ DrawOk (n + 7 + 3 * k) xs ∧ (∀ r ∈ rs, RowOk r ∧ r.h < hr) ∧ Rises rs ∧ 0 ≤ hr ∧ hr ≤ hour + (k : Int) * gap)
    ⟨_, hour, [], rfl, rfl, hp.mono (by omega), fun _ z => by simp at z, List.Pairwise.nil, s0, by simp⟩ (fun k s nx hk ⟨xs, hr, rs, e, hl, hp, hi, hu, t0, t1⟩ hnx => ?_) fun s ⟨xs, hr, rs, e, hl, hp, hi, hu, t0, t1⟩ => ?_
  · subst e
    have hk1 : (k : Int) * gap ≤ (many - 1) * gap := Int.mul_le_mul_of_nonneg_right (by omega) (by omega)
    unfold qb_law_log_1
    walk_at "go"
    refine law_draw_q hp (by omega) (by omega) (by omega) _ fun a xs a0 a1 hp => ?_
    walk_at "go"
    refine law_draw_q hp (by omega) (by omega) (by omega) _ fun b xs b0 b1 hp => ?_
    walk_at "go"
    refine law_draw_q hp (by omega) (by omega) (by omega) _ fun c xs c0 c1 hp => ?_
    walk_at "q"
    refine hnx _ ⟨_, hr + 1 + c, rs ++ [⟨hr, a - far, b - far⟩], by simp [rowD], by simp [hl], hp.mono (by omega), fun r hm => ?_, hu.push fun q hq => (hi q hq).2, by omega, ?_⟩
    · rcases List.mem_append.mp hm with hm | hm
      · have := hi r hm
        exact ⟨this.1, by omega⟩
      · rw [List.mem_singleton.mp hm]
        exact ⟨⟨t0, by show hr ≤ _; omega, by show -10000 ≤ a - far; omega, by show a - far ≤ _; omega, by show -10000 ≤ b - far; omega, by show b - far ≤ _; omega⟩, by show hr < _; omega⟩
    · have e : ((k + 1 : Nat) : Int) * gap = (k : Int) * gap + gap := by rw [Int.natCast_add, Int.add_mul]; simp
      rw [e]
      omega
  · subst e
    exact h rs _ ⟨by omega, by omega, fun r hr => (hi r hr).1, hu⟩ (hp.mono (by omega))
theorem law_spot_q {rs : List Rw} (hr : LogOk rs) {top bot : Int} (b0 : 0 < bot) (b1 : bot ≤ 10 ^ 20) (t1 : top ≤ 10 ^ 60) (t0 : -(10 ^ 60) ≤ top) (K : PyData → Prop)
    (h1 : ∀ a c, rs[0]? = some a → rs[rs.length - 1]? = some c → top < a.h * bot ∨ c.h * bot < top → K .none)
    (h2 : ∀ (i : Nat) a c, rs[i]? = some a → rs[i + 1]? = some c → a.h * bot ≤ top → top ≤ c.h * bot → (0 < i → a.h * bot < top) →
      K (.tuple [.int (a.x * ((c.h - a.h) * bot) + (c.x - a.x) * (top - a.h * bot)), .int (a.y * ((c.h - a.h) * bot) + (c.y - a.y) * (top - a.h * bot)), .int ((c.h - a.h) * bot)]))
    (h3 : ∀ a, rs = [a] → top = a.h * bot → K (.tuple [.int a.x, .int a.y, .int 1])) : q_law_spot (logD rs) (.int top) (.int bot) K := by
  unfold q_law_spot
  obtain ⟨a, ea, ma, pa⟩ := LogOk.first hr.n0
  obtain ⟨c, ec, mc, pc⟩ := LogOk.last hr.n0
  have za := hr.ok a ma
  have zc := hr.ok c mc
  have sb : Sz bot := sz_of (by omega) (by omega)
  have sh : ∀ r, RowOk r → Sz r.h := fun r z => sz_of (by have := z.h0; omega) (by have := z.h1; omega)
  have sa := sh a za
  have sc := sh c zc
  have bd : ∀ r, RowOk r → 0 ≤ r.h * bot ∧ r.h * bot ≤ 100000 * 10 ^ 20 := fun r z => ⟨Int.mul_nonneg z.h0 (by omega), Int.mul_le_mul z.h1 b1 (by omega) (by decide)⟩
  walk_at "q"
  simp only [pa, pc]
  walk_at "go"
  refine ⟨fun _ => ⟨sc, sb⟩, ?_⟩
  refine bIf_of (fun e => ?_) fun e => ?_
  · rw [Bool.or_eq_true, decide_eq_true_eq, decide_eq_true_eq] at e
    exact h1 a c ea ec e
  · rw [Bool.or_eq_false_iff, decide_eq_false_iff_not, decide_eq_false_iff_not] at e
    obtain ⟨ca, cc⟩ := e
    obtain ⟨r0, rest, rfl⟩ : ∃ r0 rest, rs = r0 :: rest := by
      cases rs with
      | nil => simp at ea
      | cons r rs => exact ⟨r, rs, rfl⟩
    simp only [List.map_cons, cut1]
    walk_at "q"
    have hlen : (zipD (rowD r0 :: rest.map rowD) (rest.map rowD)).length = rest.length := by rw [zipD_length]; simp
    refine qFor_ind (fun k _ => ∀ r, (r0 :: rest)[k]? = some r → r.h * bot ≤ top ∧ (0 < k → r.h * bot < top)) (fun r z => ?_) (fun k d s nx hd hi hnx => ?_) fun s hi => ?_
    · simp at z ea
      subst z
      subst ea
      exact ⟨by omega, fun z => by omega⟩
    · obtain ⟨x, y, e1, e2, rfl⟩ := zipD_get hd
      rw [← List.map_cons] at e1
      obtain ⟨p, ep, rfl⟩ := row_get e1
      obtain ⟨q, eq, rfl⟩ := row_get e2
      have eq2 : (r0 :: rest)[k + 1]? = some q := by simpa using eq
      have zp := hr.ok p (List.mem_of_getElem? ep)
      have zq := hr.ok q (List.mem_of_getElem? eq2)
      have sp := sh p zp
      have sq := sh q zq
      have bp := bd p zp
      have bq := bd q zq
      have hpq := hr.up.lt ep eq2 (Nat.lt_succ_self k)
      obtain ⟨i1, i2⟩ := hi p ep
      unfold qb_law_spot_1
      simp only [rowD]
      have sg : Sz (q.h - p.h) := sz_of (by have := zp.h1; have := zq.h0; omega) (by have := zp.h0; have := zq.h1; omega)
      have gm : 0 ≤ (q.h - p.h) * bot := Int.mul_nonneg (by omega) (by omega)
      have gm1 : (q.h - p.h) * bot ≤ 100000 * 10 ^ 20 := Int.mul_le_mul (by have := zp.h0; have := zq.h1; omega) b1 (by omega) (by decide)
      have s1 : Sz ((q.h - p.h) * bot) := sz_of (by omega) (by omega)
      have s2 : Sz p.x := sz_of (by have := zp.x0; omega) (by have := zp.x1; omega)
      have s3 : Sz p.y := sz_of (by have := zp.y0; omega) (by have := zp.y1; omega)
      have s4 : Sz (q.x - p.x) := sz_of (by have := zp.x1; have := zq.x0; omega) (by have := zp.x0; have := zq.x1; omega)
      have s5 : Sz (q.y - p.y) := sz_of (by have := zp.y1; have := zq.y0; omega) (by have := zp.y0; have := zq.y1; omega)
      have s6 : Sz (top - p.h * bot) := sz_of (by omega) (by omega)
      walk_at "go"
      refine ⟨fun _ => ⟨sq, sb⟩, ?_⟩
      refine bIf_of (fun e => ?_) fun e => ?_
      · rw [Bool.and_eq_true, decide_eq_true_eq, decide_eq_true_eq] at e
        walk_at "go"
        exact h2 k p q ep eq2 e.1 e.2 i2
      · rw [Bool.and_eq_false_iff, decide_eq_false_iff_not, decide_eq_false_iff_not] at e
        refine hnx _ fun r z => ?_
        have : q = r := by rw [eq2] at z; exact Option.some.inj z
        subst this
        have : top > q.h * bot := by omega
        exact ⟨by omega, fun _ => by omega⟩
    · rw [hlen] at hi
      have ec' : (r0 :: rest)[rest.length]? = some c := by simpa using ec
      obtain ⟨i1, i2⟩ := hi c ec'
      have hz : rest.length = 0 := by
        rcases Nat.eq_zero_or_pos rest.length with z | z
        · exact z
        · have := i2 z
          omega
      have : rest = [] := List.eq_nil_of_length_eq_zero hz
      subst this
      simp at ea ec'
      subst ea
      subst ec'
      exact h3 r0 rfl (by omega)
/-! ### where a log stands at an hour, how far two are apart -/
/-- a place by parts: x and y over h -/
def spotF : List Rw → Int → Rw
  | [], _ => ⟨1, 0, 0⟩
  | [a], _ => ⟨1, a.x, a.y⟩
  | a :: c :: rs, t => if t = a.h then ⟨1, a.x, a.y⟩ else if t < c.h then ⟨c.h - a.h, a.x * (c.h - a.h) + (c.x - a.x) * (t - a.h), a.y * (c.h - a.h) + (c.y - a.y) * (t - a.h)⟩ else spotF (c :: rs) t
theorem spot_row {t : Int} {r : Rw} (e : r.h = t) : ∀ {rs : List Rw} {i : Nat}, Rises rs → rs[i]? = some r → spotF rs t = ⟨1, r.x, r.y⟩
  | [], _, _, h => by simp at h
  | [a], i, _, h => by
    cases i with
    | zero => simp at h; subst h; rfl
    | succ i => simp at h
  | a :: c :: rs, i, u, h => by
    cases i with
    | zero =>
      simp at h
      subst h
      rw [spotF, if_pos e.symm]
    | succ i =>
      have u2 : Rises (c :: rs) := (List.pairwise_cons.mp u).2
      have h2 : (c :: rs)[i]? = some r := by simpa using h
      have l1 := u.lt (i := 0) (j := i + 1) rfl h (by omega)
      have l2 := u2.le (i := 0) (j := i) rfl h2 (by omega)
      rw [spotF, if_neg (by omega), if_neg (by omega)]
      exact spot_row e u2 h2
theorem spot_mid {t : Int} {a c : Rw} (e1 : a.h < t) (e2 : t < c.h) : ∀ {rs : List Rw} {i : Nat}, Rises rs → rs[i]? = some a → rs[i + 1]? = some c →
    spotF rs t = ⟨c.h - a.h, a.x * (c.h - a.h) + (c.x - a.x) * (t - a.h), a.y * (c.h - a.h) + (c.y - a.y) * (t - a.h)⟩
  | [], _, _, h, _ => by simp at h
  | [a], i, _, h, h' => by simp at h'
  | r :: q :: rs, i, u, h, h' => by
    cases i with
    | zero =>
      simp at h h'
      subst h
      subst h'
      rw [spotF, if_neg (by omega), if_pos e2]
    | succ i =>
      have u2 : Rises (q :: rs) := (List.pairwise_cons.mp u).2
      have h2 : (q :: rs)[i]? = some a := by simpa using h
      have h3 : (q :: rs)[i + 1]? = some c := by simpa using h'
      have l1 := u.lt (i := 0) (j := i + 1) rfl h (by omega)
      have l2 := u2.le (i := 0) (j := i) rfl h2 (by omega)
      rw [spotF, if_neg (by omega), if_neg (by omega)]
      exact spot_mid e1 e2 u2 h2 h3
/-- the rows ahead of an hour that no row bears -/
theorem ahead_of {t : Int} : ∀ {rs : List Rw} {c : Rw}, Rises rs → (∀ r ∈ rs, r.h ≠ t) → (∀ a, rs[0]? = some a → a.h < t) → rs[rs.length - 1]? = some c → t < c.h →
    ∃ (n : Nat) (a b : Rw), (rs.filter fun r => decide (r.h < t)).length = n + 1 ∧ rs[n]? = some a ∧ rs[n + 1]? = some b ∧ a.h < t ∧ t < b.h
  | [], _, _, _, _, h, _ => by simp at h
  | [a], c, _, _, h0, hl, ht => by
    have := h0 a rfl
    simp at hl
    subst hl
    omega
  | a :: q :: rs, c, u, hn, h0, hl, ht => by
    have ha := h0 a rfl
    have u2 : Rises (q :: rs) := (List.pairwise_cons.mp u).2
    by_cases hq : q.h < t
    · obtain ⟨n, x, y, e1, e2, e3, e4, e5⟩ := ahead_of (t := t) (rs := q :: rs) (c := c) u2 (fun r hr => hn r (List.mem_cons_of_mem _ hr)) (fun r hr => by simp at hr; subst hr; exact hq) (by simpa using hl) ht
      exact ⟨n + 1, x, y, by rw [List.filter_cons, if_pos (decide_eq_true ha), List.length_cons, e1], by simpa using e2, by simpa using e3, e4, e5⟩
    · have hq2 : t < q.h := by have := hn q (by simp); omega
      refine ⟨0, a, q, ?_, rfl, rfl, ha, hq2⟩
      have e : (q :: rs).filter (fun r => decide (r.h < t)) = [] := by
        rw [List.filter_eq_nil_iff]
        intro r hr
        obtain ⟨i, hi⟩ := List.mem_iff_getElem?.mp hr
        have := u2.le (i := 0) (j := i) rfl hi (by omega)
        simp
        omega
      rw [List.filter_cons, if_pos (decide_eq_true ha), e]
      rfl
def gapF (a b : List Rw) (t : Int) : Rw := ⟨(spotF a t).h * (spotF b t).h, (spotF a t).x * (spotF b t).h - (spotF b t).x * (spotF a t).h, (spotF a t).y * (spotF b t).h - (spotF b t).y * (spotF a t).h⟩
/-- no farther than M at this moment -/
def NearAt (M : Int) (g : Rw) : Prop := g.x * g.x + g.y * g.y ≤ (M * g.h) * (M * g.h)
/-- the middle of a straight way is no farther than M -/
def NearOn (M x y u v m : Int) : Prop := x * (u - x) + y * (v - y) < 0 ∧ 0 < x * (u - x) + y * (v - y) + ((u - x) * (u - x) + (v - y) * (v - y)) ∧
  (x * x + y * y) * ((u - x) * (u - x) + (v - y) * (v - y)) - (x * (u - x) + y * (v - y)) * (x * (u - x) + y * (v - y)) ≤ m * ((u - x) * (u - x) + (v - y) * (v - y))
def NearMid (M : Int) (g k : Rw) : Prop := NearOn M (g.x * k.h) (g.y * k.h) (k.x * g.h) (k.y * g.h) ((M * g.h * k.h) * (M * g.h * k.h))
def Near (M : Int) (g : Int → Rw) (ms : List Int) : Prop := (∃ m ∈ ms, NearAt M (g m)) ∨ ∃ (j : Nat) (c d : Int), ms[j]? = some c ∧ ms[j + 1]? = some d ∧ NearMid M (g c) (g d)
theorem sq0 (a : Int) : 0 ≤ a * a := by
  rcases Int.le_total 0 a with h | h
  · exact Int.mul_nonneg h h
  · exact Int.mul_nonneg_of_nonpos_of_nonpos h h
theorem sq_mul (a b : Int) : (a * b) * (a * b) = a * a * (b * b) := by grind
theorem le_scale {a b c : Int} (h : 0 < c) : c * a ≤ c * b ↔ a ≤ b := ⟨fun e => Int.le_of_mul_le_mul_left e h, fun e => Int.mul_le_mul_of_nonneg_left e (Int.le_of_lt h)⟩
theorem lt_scale {a b c : Int} (h : 0 < c) : c * a < c * b ↔ a < b := ⟨fun e => Int.lt_of_mul_lt_mul_left e (Int.le_of_lt h), fun e => Int.mul_lt_mul_of_pos_left e h⟩
/-- the moment's test over a further bottom -/
theorem nearAt_over {M : Int} {g : Rw} {k : Int} (hk : 0 < k) : (g.x * k) * (g.x * k) + (g.y * k) * (g.y * k) ≤ (M * g.h * k) * (M * g.h * k) ↔ NearAt M g := by
  unfold NearAt
  have e1 : (g.x * k) * (g.x * k) + (g.y * k) * (g.y * k) = (k * k) * (g.x * g.x + g.y * g.y) := by grind
  have e2 : (M * g.h * k) * (M * g.h * k) = (k * k) * ((M * g.h) * (M * g.h)) := by grind
  rw [e1, e2]
  exact le_scale (Int.mul_pos hk hk)
theorem nearAt_scale {M : Int} {g : Rw} {k : Int} (hk : 0 < k) : NearAt M ⟨k * g.h, k * g.x, k * g.y⟩ ↔ NearAt M g := by
  rw [← nearAt_over (k := k) (g := g) hk]
  unfold NearAt
  have e1 : (k * g.x) * (k * g.x) + (k * g.y) * (k * g.y) = (g.x * k) * (g.x * k) + (g.y * k) * (g.y * k) := by grind
  have e2 : (M * (k * g.h)) * (M * (k * g.h)) = (M * g.h * k) * (M * g.h * k) := by grind
  show (k * g.x) * (k * g.x) + (k * g.y) * (k * g.y) ≤ (M * (k * g.h)) * (M * (k * g.h)) ↔ _
  rw [e1, e2]
theorem nearOn_scale {M x y u v m c : Int} (hc : 0 < c) : NearOn M (c * x) (c * y) (c * u) (c * v) (c * c * m) ↔ NearOn M x y u v m := by
  unfold NearOn
  have h2 := Int.mul_pos hc hc
  have e1 : (c * x) * (c * u - c * x) + (c * y) * (c * v - c * y) = (c * c) * (x * (u - x) + y * (v - y)) := by grind
  have e2 : (c * u - c * x) * (c * u - c * x) + (c * v - c * y) * (c * v - c * y) = (c * c) * ((u - x) * (u - x) + (v - y) * (v - y)) := by grind
  have e3 : (c * x) * (c * x) + (c * y) * (c * y) = (c * c) * (x * x + y * y) := by grind
  rw [e1, e2, e3]
  generalize x * (u - x) + y * (v - y) = al
  generalize (u - x) * (u - x) + (v - y) * (v - y) = sw
  generalize x * x + y * y = a
  generalize c * c = k at h2 ⊢
  have f1 : k * al < 0 ↔ al < 0 := by rw [← lt_scale (a := al) (b := 0) h2, Int.mul_zero]
  have f2 : 0 < k * al + k * sw ↔ 0 < al + sw := by rw [← Int.mul_add, ← lt_scale (a := 0) (b := al + sw) h2, Int.mul_zero]
  have f3 : k * a * (k * sw) - k * al * (k * al) ≤ k * m * (k * sw) ↔ a * sw - al * al ≤ m * sw := by
    have g1 : k * a * (k * sw) - k * al * (k * al) = (k * k) * (a * sw - al * al) := by grind
    have g2 : k * m * (k * sw) = (k * k) * (m * sw) := by grind
    rw [g1, g2]
    exact le_scale (Int.mul_pos h2 h2)
  rw [f1, f2, f3]
theorem nearMid_scale {M : Int} {g k : Rw} {c d : Int} (hc : 0 < c) (hd : 0 < d) : NearMid M ⟨c * g.h, c * g.x, c * g.y⟩ ⟨d * k.h, d * k.x, d * k.y⟩ ↔ NearMid M g k := by
  unfold NearMid
  rw [← nearOn_scale (M := M) (x := g.x * k.h) (Int.mul_pos hc hd)]
  show NearOn M (c * g.x * (d * k.h)) (c * g.y * (d * k.h)) (d * k.x * (c * g.h)) (d * k.y * (c * g.h)) ((M * (c * g.h) * (d * k.h)) * (M * (c * g.h) * (d * k.h))) ↔ _
  have e1 : c * g.x * (d * k.h) = c * d * (g.x * k.h) := by grind
  have e2 : c * g.y * (d * k.h) = c * d * (g.y * k.h) := by grind
  have e3 : d * k.x * (c * g.h) = c * d * (k.x * g.h) := by grind
  have e4 : d * k.y * (c * g.h) = c * d * (k.y * g.h) := by grind
  have e5 : (M * (c * g.h) * (d * k.h)) * (M * (c * g.h) * (d * k.h)) = c * d * (c * d) * ((M * g.h * k.h) * (M * g.h * k.h)) := by grind
  rw [e1, e2, e3, e4, e5]
/-- the program's three cases: the start -/
theorem near_start {M x y u v m : Int} (h : 0 ≤ x * (u - x) + y * (v - y)) : x * x + y * y ≤ m ↔ (x * x + y * y ≤ m ∨ u * u + v * v ≤ m ∨ NearOn M x y u v m) := by
  refine ⟨.inl, fun e => ?_⟩
  rcases e with e | e | e
  · exact e
  · have e1 : u * u + v * v = x * x + y * y + 2 * (x * (u - x) + y * (v - y)) + ((u - x) * (u - x) + (v - y) * (v - y)) := by grind
    have := sq0 (u - x)
    have := sq0 (v - y)
    omega
  · have := e.1
    omega
theorem near_end {M x y u v m : Int} (h : x * (u - x) + y * (v - y) + ((u - x) * (u - x) + (v - y) * (v - y)) ≤ 0) : u * u + v * v ≤ m ↔ (x * x + y * y ≤ m ∨ u * u + v * v ≤ m ∨ NearOn M x y u v m) := by
  refine ⟨fun e => .inr (.inl e), fun e => ?_⟩
  rcases e with e | e | e
  · have e1 : x * x + y * y = u * u + v * v - 2 * (x * (u - x) + y * (v - y) + ((u - x) * (u - x) + (v - y) * (v - y))) + ((u - x) * (u - x) + (v - y) * (v - y)) := by grind
    have := sq0 (u - x)
    have := sq0 (v - y)
    omega
  · exact e
  · have := e.2.1
    omega
theorem near_way {M x y u v m : Int} (h1 : x * (u - x) + y * (v - y) < 0) (h2 : 0 < x * (u - x) + y * (v - y) + ((u - x) * (u - x) + (v - y) * (v - y))) :
    (x * (v - y) - y * (u - x)) * (x * (v - y) - y * (u - x)) ≤ m * ((u - x) * (u - x) + (v - y) * (v - y)) ↔ (x * x + y * y ≤ m ∨ u * u + v * v ≤ m ∨ NearOn M x y u v m) := by
  have e0 : (x * (v - y) - y * (u - x)) * (x * (v - y) - y * (u - x)) = (x * x + y * y) * ((u - x) * (u - x) + (v - y) * (v - y)) - (x * (u - x) + y * (v - y)) * (x * (u - x) + y * (v - y)) := by grind
  have s0 : 0 ≤ (u - x) * (u - x) + (v - y) * (v - y) := by
    have := sq0 (u - x)
    have := sq0 (v - y)
    omega
  rw [e0]
  refine ⟨fun e => .inr (.inr ⟨h1, h2, e⟩), fun e => ?_⟩
  rcases e with e | e | e
  · have := Int.mul_le_mul_of_nonneg_right e s0
    have := sq0 (x * (u - x) + y * (v - y))
    omega
  · have e1 : (x * x + y * y) * ((u - x) * (u - x) + (v - y) * (v - y)) - (x * (u - x) + y * (v - y)) * (x * (u - x) + y * (v - y)) = (u * u + v * v) * ((u - x) * (u - x) + (v - y) * (v - y)) - (x * (u - x) + y * (v - y) + ((u - x) * (u - x) + (v - y) * (v - y))) * (x * (u - x) + y * (v - y) + ((u - x) * (u - x) + (v - y) * (v - y))) := by grind
    have := Int.mul_le_mul_of_nonneg_right e s0
    have := sq0 (x * (u - x) + y * (v - y) + ((u - x) * (u - x) + (v - y) * (v - y)))
    omega
  · exact e.2.2
/-- a piece: an end is near, or its middle is -/
def Piece (M : Int) (g k : Rw) : Prop := NearAt M g ∨ NearAt M k ∨ NearMid M g k
theorem piece_iff {M : Int} {g k : Rw} (hg : 0 < g.h) (hk : 0 < k.h) : Piece M g k ↔ ((g.x * k.h) * (g.x * k.h) + (g.y * k.h) * (g.y * k.h) ≤ (M * g.h * k.h) * (M * g.h * k.h) ∨ (k.x * g.h) * (k.x * g.h) + (k.y * g.h) * (k.y * g.h) ≤ (M * g.h * k.h) * (M * g.h * k.h) ∨ NearOn M (g.x * k.h) (g.y * k.h) (k.x * g.h) (k.y * g.h) ((M * g.h * k.h) * (M * g.h * k.h))) := by
  unfold Piece NearMid
  rw [nearAt_over hk]
  have e : M * g.h * k.h = M * k.h * g.h := by grind
  have e2 := nearAt_over (M := M) (g := k) hg
  rw [← e] at e2
  rw [e2]
theorem piece_self {M : Int} {g : Rw} : Piece M g g ↔ NearAt M g := by
  refine ⟨fun e => ?_, .inl⟩
  rcases e with e | e | e
  · exact e
  · exact e
  · have := e.1
    have z : g.x * g.h * (g.x * g.h - g.x * g.h) + g.y * g.h * (g.y * g.h - g.y * g.h) = 0 := by grind
    omega
theorem near_of_pieces {M : Int} {g : Int → Rw} {m : Int} {ms : List Int} {P : Prop} (h : P ↔ (Piece M (g m) (g m) ∨ ∃ (j : Nat) (c d : Int), (m :: ms)[j]? = some c ∧ (m :: ms)[j + 1]? = some d ∧ Piece M (g c) (g d))) : P ↔ Near M g (m :: ms) := by
  rw [h, piece_self]
  constructor
  · rintro (e | ⟨j, c, d, e1, e2, e3⟩)
    · exact .inl ⟨m, by simp, e⟩
    · rcases e3 with e | e | e
      · exact .inl ⟨c, List.mem_of_getElem? e1, e⟩
      · exact .inl ⟨d, List.mem_of_getElem? e2, e⟩
      · exact .inr ⟨j, c, d, e1, e2, e⟩
  · rintro (⟨k, hk, e⟩ | ⟨j, c, d, e1, e2, e3⟩)
    · obtain ⟨i, hi⟩ := List.mem_iff_getElem?.mp hk
      cases i with
      | zero =>
        simp at hi
        subst hi
        exact .inl e
      | succ i =>
        have hl : i + 1 < (m :: ms).length := (List.getElem?_eq_some_iff.mp hi).1
        exact .inr ⟨i, (m :: ms)[i], k, by rw [List.getElem?_eq_getElem (by omega)], hi, .inr (.inl e)⟩
    · exact .inr ⟨j, c, d, e1, e2, .inr (.inr e3)⟩
theorem near_of_ends {M : Int} {g : Int → Rw} {ms : List Int} {P : Prop} (hn : 1 ≤ ms.length)
    (h : P ↔ ((∃ (j : Nat) (c d : Int), ms[j]? = some c ∧ ms[j + 1]? = some d ∧ Piece M (g c) (g d)) ∨ ∃ c, ms[ms.length - 1]? = some c ∧ Piece M (g c) (g c))) : P ↔ Near M g ms := by
  rw [h]
  constructor
  · rintro (⟨j, c, d, e1, e2, e3⟩ | ⟨c, e1, e⟩)
    · rcases e3 with e | e | e
      · exact .inl ⟨c, List.mem_of_getElem? e1, e⟩
      · exact .inl ⟨d, List.mem_of_getElem? e2, e⟩
      · exact .inr ⟨j, c, d, e1, e2, e⟩
    · exact .inl ⟨c, List.mem_of_getElem? e1, piece_self.mp e⟩
  · rintro (⟨k, hk, e⟩ | ⟨j, c, d, e1, e2, e3⟩)
    · obtain ⟨i, hi⟩ := List.mem_iff_getElem?.mp hk
      have hl : i < ms.length := (List.getElem?_eq_some_iff.mp hi).1
      by_cases hz : i = ms.length - 1
      · subst hz
        exact .inr ⟨k, hi, piece_self.mpr e⟩
      · exact .inl ⟨i, k, ms[i + 1], hi, by rw [List.getElem?_eq_getElem (by omega)], .inl e⟩
    · exact .inl ⟨j, c, d, e1, e2, .inr (.inr e3)⟩
/-! ### bounds by powers of ten -/
def Bd (n : Nat) (i : Int) : Prop := i.natAbs ≤ 10 ^ n
theorem Bd.mul {n m : Nat} {a b : Int} (h1 : Bd n a) (h2 : Bd m b) : Bd (n + m) (a * b) := by
  unfold Bd at *
  rw [Int.natAbs_mul, Nat.pow_add]
  exact Nat.mul_le_mul h1 h2
theorem Bd.mono {n m : Nat} {a : Int} (h1 : Bd n a) (h : n ≤ m) : Bd m a := Nat.le_trans h1 (Nat.pow_le_pow_right (by decide) h)
theorem Bd.add {n m : Nat} {a b : Int} (h1 : Bd n a) (h2 : Bd m b) : Bd (max n m + 1) (a + b) := by
  have g1 := h1.mono (Nat.le_max_left n m)
  have g2 := h2.mono (Nat.le_max_right n m)
  unfold Bd at *
  have : (a + b).natAbs ≤ a.natAbs + b.natAbs := Int.natAbs_add_le a b
  rw [Nat.pow_succ]
  omega
theorem Bd.sub {n m : Nat} {a b : Int} (h1 : Bd n a) (h2 : Bd m b) : Bd (max n m + 1) (a - b) := by
  rw [Int.sub_eq_add_neg]
  refine Bd.add h1 ?_
  unfold Bd at *
  rwa [Int.natAbs_neg]
theorem sz_bd {n : Nat} {a : Int} (h : Bd n a) (hn : n ≤ 900) : Sz a := by
  unfold Sz
  refine Nat.lt_of_le_of_lt (h.mono hn) ?_
  exact Nat.pow_lt_pow_right (by decide) (by decide)
theorem bd5 {a : Int} (h0 : -(100000) ≤ a) (h1 : a ≤ 100000) : Bd 5 a := by
  unfold Bd
  have : (10 : Nat) ^ 5 = 100000 := by decide
  omega
theorem bd1 : Bd 1 1 := by unfold Bd; decide
local macro_rules | `(tactic| walk_at "bd") => `(tactic| first | assumption | exact bd1 | (apply Bd.mul <;> walk_at "bd") | (apply Bd.add <;> walk_at "bd") | (apply Bd.sub <;> walk_at "bd"))
local macro_rules | `(tactic| walk_at "bz") => `(tactic| first | assumption | (apply sz_bd; (· walk_at "bd"); decide) | (refine And.intro ?_ ?_ <;> walk_at "bz"))
local macro_rules | `(tactic| walk_at "bs") => `(tactic| (walk_at "q"; repeat ((with_reducible refine And.intro ?_ ?_); (· walk_at "bz"); walk_at "q")))
structure TriOk (n : Nat) (m : Nat) (g : Rw) : Prop where
  h0 : 0 < g.h
  h : Bd n g.h
  x : Bd m g.x
  y : Bd m g.y
abbrev tD (r : Rw) : PyData := .tuple [.int r.x, .int r.y, .int r.h]
theorem mix_ok {a c : Rw} {t : Int} (ha : RowOk a) (hc : RowOk c) (h : a.h < c.h) (t0 : 0 ≤ t) (t1 : t ≤ 100000) : TriOk 5 11 ⟨c.h - a.h, a.x * (c.h - a.h) + (c.x - a.x) * (t - a.h), a.y * (c.h - a.h) + (c.y - a.y) * (t - a.h)⟩ := by
  obtain ⟨a1, a2, a3, a4, a5, a6⟩ := ha
  obtain ⟨c1, c2, c3, c4, c5, c6⟩ := hc
  have b1 : Bd 5 (c.h - a.h) := bd5 (by omega) (by omega)
  have b2 : Bd 5 (t - a.h) := bd5 (by omega) (by omega)
  have b3 : Bd 5 a.x := bd5 (by omega) (by omega)
  have b4 : Bd 5 a.y := bd5 (by omega) (by omega)
  have b5 : Bd 5 (c.x - a.x) := bd5 (by omega) (by omega)
  have b6 : Bd 5 (c.y - a.y) := bd5 (by omega) (by omega)
  exact ⟨by show 0 < c.h - a.h; omega, b1, Bd.add (b3.mul b1) (b5.mul b2), Bd.add (b4.mul b1) (b6.mul b2)⟩
theorem one_ok {a : Rw} (ha : RowOk a) : TriOk 5 11 ⟨1, a.x, a.y⟩ := by
  obtain ⟨a1, a2, a3, a4, a5, a6⟩ := ha
  exact ⟨by show (0 : Int) < 1; decide, bd1.mono (by decide), (bd5 (by show -100000 ≤ a.x; omega) (by show a.x ≤ 100000; omega)).mono (by decide), (bd5 (by show -100000 ≤ a.y; omega) (by show a.y ≤ 100000; omega)).mono (by decide)⟩
theorem spot_ok {t : Int} (t0 : 0 ≤ t) (t1 : t ≤ 100000) : ∀ {rs : List Rw}, (∀ r ∈ rs, RowOk r) → Rises rs → TriOk 5 11 (spotF rs t)
  | [], _, _ => ⟨by show (0 : Int) < 1; decide, bd1.mono (by decide), by show Bd 11 0; unfold Bd; decide, by show Bd 11 0; unfold Bd; decide⟩
  | [a], h, _ => one_ok (h a (by simp))
  | a :: c :: rs, h, u => by
    rw [spotF]
    have ha := h a (by simp)
    have hc := h c (by simp)
    have l := u.lt (i := 0) (j := 1) rfl rfl (by decide)
    split
    · exact one_ok ha
    · split
      · exact mix_ok ha hc l t0 t1
      · exact spot_ok t0 t1 (fun r hr => h r (List.mem_cons_of_mem _ hr)) (List.pairwise_cons.mp u).2
theorem gap_of {p q : Rw} (hp : TriOk 5 11 p) (hq : TriOk 5 11 q) : TriOk 10 17 ⟨p.h * q.h, p.x * q.h - q.x * p.h, p.y * q.h - q.y * p.h⟩ :=
  ⟨Int.mul_pos hp.h0 hq.h0, hp.h.mul hq.h, (hp.x.mul hq.h).sub (hq.x.mul hp.h), (hp.y.mul hq.h).sub (hq.y.mul hp.h)⟩
theorem gap_ok {a b : List Rw} (ha : LogOk a) (hb : LogOk b) {t : Int} (t0 : 0 ≤ t) (t1 : t ≤ 100000) : TriOk 10 17 (gapF a b t) := gap_of (spot_ok t0 t1 ha.ok ha.up) (spot_ok t0 t1 hb.ok hb.up)
/-- an hour that a log reaches -/
structure Within (rs : List Rw) (t : Int) : Prop where
  lo : ∀ a, rs[0]? = some a → a.h ≤ t
  hi : ∀ c, rs[rs.length - 1]? = some c → t ≤ c.h
theorem place_q {rs : List Rw} (hr : LogOk rs) {t : Int} (hw : Within rs t) (t0 : 0 ≤ t) (t1 : t ≤ 100000) (K : PyData → Prop)
    (h : ∀ (k : Int) (g : Rw), 0 < k → g = ⟨k * (spotF rs t).h, k * (spotF rs t).x, k * (spotF rs t).y⟩ → TriOk 5 11 g → K (tD g)) : q_whole_place (logD rs) (.int t) K := by
  unfold q_whole_place
  walk_at "q"
  have h1 := hr.n1
  obtain ⟨c, ec, mc, _⟩ := LogOk.last hr.n0
  obtain ⟨a, ea, ma, pa⟩ := LogOk.first hr.n0
  have hc := hw.hi c ec
  have ha := hw.lo a ea
  have ecut : DL.cutD (rs.map rowD) (some 1) none = (rs.drop 1).map rowD := by
    cases rs with
    | nil => simp at ea
    | cons r rs => simp only [List.map_cons, cut1]; rfl
  rw [ecut]
  have hlen : (zipD (rs.map rowD) ((rs.drop 1).map rowD)).length = rs.length - 1 := by rw [zipD_length]; simp only [List.length_map, List.length_drop]; omega
  refine qFor_ind (fun k _ => ∀ r, rs[k]? = some r → r.h ≤ t ∧ (0 < k → r.h < t)) (fun r z => ?_) (fun k d s nx hd hi hnx => ?_) fun s hi => ?_
  · rw [ea] at z
    cases z
    exact ⟨ha, fun z => absurd z (by omega)⟩
  · obtain ⟨x, y, e1, e2, rfl⟩ := zipD_get hd
    obtain ⟨p, ep, rfl⟩ := row_get e1
    obtain ⟨q, eq, rfl⟩ := row_get e2
    have eq2 : rs[k + 1]? = some q := by rw [List.getElem?_drop, Nat.add_comm] at eq; exact eq
    have zp := hr.ok p (List.mem_of_getElem? ep)
    have zq := hr.ok q (List.mem_of_getElem? eq2)
    have hpq := hr.up.lt ep eq2 (Nat.lt_succ_self k)
    obtain ⟨i1, i2⟩ := hi p ep
    unfold qb_whole_place_1 rowD
    walk_at "q"
    refine bIf_d (fun e => ?_) fun e => ?_
    · have mk := mix_ok (t := t) zp zq hpq t0 t1
      have tri : ∃ k : Int, 0 < k ∧ (⟨q.h - p.h, p.x * (q.h - p.h) + (q.x - p.x) * (t - p.h), p.y * (q.h - p.h) + (q.y - p.y) * (t - p.h)⟩ : Rw) = ⟨k * (spotF rs t).h, k * (spotF rs t).x, k * (spotF rs t).y⟩ := by
        by_cases z1 : p.h = t
        · refine ⟨q.h - p.h, by omega, ?_⟩
          rw [spot_row z1 hr.up ep, z1, Int.sub_self, Int.mul_zero, Int.mul_zero, Int.mul_one, Int.add_zero, Int.add_zero, Int.mul_comm p.x, Int.mul_comm p.y]
        · by_cases z2 : q.h = t
          · refine ⟨q.h - p.h, by omega, ?_⟩
            rw [spot_row z2 hr.up eq2, ← z2]
            congr 1 <;> grind
          · refine ⟨1, by decide, ?_⟩
            rw [spot_mid (by omega) (by omega) hr.up ep eq2]
            simp only [Int.one_mul]
      obtain ⟨k, k0, ek⟩ := tri
      obtain ⟨a1, a2, a3, a4, a5, a6⟩ := zp
      obtain ⟨c1, c2, c3, c4, c5, c6⟩ := zq
      have b1 : Bd 5 (q.h - p.h) := bd5 (by omega) (by omega)
      have b2 : Bd 5 (t - p.h) := bd5 (by omega) (by omega)
      have b3 : Bd 5 p.x := bd5 (by omega) (by omega)
      have b4 : Bd 5 p.y := bd5 (by omega) (by omega)
      have b5 : Bd 5 (q.x - p.x) := bd5 (by omega) (by omega)
      have b6 : Bd 5 (q.y - p.y) := bd5 (by omega) (by omega)
      walk_at "bs"
      exact h k _ k0 ek mk
    · refine hnx _ fun r z => ?_
      rw [eq2] at z
      cases z
      exact ⟨by omega, fun _ => by omega⟩
  · rw [hlen] at hi
    obtain ⟨i1, i2⟩ := hi c ec
    have hz : rs.length - 1 = 0 := by
      rcases Nat.eq_zero_or_pos (rs.length - 1) with z | z
      · exact z
      · have := i2 z
        omega
    have h0 := hr.n0
    match rs, hz, h0, h, pa, ea with
    | [r], _, _, h, pa, ea =>
      simp at ea
      subst ea
      walk_at "q"
      simp only [List.map_cons, List.map_nil, rowD]
      walk_at "q"
      have zr := hr.ok r (by simp)
      refine h 1 ⟨1, r.x, r.y⟩ (by decide) ?_ (one_ok zr)
      simp only [spotF, Int.one_mul]
theorem apart_q {a b : List Rw} (ha : LogOk a) (hb : LogOk b) {t : Int} (wa : Within a t) (wb : Within b t) (t0 : 0 ≤ t) (t1 : t ≤ 100000) (K : PyData → Prop)
    (h : ∀ (k : Int) (g : Rw), 0 < k → g = ⟨k * (gapF a b t).h, k * (gapF a b t).x, k * (gapF a b t).y⟩ → TriOk 10 17 g → K (tD g)) : q_apart_at (logD a) (logD b) (.int t) K := by
  unfold q_apart_at
  refine place_q ha wa t0 t1 _ fun k p k0 ek okp => ?_
  walk_at "q"
  refine place_q hb wb t0 t1 _ fun l q l0 el okq => ?_
  have ok := gap_of okp okq
  obtain ⟨_, p1, p2, p3⟩ := okp
  obtain ⟨_, q1, q2, q3⟩ := okq
  walk_at "bs"
  refine h (k * l) ⟨p.h * q.h, p.x * q.h - q.x * p.h, p.y * q.h - q.y * p.h⟩ (Int.mul_pos k0 l0) ?_ ok
  rw [ek, el]
  unfold gapF
  generalize spotF a t = A
  generalize spotF b t = B
  show (⟨k * A.h * (l * B.h), k * A.x * (l * B.h) - l * B.x * (k * A.h), k * A.y * (l * B.h) - l * B.y * (k * A.h)⟩ : Rw) = ⟨k * l * (A.h * B.h), k * l * (A.x * B.h - B.x * A.h), k * l * (A.y * B.h - B.y * A.h)⟩
  congr 1 <;> grind
theorem piece_scale {M : Int} {g k : Rw} {c d : Int} (hc : 0 < c) (hd : 0 < d) : Piece M ⟨c * g.h, c * g.x, c * g.y⟩ ⟨d * k.h, d * k.x, d * k.y⟩ ↔ Piece M g k := by
  unfold Piece
  rw [nearAt_scale hc, nearAt_scale hd, nearMid_scale hc hd]
theorem low_le {P Q c : Int} (hq : 0 < Q) : lowN P Q ≤ c * lowB P Q ↔ P ≤ c * Q := by
  have l := low_of P hq
  rw [← le_scale hq, ← le_scale (a := P) l.b0]
  have e1 : Q * lowN P Q = lowB P Q * P := by rw [Int.mul_comm, l.eq, Int.mul_comm]
  have e2 : Q * (c * lowB P Q) = lowB P Q * (c * Q) := by grind
  rw [e1, e2]
theorem low_bd {n : Nat} {P Q : Int} (hq : 0 < Q) (h : Bd n P) : Bd n (lowN P Q) := by
  have l := low_of P hq
  have h0 := l.n0
  have h1 := l.n1
  unfold Bd at *
  omega
theorem low_bdB {n : Nat} {P Q : Int} (hq : 0 < Q) (h : Bd n Q) : Bd n (lowB P Q) := by
  have l := low_of P hq
  have h0 := l.b0
  have h1 := l.b1
  unfold Bd at *
  omega
theorem bd_le {n : Nat} {q : Int} (h : Bd n q) (hn : n ≤ 100) : q ≤ 10 ^ 100 := by
  have h2 := h.mono hn
  unfold Bd at h2
  have e : (10 : Int) ^ 100 = ((10 ^ 100 : Nat) : Int) := by rw [Int.natCast_pow]; rfl
  rw [e]
  omega
theorem least_q {a b : List Rw} (ha : LogOk a) (hb : LogOk b) {s t : Int} (wa : Within a s) (wb : Within b s) (wa' : Within a t) (wb' : Within b t) (s0 : 0 ≤ s) (s1 : s ≤ 100000) (t0 : 0 ≤ t) (t1 : t ≤ 100000) (K : PyData → Prop)
    (h : ∀ (p q : Int) (w : PyData), 0 < q → Bd 120 p → Bd 120 q → (∀ M : Int, p ≤ M * M * q ↔ Piece M (gapF a b s) (gapF a b t)) → K (.tuple [.tuple [.int p, .int q], w])) : q_least_between (logD a) (logD b) (.int s) (.int t) K := by
  unfold q_least_between
  refine apart_q ha hb wa wb s0 s1 _ fun c g c0 eg okg => ?_
  walk_at "q"
  refine apart_q ha hb wa' wb' t0 t1 _ fun d k d0 ek okk => ?_
  have hp : ∀ M, Piece M g k ↔ Piece M (gapF a b s) (gapF a b t) := fun M => by rw [eg, ek]; exact piece_scale c0 d0
  have hp2 := fun M => (piece_iff (M := M) okg.h0 okk.h0).symm.trans (hp M)
  clear eg ek hp

  obtain ⟨g0, g1, g2, g3⟩ := okg
  obtain ⟨k0, k1, k2, k3⟩ := okk
  have bs : Bd 5 s := bd5 (by omega) (by omega)
  have bt : Bd 5 t := bd5 (by omega) (by omega)
  have xb : Bd 27 (g.x * k.h) := g2.mul k1
  have yb : Bd 27 (g.y * k.h) := g3.mul k1
  have ub : Bd 27 (k.x * g.h) := k2.mul g1
  have vb : Bd 27 (k.y * g.h) := k3.mul g1
  have gb : Bd 40 (g.h * g.h * k.h * k.h) := ((g1.mul g1).mul k1).mul k1
  have b0 : 0 < g.h * g.h * k.h * k.h := Int.mul_pos (Int.mul_pos (Int.mul_pos g0 g0) k0) k0
  have em : ∀ M : Int, M * M * (g.h * g.h * k.h * k.h) = (M * g.h * k.h) * (M * g.h * k.h) := fun M => by grind
  walk_at "bs"
  generalize g.h * g.h * k.h * k.h = Q at gb b0 em ⊢
  generalize g.x * k.h = x at xb hp2 ⊢
  generalize g.y * k.h = y at yb hp2 ⊢
  generalize k.x * g.h = u at ub hp2 ⊢
  generalize k.y * g.h = v at vb hp2 ⊢
  have du : Bd 28 (u - x) := ub.sub xb
  have dv : Bd 28 (v - y) := vb.sub yb
  refine bIf_d (fun e1 => ?_) fun e1 => ?_
  · walk_at "bs"
    have pb : Bd 55 (x * x + y * y) := (xb.mul xb).add (yb.mul yb)
    refine lowest_q b0 (bd_le gb (by decide)) _ ?_
    refine h _ _ _ (low_of _ b0).b0 ((low_bd b0 pb).mono (by decide)) ((low_bdB b0 gb).mono (by decide)) fun M => ?_
    rw [low_le b0, ← hp2, em]
    exact near_start e1
  · walk_at "bs"
    refine bIf_d (fun e2 => ?_) fun e2 => ?_
    · have eu : x + (u - x) = u := by omega
      have ev : y + (v - y) = v := by omega
      rw [eu, ev]
      walk_at "bs"
      have pb : Bd 55 (u * u + v * v) := (ub.mul ub).add (vb.mul vb)
      refine lowest_q b0 (bd_le gb (by decide)) _ ?_
      refine h _ _ _ (low_of _ b0).b0 ((low_bd b0 pb).mono (by decide)) ((low_bdB b0 gb).mono (by decide)) fun M => ?_
      rw [low_le b0, ← hp2, em]
      exact near_end e2
    · walk_at "bs"
      have cb : Bd 56 (x * (v - y) - y * (u - x)) := (xb.mul dv).sub (yb.mul du)
      have sb : Bd 57 ((u - x) * (u - x) + (v - y) * (v - y)) := (du.mul du).add (dv.mul dv)
      have ab : Bd 56 (x * (u - x) + y * (v - y)) := (xb.mul du).add (yb.mul dv)
      have s0 : 0 < (u - x) * (u - x) + (v - y) * (v - y) := by omega
      have z0 := Int.mul_pos s0 b0
      have zb : Bd 97 (((u - x) * (u - x) + (v - y) * (v - y)) * Q) := sb.mul gb
      refine lowest_q z0 (bd_le zb (by decide)) _ ?_
      have te : Bd 6 (t - s) := bt.sub bs
      walk_at "bs"
      refine lowest_q s0 (bd_le sb (by decide)) _ ?_
      refine h _ _ _ (low_of _ z0).b0 ((low_bd z0 (cb.mul cb)).mono (by decide)) ((low_bdB z0 zb).mono (by decide)) fun M => ?_
      rw [low_le z0, ← hp2, ← near_way (by omega) (by omega), ← em]
      have e3 : M * M * (((u - x) * (u - x) + (v - y) * (v - y)) * Q) = M * M * Q * ((u - x) * (u - x) + (v - y) * (v - y)) := by grind
      rw [e3]
def fH (rs : List Rw) : Int := match rs[0]? with
  | some r => r.h
  | none => 0
def lH (rs : List Rw) : Int := match rs[rs.length - 1]? with
  | some r => r.h
  | none => 0
def bE (a b : List Rw) (lo : Int) : Int := max3 (fH a) (fH b) lo
def eE (a b : List Rw) (hi : Int) : Int := min3 (lH a) (lH b) hi
def mkH (a b : List Rw) (B E : Int) : List Int := B :: E :: ((a ++ b).filter fun r => decide (B < r.h) && decide (r.h < E)).map Rw.h
def NearM (a b : List Rw) (lo hi M : Int) : Prop := ∀ ms : List Int, ms.Pairwise (· < ·) → (∀ k, k ∈ ms ↔ k ∈ mkH a b (bE a b lo) (eE a b hi)) → Near M (gapF a b) ms
def NearP (a b : List Rw) (lo hi M : Int) : Prop := bE a b lo ≤ eE a b hi ∧ NearM a b lo hi M
noncomputable def nearB (a b : List Rw) (lo hi M : Int) : Bool := @decide (NearP a b lo hi M) (Classical.propDecidable _)
theorem nearB_iff {a b : List Rw} {lo hi M : Int} : nearB a b lo hi M = true ↔ NearP a b lo hi M := by
  unfold nearB
  exact @decide_eq_true_iff (NearP a b lo hi M) (Classical.propDecidable _)
theorem nearB_of {a b : List Rw} {lo hi M : Int} {t : Bool} (h : t = true ↔ NearP a b lo hi M) : t = nearB a b lo hi M := by
  rw [Bool.eq_iff_iff, h, nearB_iff]
theorem nearM_of {a b : List Rw} {lo hi M : Int} {ms : List Int} (h1 : ms.Pairwise (· < ·)) (h2 : ∀ k, k ∈ ms ↔ k ∈ mkH a b (bE a b lo) (eE a b hi)) : NearM a b lo hi M ↔ Near M (gapF a b) ms := by
  refine ⟨fun h => h ms h1 h2, fun h ns n1 n2 => ?_⟩
  rw [rise_uniq n1 h1 fun k => (n2 k).trans (h2 k).symm]
  exact h
theorem mk_in {a b : List Rw} {B E : Int} (h : B ≤ E) {t : Int} (ht : t ∈ mkH a b B E) : B ≤ t ∧ t ≤ E := by
  unfold mkH at ht
  rcases List.mem_cons.mp ht with rfl | ht
  · omega
  rcases List.mem_cons.mp ht with rfl | ht
  · omega
  obtain ⟨r, hr, rfl⟩ := List.mem_map.mp ht
  have := (List.mem_filter.mp hr).2
  simp only [Bool.and_eq_true, decide_eq_true_eq] at this
  omega
theorem within_of {a b : List Rw} {lo hi t : Int} (h1 : bE a b lo ≤ t) (h2 : t ≤ eE a b hi) : Within a t ∧ Within b t ∧ lo ≤ t ∧ t ≤ hi := by
  unfold bE max3 at h1
  unfold eE min3 at h2
  refine ⟨⟨fun r e => ?_, fun r e => ?_⟩, ⟨fun r e => ?_, fun r e => ?_⟩, by omega, by omega⟩
  · unfold fH at h1; rw [e] at h1; simp only at h1; omega
  · unfold lH at h2; rw [e] at h2; simp only at h2; omega
  · unfold fH at h1; rw [e] at h1; simp only at h1; omega
  · unfold lH at h2; rw [e] at h2; simp only at h2; omega
theorem first_q {rs : List Rw} (h : LogOk rs) {P : PyData → Prop} : ∃ r : Rw, r.h = fH rs ∧ pick (rs.map rowD) 0 P = P (.tuple [.int r.h, .int r.x, .int r.y]) := by
  obtain ⟨r, er, mr, p⟩ := LogOk.first h.n0
  exact ⟨r, by unfold fH; rw [er], p P⟩
theorem last_q {rs : List Rw} (h : LogOk rs) {P : PyData → Prop} : ∃ r : Rw, r.h = lH rs ∧ pick (rs.map rowD) (-1) P = P (.tuple [.int r.h, .int r.x, .int r.y]) := by
  obtain ⟨r, er, mr, p⟩ := LogOk.last h.n0
  exact ⟨r, by unfold lH; rw [er], p P⟩
theorem rows_fm {B E : Int} : ∀ rs : List Rw, (rs.map rowD).filterMap (fun d => if B < hourOf d ∧ hourOf d < E then some (PyData.int (hourOf d)) else none) = ((rs.filter fun r => decide (B < r.h) && decide (r.h < E)).map Rw.h).map .int
  | [] => rfl
  | r :: rs => by
    rw [List.map_cons, List.filterMap_cons, List.filter_cons, rows_fm rs]
    have e : hourOf (rowD r) = r.h := rfl
    rw [e]
    by_cases h : B < r.h ∧ r.h < E
    · rw [if_pos h, if_pos (by simpa using h)]
      rfl
    · rw [if_neg h, if_neg (by simpa using h)]
theorem mk_len {a b : List Rw} (ha : LogOk a) (hb : LogOk b) {B E : Int} : (mkH a b B E).length < 63 := by
  unfold mkH
  have := List.length_filter_le (fun r : Rw => decide (B < r.h) && decide (r.h < E)) (a ++ b)
  rw [List.length_append] at this
  have := ha.n1
  have := hb.n1
  simp only [List.length_cons, List.length_map]
  omega
theorem hours_q {a b : List Rw} (ha : LogOk a) (hb : LogOk b) {lo hi : Int} (K : PyData → Prop) (h0 : eE a b hi < bE a b lo → K .none) (h1 : bE a b lo ≤ eE a b hi → K (.tuple [.int (bE a b lo), .int (eE a b hi)])) : q_hours_of_both (logD a) (logD b) (.int lo) (.int hi) K := by
  unfold q_hours_of_both
  walk_at "q"
  obtain ⟨r, er, p⟩ := first_q ha (P := _)
  rw [p, q_ix, at0]
  obtain ⟨r2, er2, p2⟩ := first_q hb (P := _)
  rw [p2, q_ix, at0, q_max3]
  obtain ⟨r3, er3, p3⟩ := last_q ha (P := _)
  rw [p3, q_ix, at0]
  obtain ⟨r4, er4, p4⟩ := last_q hb (P := _)
  rw [p4, q_ix, at0, q_min3, er, er2, er3, er4]
  walk_at "q"
  refine bIf_d (fun e => h0 e) fun e => h1 ?_
  show max3 (fH a) (fH b) lo ≤ min3 (lH a) (lH b) hi
  omega
theorem marks_q {a b : List Rw} (ha : LogOk a) (hb : LogOk b) {B E : Int} (K : PyData → Prop) (h : ∀ ms : List Int, ms.Pairwise (· < ·) → (∀ k, k ∈ ms ↔ k ∈ mkH a b B E) → K (.list (ms.map .int))) : q_marks_between (logD a) (logD b) (.int B) (.int E) K := by
  unfold q_marks_between
  have l1 := ha.n1
  have l2 := hb.n1
  walk_at "q"
  refine ⟨by omega, ?_⟩
  rw [← List.map_append]
  refine qLc_fmap (fun d => if B < hourOf d ∧ hourOf d < E then some (PyData.int (hourOf d)) else none) (by simp; omega) (fun d hd sk yd hy hs => ?_) ?_
  · obtain ⟨r, _, rfl⟩ := List.mem_map.mp hd
    unfold qb_marks_between_1 rowD
    walk_at "q"
    refine bIf_of (fun e => hy _ (if_pos (by simpa using e : B < r.h ∧ r.h < E))) fun e => hs (if_neg (by simpa using e : ¬ (B < r.h ∧ r.h < E)))
  · rw [rows_fm]
    have ml := mk_len (B := B) (E := E) ha hb
    walk_at "q"
    refine ⟨?_, ?_⟩
    · unfold mkH at ml
      simp only [List.length_cons, List.length_map] at ml
      omega
    · show sortSetQ (.list ((mkH a b B E).map .int)) _
      rw [q_sortSet]
      exact ⟨ml, fun ms m1 m2 => h ms m1 m2⟩
theorem nearest_q {a b : List Rw} (ha : LogOk a) (hb : LogOk b) {lo hi : Int} (l0 : 0 ≤ lo) (h1 : hi ≤ 100000) (K : PyData → Prop) (k0 : eE a b hi < bE a b lo → K .none)
    (k1 : bE a b lo ≤ eE a b hi → ∀ (p q : Int) (w : PyData), 0 < q → Bd 120 p → Bd 120 q → (∀ M : Int, p ≤ M * M * q ↔ NearM a b lo hi M) → K (.tuple [.tuple [.int p, .int q], w])) : q_nearest_of (logD a) (logD b) (.int lo) (.int hi) K := by
  unfold q_nearest_of
  refine hours_q ha hb _ (fun e => ?_) fun e => ?_
  · walk_at "q"
    exact k0 e
  · have k1 := k1 e
    walk_at "q"
    refine marks_q ha hb _ fun ms m1 m2 => ?_
    have bd : ∀ t ∈ ms, Within a t ∧ Within b t ∧ 0 ≤ t ∧ t ≤ 100000 := fun t ht => by
      obtain ⟨i1, i2⟩ := mk_in e ((m2 t).mp ht)
      obtain ⟨w1, w2, w3, w4⟩ := within_of i1 i2
      exact ⟨w1, w2, by omega, by omega⟩
    obtain ⟨m, ns, rfl⟩ : ∃ m ns, ms = m :: ns := by
      cases ms with
      | nil => exact absurd ((m2 (bE a b lo)).mpr (by unfold mkH; simp)) (by simp)
      | cons m ns => exact ⟨m, ns, rfl⟩
    obtain ⟨w1, w2, w3, w4⟩ := bd m (by simp)
    rw [List.map_cons]
    walk_at "q"
    refine least_q ha hb w1 w2 w1 w2 w3 w4 w3 w4 _ fun p q w q0 bp bq hp => ?_
    walk_at "q"
    simp only [cut1]
    walk_at "q"
    have hlen : (zipD (PyData.int m :: ns.map .int) (ns.map .int)).length = ns.length := by rw [zipD_length]; simp
    refine qFor_ind (fun k s => ∃ (p q : Int) (w : PyData), s = .tuple [.tuple [.int p, .int q], w] ∧ 0 < q ∧ Bd 120 p ∧ Bd 120 q ∧ ∀ M : Int, p ≤ M * M * q ↔ (Piece M (gapF a b m) (gapF a b m) ∨ ∃ (j : Nat) (c d : Int), j < k ∧ (m :: ns)[j]? = some c ∧ (m :: ns)[j + 1]? = some d ∧ Piece M (gapF a b c) (gapF a b d)))
      ⟨p, q, w, rfl, q0, bp, bq, fun M => by rw [hp M]; exact ⟨.inl, fun z => z.elim id fun ⟨j, _, _, hj, _⟩ => absurd hj (by omega)⟩⟩ (fun k d s nx hd hs hnx => ?_) fun s hs => ?_
    · obtain ⟨p, q, w, rfl, q0, bp, bq, hp⟩ := hs
      obtain ⟨x, y, e1, e2, rfl⟩ := zipD_get hd
      rw [← List.map_cons (f := PyData.int), List.getElem?_map] at e1
      rw [List.getElem?_map] at e2
      obtain ⟨c, ec, rfl⟩ := Option.map_eq_some_iff.mp e1
      obtain ⟨d, ed, rfl⟩ := Option.map_eq_some_iff.mp e2
      have ed2 : (m :: ns)[k + 1]? = some d := by simpa using ed
      obtain ⟨v1, v2, v3, v4⟩ := bd c (List.mem_of_getElem? ec)
      obtain ⟨u1, u2, u3, u4⟩ := bd d (List.mem_of_getElem? ed2)
      unfold qb_nearest_of_1
      walk_at "q"
      refine least_q ha hb v1 v2 u1 u2 v3 v4 u3 u4 _ fun p' q' w' q0' bp' bq' hp' => ?_
      walk_at "bs"
      have more : ∀ M : Int, (p ≤ M * M * q ∨ p' ≤ M * M * q') ↔ (Piece M (gapF a b m) (gapF a b m) ∨ ∃ (j : Nat) (c d : Int), j < k + 1 ∧ (m :: ns)[j]? = some c ∧ (m :: ns)[j + 1]? = some d ∧ Piece M (gapF a b c) (gapF a b d)) := fun M => by
        rw [hp M, hp' M]
        constructor
        · rintro ((z | ⟨j, c', d', hj, z1, z2, z3⟩) | z)
          · exact .inl z
          · exact .inr ⟨j, c', d', by omega, z1, z2, z3⟩
          · exact .inr ⟨k, c, d, by omega, ec, ed2, z⟩
        · rintro (z | ⟨j, c', d', hj, z1, z2, z3⟩)
          · exact .inl (.inl z)
          · by_cases hz : j = k
            · subst hz
              rw [ec] at z1
              rw [ed2] at z2
              cases z1
              cases z2
              exact .inr z3
            · exact .inl (.inr ⟨j, c', d', by omega, z1, z2, z3⟩)
      refine bIf_d (fun lt => hnx _ ⟨p', q', w', rfl, q0', bp', bq', fun M => ?_⟩) fun lt => hnx _ ⟨p, q, w, rfl, q0, bp, bq, fun M => ?_⟩
      · rw [← more]
        refine ⟨.inr, fun z => z.elim (fun z => ?_) id⟩
        have z1 := Int.mul_le_mul_of_nonneg_right z (Int.le_of_lt q0')
        rw [← le_scale q0]
        have z2 : q * p' = p' * q := Int.mul_comm _ _
        have z3 : q * (M * M * q') = M * M * q * q' := by grind
        omega
      · rw [← more]
        refine ⟨.inl, fun z => z.elim id fun z => ?_⟩
        have z1 := Int.mul_le_mul_of_nonneg_right z (Int.le_of_lt q0)
        rw [← le_scale q0']
        have z2 : q' * p = p * q' := Int.mul_comm _ _
        have z3 : q' * (M * M * q) = M * M * q' * q := by grind
        omega
    · obtain ⟨p, q, w, rfl, q0, bp, bq, hp⟩ := hs
      rw [hlen] at hp
      refine k1 p q w q0 bp bq fun M => ?_
      rw [nearM_of m1 m2]
      refine near_of_pieces ?_
      rw [hp M]
      refine or_congr Iff.rfl ⟨fun ⟨j, c, d, _, z⟩ => ⟨j, c, d, z⟩, fun ⟨j, c, d, z1, z2, z3⟩ => ⟨j, c, d, ?_, z1, z2, z3⟩⟩
      have := (List.getElem?_eq_some_iff.mp z2).1
      simp at this
      exact this
theorem qLc_over {α I S : Type} {b : PyData → I → S → (I → S → Prop) → (PyData → I → S → Prop) → Prop} {xs : List α} {D : α → PyData} {i : I} {s : S} {K : List PyData → S → Prop} (F : α → PyData) (hz : xs.length ≤ 100000)
    (step : ∀ x ∈ xs, ∀ (sk : I → S → Prop) (yd : PyData → I → S → Prop), yd (F x) i s → b (D x) i s sk yd) (fin : K (xs.map F) s) : qLc b i (xs.map D) [] s K :=
  qLc_ind (fun k acc s' => acc = (xs.take k).map F ∧ s' = s) ⟨by simp, rfl⟩ (fun k acc s' hk h => by rw [h.1]; simp at hk ⊢; omega)
    (fun k d acc s' sk yd hd ⟨h1, h2⟩ _ hy => by
      subst h2
      rw [List.getElem?_map] at hd
      obtain ⟨x, ex, rfl⟩ := Option.map_eq_some_iff.mp hd
      refine step x (List.mem_of_getElem? ex) sk yd (hy _ _ ⟨?_, rfl⟩)
      rw [List.take_add_one, ex, h1]
      simp) fun acc s' ⟨h1, h2⟩ => by
      subst h1 h2
      rw [List.length_map, List.take_length]
      exact fin
theorem shp_boolsT (t : Bool) (bs : List Bool) : shp (.bool t) (bs.map .bool) := by
  refine ⟨by cases t <;> rfl, ?_⟩
  have h1 : PyData.canLayAll0 (bs.map PyData.bool) = true := by
    induction bs with
    | nil => rfl
    | cons a b ih => rw [List.map_cons, PyData.canLayAll0, ih]; rfl
  have h2 : PyData.depthAll (bs.map PyData.bool) ≤ 0 := by
    induction bs with
    | nil => simp [PyData.depthAll]
    | cons a b ih => rw [List.map_cons, PyData.depthAll, PyData.depth]; rw [List.map_cons, PyData.canLayAll0] at h1; simp only [Bool.and_eq_true] at h1; have := ih h1.2; omega
  show ((PyData.list (bs.map PyData.bool)).canLay0 && decide ((PyData.list (bs.map PyData.bool)).depth ≤ 64)) = true
  rw [PyData.canLay0, h1, PyData.depth, Bool.true_and, decide_eq_true_eq]
  omega
theorem mem_true {bs : List Bool} : memD (.bool true) (bs.map .bool) = true ↔ true ∈ bs := by
  rw [memD_eq]
  induction bs with
  | nil => simp
  | cons a b ih =>
    rw [List.map_cons, List.any_cons, Bool.or_eq_true, ih, eqD_bool, List.mem_cons]
    cases a <;> simp
theorem cut_last {xs : List PyData} {d : PyData} : DL.cutD (xs ++ [d]) (some (-1)) none = [d] := by
  unfold DL.cutD HT.sIx
  have e : (-1 + ((xs.length : Int) + 1)).toNat = xs.length := by omega
  simp [e]
theorem arenear_q {a b : List Rw} (ha : LogOk a) (hb : LogOk b) {lo hi M : Int} (l0 : 0 ≤ lo) (lh : lo ≤ hi) (h1 : hi ≤ 100000) (m0 : 0 ≤ M) (m1 : M ≤ 100000) (K : PyData → Prop) (h : K (.bool (nearB a b lo hi M))) : q_are_near (logD a) (logD b) (.int lo) (.int hi) (.int M) K := by
  unfold q_are_near
  unfold q_need_both
  refine need_log_q ha _ (need_log_q hb _ (need_chase_q l0 lh h1 _ ?_))
  rw [is_whole_q]
  have e : isW (.int M) = true := rfl
  rw [e]
  walk_at "q"
  rw [decide_eq_true m0]
  walk_at "q"
  rw [decide_eq_true m1]
  walk_at "q"
  unfold q_are_near_by
  refine nearest_q ha hb l0 h1 _ (fun z => ?_) fun hle p q w q0 bp bq hp => ?_
  · have : false = nearB a b lo hi M := nearB_of ⟨fun z => absurd z (by decide), fun z' => absurd z'.1 (by omega)⟩
    rw [← this] at h
    walk_at "q"
    exact h
  · have mb : Bd 5 M := bd5 (by omega) (by omega)
    have key : decide (p ≤ M * M * q) = nearB a b lo hi M := nearB_of (by rw [decide_eq_true_eq, hp M]; exact ⟨fun z => ⟨hle, z⟩, fun z => z.2⟩)
    walk_at "bs"
    rw [key]
    exact h
/-! ### moments as rational numbers: where a log stands, how far two are apart -/
def posF (f : Rw → Int) : List Rw → Rat → Rat
  | [], _ => 0
  | [a], _ => f a
  | a :: c :: rs, t => if t < (c.h : Rat) then (f a : Rat) + ((f c : Rat) - f a) * (t - a.h) / ((c.h : Rat) - a.h) else posF f (c :: rs) t
theorem rlt {a b : Int} : (a : Rat) < b ↔ a < b := Rat.intCast_lt_intCast
theorem rle {a b : Int} : (a : Rat) ≤ b ↔ a ≤ b := Rat.intCast_le_intCast
theorem pos_row {f : Rw → Int} : ∀ {rs : List Rw} {i : Nat} {r : Rw}, Rises rs → rs[i]? = some r → posF f rs r.h = f r
  | [], _, _, _, h => by simp at h
  | [a], i, r, _, h => by
    cases i with
    | zero => simp at h; subst h; rfl
    | succ i => simp at h
  | a :: c :: rs, i, r, u, h => by
    have l := u.lt (i := 0) (j := 1) rfl rfl (by decide)
    cases i with
    | zero =>
      simp at h
      subst h
      rw [posF, if_pos (rlt.mpr l)]
      grind
    | succ i =>
      have u2 : Rises (c :: rs) := (List.pairwise_cons.mp u).2
      have h2 : (c :: rs)[i]? = some r := by simpa using h
      have l2 := u2.le (i := 0) (j := i) rfl h2 (by omega)
      rw [posF, if_neg (by rw [rlt]; omega)]
      exact pos_row u2 h2
theorem pos_mid {f : Rw → Int} {t : Rat} : ∀ {rs : List Rw} {i : Nat} {a c : Rw}, Rises rs → rs[i]? = some a → rs[i + 1]? = some c → (a.h : Rat) ≤ t → t ≤ c.h →
    posF f rs t = (f a : Rat) + ((f c : Rat) - f a) * (t - a.h) / ((c.h : Rat) - a.h)
  | [], _, _, _, _, h, _, _, _ => by simp at h
  | [a], i, _, _, _, h, h', _, _ => by simp at h'
  | r :: q :: rs, i, a, c, u, h, h', e1, e2 => by
    have l := u.lt h h' (by omega)
    cases i with
    | zero =>
      simp at h h'
      subst h
      subst h'
      rw [posF]
      split
      · rfl
      · have e : t = (q.h : Rat) := by grind
        have u2 : Rises (q :: rs) := (List.pairwise_cons.mp u).2
        have l2 := rlt.mpr l
        rw [e, pos_row (i := 0) u2 rfl]
        grind
    | succ i =>
      have u2 : Rises (q :: rs) := (List.pairwise_cons.mp u).2
      have h2 : (q :: rs)[i]? = some a := by simpa using h
      have h3 : (q :: rs)[i + 1]? = some c := by simpa using h'
      have l2 := rle.mpr (u2.le (i := 0) (j := i) rfl h2 (by omega))
      rw [posF, if_neg (by grind)]
      exact pos_mid u2 h2 h3 e1 e2
theorem seg_of {s t : Int} (hst : s < t) : ∀ {rs : List Rw}, Rises rs → (∀ r ∈ rs, ¬ (s < r.h ∧ r.h < t)) → Within rs s → Within rs t → rs ≠ [] →
    ∃ (i : Nat) (a c : Rw), rs[i]? = some a ∧ rs[i + 1]? = some c ∧ a.h ≤ s ∧ t ≤ c.h
  | [], _, _, _, _, h => absurd rfl h
  | [a], _, _, ws, wt, _ => by
    have := ws.lo a rfl
    have := wt.hi a rfl
    omega
  | a :: c :: rs, u, hn, ws, wt, _ => by
    have u2 : Rises (c :: rs) := (List.pairwise_cons.mp u).2
    by_cases hc : c.h ≤ s
    · have hs : Within (c :: rs) s := ⟨fun x e => by simp at e; subst e; exact hc, fun x e => ws.hi x (by simpa using e)⟩
      have ht : Within (c :: rs) t := ⟨fun x e => by simp at e; subst e; omega, fun x e => wt.hi x (by simpa using e)⟩
      obtain ⟨i, x, y, e1, e2, e3, e4⟩ := seg_of hst u2 (fun r hr => hn r (List.mem_cons_of_mem _ hr)) hs ht (by simp)
      exact ⟨i + 1, x, y, by simpa using e1, by simpa using e2, e3, e4⟩
    · have := hn c (by simp)
      exact ⟨0, a, c, rfl, rfl, ws.lo a rfl, by omega⟩
/-- a straight way between two marks -/
theorem pos_line {f : Rw → Int} {rs : List Rw} {s t : Int} (hst : s < t) (u : Rises rs) (hn : ∀ r ∈ rs, ¬ (s < r.h ∧ r.h < t)) (ws : Within rs s) (wt : Within rs t) (ne : rs ≠ []) {z : Rat} (z0 : 0 ≤ z) (z1 : z ≤ 1) :
    posF f rs (s + z * (t - s)) = posF f rs s + z * (posF f rs t - posF f rs s) := by
  obtain ⟨i, a, c, e1, e2, e3, e4⟩ := seg_of hst u hn ws wt ne
  have l := rlt.mpr (u.lt e1 e2 (by omega))
  have h1 := rle.mpr e3
  have h2 := rle.mpr e4
  have h3 := rlt.mpr hst
  have p1 : 0 ≤ z * ((t : Rat) - s) := Rat.mul_nonneg z0 (by grind)
  have p2 : 0 ≤ (1 - z) * ((t : Rat) - s) := Rat.mul_nonneg (by grind) (by grind)
  rw [pos_mid u e1 e2 (t := s + z * (t - s)) (by grind) (by grind), pos_mid u e1 e2 (t := (s : Rat)) (by grind) (by grind), pos_mid u e1 e2 (t := (t : Rat)) (by grind) (by grind)]
  grind
theorem pos_spot {rs : List Rw} (hr : LogOk rs) {t : Int} (hw : Within rs t) : ((spotF rs t).x : Rat) = posF Rw.x rs t * (spotF rs t).h ∧ ((spotF rs t).y : Rat) = posF Rw.y rs t * (spotF rs t).h := by
  by_cases hn : ∀ r ∈ rs, r.h ≠ t
  · obtain ⟨c, ec, mc, _⟩ := LogOk.last hr.n0
    obtain ⟨a, ea, ma, _⟩ := LogOk.first hr.n0
    have hc := hw.hi c ec
    have ha := hw.lo a ea
    have nc := hn c mc
    have na := hn a ma
    obtain ⟨n, p, q, e1, e2, e3, e4, e5⟩ := ahead_of (t := t) hr.up hn (fun a' ha' => by rw [ea] at ha'; cases ha'; omega) ec (by omega)
    have l4 := rlt.mpr e4
    have l5 := rlt.mpr e5
    rw [spot_mid e4 e5 hr.up e2 e3, pos_mid hr.up e2 e3 (by grind) (by grind), pos_mid hr.up e2 e3 (by grind) (by grind)]
    simp only [Rat.intCast_add, Rat.intCast_mul, Rat.intCast_sub]
    constructor <;> grind
  · simp only [Classical.not_forall, Classical.not_not] at hn
    obtain ⟨r, hr2, e⟩ := hn
    obtain ⟨i, hi⟩ := List.mem_iff_getElem?.mp hr2
    rw [spot_row e hr.up hi, ← e, pos_row hr.up hi, pos_row hr.up hi]
    simp
def d2 (a b : List Rw) (t : Rat) : Rat := (posF Rw.x a t - posF Rw.x b t) * (posF Rw.x a t - posF Rw.x b t) + (posF Rw.y a t - posF Rw.y b t) * (posF Rw.y a t - posF Rw.y b t)
/-- D is the least between b and e, t the first moment of it -/
structure Best (f : Rat → Rat) (b e D t : Rat) : Prop where
  lo : b ≤ t
  hi : t ≤ e
  at_ : f t = D
  le : ∀ s, b ≤ s → s ≤ e → D ≤ f s
  lt : ∀ s, b ≤ s → s < t → D < f s
theorem Best.uniq {f g : Rat → Rat} {b e D t D' t' : Rat} (h : Best f b e D t) (h' : Best g b e D' t') (fg : ∀ s, b ≤ s → s ≤ e → f s = g s) : D = D' ∧ t = t' := by
  have a1 := h.le t' h'.lo h'.hi
  have a2 := h'.le t h.lo h.hi
  have b1 := fg t h.lo h.hi
  have b2 := fg t' h'.lo h'.hi
  have c1 := h.at_
  have c2 := h'.at_
  have e : D = D' := by grind
  refine ⟨e, ?_⟩
  have l1 := h.lt t' h'.lo
  have l2 := h'.lt t h.lo
  grind
theorem Best.more {f : Rat → Rat} {b m e D t D' t' : Rat} (h : Best f b m D t) (h' : Best f m e D' t') (bm : b ≤ m) (me : m ≤ e) : (D' < D → Best f b e D' t') ∧ (D ≤ D' → Best f b e D t) := by
  refine ⟨fun l => ⟨by have := h'.lo; grind, h'.hi, h'.at_, fun s s0 s1 => ?_, fun s s0 s1 => ?_⟩, fun l => ⟨h.lo, by have := h.hi; grind, h.at_, fun s s0 s1 => ?_, fun s s0 s1 => h.lt s s0 s1⟩⟩
  · by_cases c : s ≤ m
    · have := h.le s s0 c
      grind
    · exact h'.le s (by grind) s1
  · by_cases c : s ≤ m
    · have := h.le s s0 c
      grind
    · exact h'.lt s (by grind) s1
  · by_cases c : s ≤ m
    · exact h.le s s0 c
    · have := h'.le s (by grind) s1
      grind
theorem Best.point (f : Rat → Rat) (b : Rat) : Best f b b (f b) b := ⟨Rat.le_refl, Rat.le_refl, rfl, fun s h1 h2 => by
  have : s = b := by grind
  rw [this]; exact Rat.le_refl, fun s h1 h2 => by grind⟩
theorem rpos {k a : Rat} (hk : 0 < k) : 0 ≤ k * a ↔ 0 ≤ a := ⟨fun h => by
  refine Classical.byContradiction fun n => ?_
  have := Rat.mul_lt_mul_of_pos_left (a := a) (b := 0) (by grind) hk
  grind, fun h => Rat.mul_nonneg (by grind) h⟩
theorem rpos' {k a : Rat} (hk : 0 < k) : 0 < k * a ↔ 0 < a := ⟨fun h => by
  refine Classical.byContradiction fun n => ?_
  have := (rpos (k := k) (a := -a) hk).mpr (by grind)
  grind, fun h => Rat.mul_pos hk h⟩
theorem rsq (a : Rat) : 0 ≤ a * a := by
  by_cases h : 0 ≤ a
  · exact Rat.mul_nonneg h h
  · have := Rat.mul_nonneg (a := -a) (b := -a) (by grind) (by grind)
    grind
theorem rsq' {a : Rat} (h : a ≠ 0) : 0 < a * a := by
  by_cases h0 : 0 ≤ a
  · exact Rat.mul_pos (by grind) (by grind)
  · have := Rat.mul_pos (a := -a) (b := -a) (by grind) (by grind)
    grind
theorem part_of {s t q : Rat} (st : s < t) (h1 : s ≤ q) (h2 : q ≤ t) : ∃ z : Rat, 0 ≤ z ∧ z ≤ 1 ∧ q = s + z * (t - s) ∧ (q < t → z < 1) := by
  have e : (q - s) / (t - s) * (t - s) = q - s := by grind
  have p : 0 < t - s := by grind
  refine ⟨(q - s) / (t - s), ?_, ?_, by grind, fun l => ?_⟩
  · rw [← rpos p]; grind
  · have := (rpos (k := t - s) (a := 1 - (q - s) / (t - s)) p).mp (by grind)
    grind
  · have := (rpos' (k := t - s) (a := 1 - (q - s) / (t - s)) p).mp (by grind)
    grind
theorem line_best {f : Rat → Rat} {s t x y u v : Rat} (st : s < t) (hf : ∀ z, 0 ≤ z → z ≤ 1 → f (s + z * (t - s)) = (x + z * (u - x)) * (x + z * (u - x)) + (y + z * (v - y)) * (y + z * (v - y))) :
    (0 ≤ x * (u - x) + y * (v - y) → Best f s t (x * x + y * y) s) ∧
    (x * (u - x) + y * (v - y) < 0 → x * (u - x) + y * (v - y) + ((u - x) * (u - x) + (v - y) * (v - y)) ≤ 0 → Best f s t (u * u + v * v) t) ∧
    (x * (u - x) + y * (v - y) < 0 → 0 < x * (u - x) + y * (v - y) + ((u - x) * (u - x) + (v - y) * (v - y)) →
      Best f s t ((x * (v - y) - y * (u - x)) * (x * (v - y) - y * (u - x)) / ((u - x) * (u - x) + (v - y) * (v - y))) (s + -(x * (u - x) + y * (v - y)) / ((u - x) * (u - x) + (v - y) * (v - y)) * (t - s))) := by
  have key : ∀ z, 0 ≤ z → z ≤ 1 → f (s + z * (t - s)) = x * x + y * y + 2 * (x * (u - x) + y * (v - y)) * z + ((u - x) * (u - x) + (v - y) * (v - y)) * (z * z) := fun z z0 z1 => by
    rw [hf z z0 z1]
    grind
  have fs : f s = x * x + y * y := by
    have := key 0 (by decide) (by decide)
    rw [Rat.zero_mul, Rat.add_zero] at this
    rw [this]
    grind
  have ft : f t = u * u + v * v := by
    have := hf 1 (by decide) (by decide)
    rw [Rat.one_mul] at this
    have e : s + (t - s) = t := by grind
    rw [e] at this
    rw [this]
    grind
  have w0 : 0 ≤ (u - x) * (u - x) + (v - y) * (v - y) := by
    have := rsq (u - x)
    have := rsq (v - y)
    grind
  have eu : u * u + v * v = x * x + y * y + 2 * (x * (u - x) + y * (v - y)) + ((u - x) * (u - x) + (v - y) * (v - y)) := by grind
  have ea : (x * (v - y) - y * (u - x)) * (x * (v - y) - y * (u - x)) = (x * x + y * y) * ((u - x) * (u - x) + (v - y) * (v - y)) - (x * (u - x) + y * (v - y)) * (x * (u - x) + y * (v - y)) := by grind
  rw [ea, eu]
  rw [eu] at ft
  clear eu ea hf
  generalize x * (u - x) + y * (v - y) = al at *
  generalize (u - x) * (u - x) + (v - y) * (v - y) = w at *
  generalize x * x + y * y = a at *
  refine ⟨fun h => ⟨Rat.le_refl, by grind, fs, fun q q0 q1 => ?_, fun q q0 q1 => by grind⟩, fun h1 h2 => ⟨by grind, Rat.le_refl, ft, fun q q0 q1 => ?_, fun q q0 q1 => ?_⟩, fun h1 h2 => ?_⟩
  · obtain ⟨z, z0, z1, rfl, _⟩ := part_of st q0 q1
    rw [key z z0 z1]
    have := Rat.mul_nonneg h z0
    have := Rat.mul_nonneg w0 (rsq z)
    grind
  · obtain ⟨z, z0, z1, rfl, _⟩ := part_of st q0 q1
    rw [key z z0 z1]
    have p1 := Rat.mul_nonneg (a := 1 - z) (b := -al) (by grind) (by grind)
    have p2 := Rat.mul_nonneg (a := 1 - z) (b := -(al + w)) (by grind) (by grind)
    have p3 := Rat.mul_nonneg (Rat.mul_nonneg (a := 1 - z) (b := 1 - z) (by grind) (by grind)) w0
    grind
  · obtain ⟨z, z0, z1, rfl, zl⟩ := part_of st q0 (by grind)
    have zl := zl q1
    rw [key z z0 z1]
    clear key
    by_cases hs : al + w < 0
    · have p2 := Rat.mul_pos (a := 1 - z) (b := -(al + w)) (by grind) (by grind)
      have p3 := Rat.mul_nonneg (Rat.mul_nonneg (a := 1 - z) (b := 1 - z) (by grind) (by grind)) w0
      grind
    · have p2 := Rat.mul_nonneg (a := 1 - z) (b := -(al + w)) (by grind) (by grind)
      have p3 := Rat.mul_pos (Rat.mul_pos (a := 1 - z) (b := 1 - z) (by grind) (by grind)) (show 0 < w by grind)
      grind
  · have wp : 0 < w := by grind
    obtain ⟨m, em⟩ : ∃ m : Rat, m = -al / w := ⟨_, rfl⟩
    have mw : w * m = -al := by grind
    have m0 : 0 < m := (rpos' wp).mp (by grind)
    have m1 : 0 < 1 - m := (rpos' wp).mp (by grind)
    rw [← em]
    have ev : ∀ z, 0 ≤ z → z ≤ 1 → f (s + z * (t - s)) = (a * w - al * al) / w + w * ((z - m) * (z - m)) := fun z z0 z1 => by
      rw [key z z0 z1]
      grind
    have fm : f (s + m * (t - s)) = (a * w - al * al) / w := by
      rw [ev m (by grind) (by grind)]
      grind
    have b1 : 0 ≤ m * (t - s) := Rat.mul_nonneg (by grind) (by grind)
    have b2 : 0 ≤ (1 - m) * (t - s) := Rat.mul_nonneg (by grind) (by grind)
    refine ⟨by grind, by grind, fm, fun q q0 q1 => ?_, fun q q0 q1 => ?_⟩
    · obtain ⟨z, z0, z1, rfl, _⟩ := part_of st q0 q1
      rw [ev z z0 z1]
      have := Rat.mul_nonneg w0 (rsq (z - m))
      grind
    · obtain ⟨z, z0, z1, rfl, _⟩ := part_of st q0 (by grind)
      rw [ev z z0 z1]
      have ne : z - m ≠ 0 := fun e => by
        have : z = m := by grind
        rw [this] at q1
        grind
      have := Rat.mul_pos wp (rsq' ne)
      grind
theorem low_uniq {p q p' q' : Int} (h : 0 < q) (h' : 0 < q') (e : p * q' = p' * q) : lowN p q = lowN p' q' ∧ lowB p q = lowB p' q' := by
  have l := low_of p h
  have l' := low_of p' h'
  have e1 := l.eq
  have e2 := l'.eq
  have b0 := l.b0
  have b0' := l'.b0
  have c := l.co
  have c' := l'.co
  generalize lowN p q = n at *
  generalize lowB p q = b at *
  generalize lowN p' q' = n' at *
  generalize lowB p' q' = b' at *
  have hc : n * b' = n' * b := by
    have z : (q * q') * (n * b') = (q * q') * (n' * b) := by
      have a1 : (q * q') * (n * b') = (n * q) * (q' * b') := by grind
      have a2 : (q * q') * (n' * b) = (n' * q') * (q * b) := by grind
      rw [a1, a2, e1, e2]
      have a3 : p * b * (q' * b') = (p * q') * (b * b') := by grind
      have a4 : p' * b' * (q * b) = (p' * q) * (b * b') := by grind
      rw [a3, a4, e]
    exact Int.eq_of_mul_eq_mul_left (Int.ne_of_gt (Int.mul_pos h h')) z
  have d1 : b ∣ b' := by
    rw [← Int.natAbs_dvd_natAbs]
    refine Nat.Coprime.dvd_of_dvd_mul_left (m := n.natAbs) ?_ ?_
    · show Nat.gcd b.natAbs n.natAbs = 1
      rw [Nat.gcd_comm]
      exact c
    · rw [← Int.natAbs_mul, hc, Int.natAbs_mul]
      exact Nat.dvd_mul_left _ _
  have d2 : b' ∣ b := by
    rw [← Int.natAbs_dvd_natAbs]
    refine Nat.Coprime.dvd_of_dvd_mul_left (m := n'.natAbs) ?_ ?_
    · show Nat.gcd b'.natAbs n'.natAbs = 1
      rw [Nat.gcd_comm]
      exact c'
    · rw [← Int.natAbs_mul, ← hc, Int.natAbs_mul]
      exact Nat.dvd_mul_left _ _
  have eb : b = b' := Int.dvd_antisymm (by omega) (by omega) d1 d2
  subst eb
  exact ⟨Int.eq_of_mul_eq_mul_right (by omega) hc, rfl⟩
theorem low_same {p q p' q' : Int} (h : 0 < q) (h' : 0 < q') (e : (p : Rat) / q = (p' : Rat) / q') : lowD p q = lowD p' q' := by
  have r1 := rlt.mpr h
  have r2 := rlt.mpr h'
  have z : (p : Rat) * q' = p' * q := by grind
  rw [← Rat.intCast_mul, ← Rat.intCast_mul, Rat.intCast_inj] at z
  obtain ⟨a, b⟩ := low_uniq h h' z
  unfold lowD
  rw [a, b]
theorem low_one (s : Int) : lowD s 1 = .tuple [.int s, .int 1] := by
  unfold lowD lowN lowB
  rw [Int.gcd_one]
  show PyData.tuple [.int (s.fdiv 1), .int ((1 : Int).fdiv 1)] = _
  rw [Int.fdiv_one]
  rfl
theorem low_rat (p : Int) {q : Int} (h : 0 < q) : (lowN p q : Rat) / lowB p q = (p : Rat) / q := by
  have l := low_of p h
  have e := l.eq
  have r1 := rlt.mpr h
  have r2 := rlt.mpr l.b0
  have z : (lowN p q : Rat) * q = p * lowB p q := by
    rw [← Rat.intCast_mul, ← Rat.intCast_mul, e]
  grind
/-- a place by parts as a rational place -/
structure Tell (g : Rw) (x y : Rat) : Prop where
  x : (g.x : Rat) = x * g.h
  y : (g.y : Rat) = y * g.h
def gx (a b : List Rw) (t : Rat) : Rat := posF Rw.x a t - posF Rw.x b t
def gy (a b : List Rw) (t : Rat) : Rat := posF Rw.y a t - posF Rw.y b t
theorem gap_tell {a b : List Rw} (ha : LogOk a) (hb : LogOk b) {t : Int} (wa : Within a t) (wb : Within b t) {c : Int} : Tell ⟨c * (gapF a b t).h, c * (gapF a b t).x, c * (gapF a b t).y⟩ (gx a b t) (gy a b t) := by
  obtain ⟨p1, p2⟩ := pos_spot ha wa
  obtain ⟨q1, q2⟩ := pos_spot hb wb
  unfold gapF gx gy
  constructor
  · show ((c * ((spotF a t).x * (spotF b t).h - (spotF b t).x * (spotF a t).h) : Int) : Rat) = _ * ((c * ((spotF a t).h * (spotF b t).h) : Int) : Rat)
    simp only [Rat.intCast_mul, Rat.intCast_sub, p1, q1]
    grind
  · show ((c * ((spotF a t).y * (spotF b t).h - (spotF b t).y * (spotF a t).h) : Int) : Rat) = _ * ((c * ((spotF a t).h * (spotF b t).h) : Int) : Rat)
    simp only [Rat.intCast_mul, Rat.intCast_sub, p2, q2]
    grind
/-- no row of either log strictly between -/
structure Clear (a b : List Rw) (s t : Int) : Prop where
  a : ∀ r ∈ a, ¬ (s < r.h ∧ r.h < t)
  b : ∀ r ∈ b, ¬ (s < r.h ∧ r.h < t)
theorem LogOk.ne {rs : List Rw} (h : LogOk rs) : rs ≠ [] := fun e => by
  have := h.n0
  rw [e] at this
  simp at this
theorem gap_best {a b : List Rw} (ha : LogOk a) (hb : LogOk b) {s t : Int} (st : s ≤ t) (wa : Within a s) (wb : Within b s) (wa' : Within a t) (wb' : Within b t) (cl : Clear a b s t) :
    (0 ≤ gx a b s * (gx a b t - gx a b s) + gy a b s * (gy a b t - gy a b s) → Best (d2 a b) s t (gx a b s * gx a b s + gy a b s * gy a b s) s) ∧
    (gx a b s * (gx a b t - gx a b s) + gy a b s * (gy a b t - gy a b s) < 0 → gx a b s * (gx a b t - gx a b s) + gy a b s * (gy a b t - gy a b s) + ((gx a b t - gx a b s) * (gx a b t - gx a b s) + (gy a b t - gy a b s) * (gy a b t - gy a b s)) ≤ 0 → Best (d2 a b) s t (gx a b t * gx a b t + gy a b t * gy a b t) t) ∧
    (gx a b s * (gx a b t - gx a b s) + gy a b s * (gy a b t - gy a b s) < 0 → 0 < gx a b s * (gx a b t - gx a b s) + gy a b s * (gy a b t - gy a b s) + ((gx a b t - gx a b s) * (gx a b t - gx a b s) + (gy a b t - gy a b s) * (gy a b t - gy a b s)) →
      Best (d2 a b) s t ((gx a b s * (gy a b t - gy a b s) - gy a b s * (gx a b t - gx a b s)) * (gx a b s * (gy a b t - gy a b s) - gy a b s * (gx a b t - gx a b s)) / ((gx a b t - gx a b s) * (gx a b t - gx a b s) + (gy a b t - gy a b s) * (gy a b t - gy a b s)))
        (s + -(gx a b s * (gx a b t - gx a b s) + gy a b s * (gy a b t - gy a b s)) / ((gx a b t - gx a b s) * (gx a b t - gx a b s) + (gy a b t - gy a b s) * (gy a b t - gy a b s)) * (t - s))) := by
  by_cases e : s = t
  · subst e
    refine ⟨fun _ => Best.point (d2 a b) s, fun h => ?_, fun h => ?_⟩ <;> exact absurd h (by grind)
  · have l : s < t := by omega
    refine line_best (rlt.mpr l) fun z z0 z1 => ?_
    unfold d2
    rw [pos_line l ha.up cl.a wa wa' ha.ne z0 z1, pos_line l ha.up cl.a wa wa' ha.ne z0 z1, pos_line l hb.up cl.b wb wb' hb.ne z0 z1, pos_line l hb.up cl.b wb wb' hb.ne z0 z1]
    unfold gx gy
    grind
theorem rat_lt {p q p' q' : Int} (h : 0 < q) (h' : 0 < q') : p * q' < p' * q ↔ (p : Rat) / q < (p' : Rat) / q' := by
  have r1 := rlt.mpr h
  have r2 := rlt.mpr h'
  have e1 : ((q : Rat) * q') * ((p' : Rat) / q' - (p : Rat) / q) = p' * q - p * q' := by grind
  have z := rpos' (k := (q : Rat) * q') (a := (p' : Rat) / q' - (p : Rat) / q) (Rat.mul_pos r1 r2)
  rw [e1] at z
  rw [← rlt, Rat.intCast_mul, Rat.intCast_mul]
  constructor
  · intro h3
    have := z.mp (by grind)
    grind
  · intro h3
    have := z.mpr (by grind)
    grind
theorem rise_next {l : List Int} (u : l.Pairwise (· < ·)) {k : Nat} {c d x : Int} (hc : l[k]? = some c) (hd : l[k + 1]? = some d) (hx : x ∈ l) : ¬ (c < x ∧ x < d) := by
  obtain ⟨i, hi⟩ := List.mem_iff_getElem?.mp hx
  obtain ⟨k1, rfl⟩ := List.getElem?_eq_some_iff.mp hc
  obtain ⟨k2, rfl⟩ := List.getElem?_eq_some_iff.mp hd
  obtain ⟨k3, rfl⟩ := List.getElem?_eq_some_iff.mp hi
  rintro ⟨h1, h2⟩
  rcases Nat.lt_trichotomy i k with z | z | z
  · have := List.pairwise_iff_getElem.mp u i k k3 k1 z
    omega
  · subst z
    omega
  · rcases Nat.lt_or_ge (k + 1) i with z2 | z2
    · have := List.pairwise_iff_getElem.mp u (k + 1) i k2 k3 z2
      omega
    · have : i = k + 1 := by omega
      subst this
      omega
theorem rise_le {l : List Int} (u : l.Pairwise (· < ·)) {i j : Nat} {c d : Int} (hc : l[i]? = some c) (hd : l[j]? = some d) (h : i ≤ j) : c ≤ d := by
  obtain ⟨k1, rfl⟩ := List.getElem?_eq_some_iff.mp hc
  obtain ⟨k2, rfl⟩ := List.getElem?_eq_some_iff.mp hd
  rcases Nat.lt_or_eq_of_le h with z | z
  · exact Int.le_of_lt (List.pairwise_iff_getElem.mp u i j k1 k2 z)
  · subst z
    exact Int.le_refl _
theorem frac1 {T W C : Rat} (hT : 0 < T) (hW : 0 < W) : T * T * C / (T * W * T) = C / W := by
  have := Rat.mul_pos (Rat.mul_pos hT hW) hT
  grind
theorem frac2 {T W A s d : Rat} (hT : 0 < T) (hW : 0 < W) : (s * (T * W) - T * A * d) / (T * W) = s + -A / W * d := by
  have := Rat.mul_pos hT hW
  grind
theorem leastB_q {a b : List Rw} (ha : LogOk a) (hb : LogOk b) {s t : Int} (st : s ≤ t) (cl : Clear a b s t) (wa : Within a s) (wb : Within b s) (wa' : Within a t) (wb' : Within b t) (s0 : 0 ≤ s) (s1 : s ≤ 100000) (t0 : 0 ≤ t) (t1 : t ≤ 100000) (K : PyData → Prop)
    (h : ∀ (p q p' q' : Int), 0 < q → 0 < q' → Bd 120 p → Bd 120 q → Bd 120 p' → Bd 120 q' → Best (d2 a b) s t ((p : Rat) / q) ((p' : Rat) / q') → K (.tuple [lowD p q, lowD p' q'])) : q_least_between (logD a) (logD b) (.int s) (.int t) K := by
  unfold q_least_between
  refine apart_q ha hb wa wb s0 s1 _ fun c g c0 eg okg => ?_
  walk_at "q"
  refine apart_q ha hb wa' wb' t0 t1 _ fun d k d0 ek okk => ?_
  have tg : Tell g (gx a b s) (gy a b s) := by rw [eg]; exact gap_tell ha hb wa wb
  have tk : Tell k (gx a b t) (gy a b t) := by rw [ek]; exact gap_tell ha hb wa' wb'
  have gb := gap_best ha hb st wa wb wa' wb' cl
  clear eg ek cl
  obtain ⟨g0, g1, g2, g3⟩ := okg
  obtain ⟨k0, k1, k2, k3⟩ := okk
  have bs : Bd 5 s := bd5 (by omega) (by omega)
  have bt : Bd 5 t := bd5 (by omega) (by omega)
  have xb : Bd 27 (g.x * k.h) := g2.mul k1
  have yb : Bd 27 (g.y * k.h) := g3.mul k1
  have ub : Bd 27 (k.x * g.h) := k2.mul g1
  have vb : Bd 27 (k.y * g.h) := k3.mul g1
  have qb : Bd 40 (g.h * g.h * k.h * k.h) := ((g1.mul g1).mul k1).mul k1
  have b0 : 0 < g.h * g.h * k.h * k.h := Int.mul_pos (Int.mul_pos (Int.mul_pos g0 g0) k0) k0
  obtain ⟨S, eS⟩ : ∃ S : Rat, S = (g.h : Rat) * k.h := ⟨_, rfl⟩
  have S0 : 0 < S := by rw [eS]; exact Rat.mul_pos (rlt.mpr g0) (rlt.mpr k0)
  have SS : 0 < S * S := Rat.mul_pos S0 S0
  have ex : ((g.x * k.h : Int) : Rat) = gx a b s * S := by rw [Rat.intCast_mul, tg.x, eS]; grind
  have ey : ((g.y * k.h : Int) : Rat) = gy a b s * S := by rw [Rat.intCast_mul, tg.y, eS]; grind
  have eu : ((k.x * g.h : Int) : Rat) = gx a b t * S := by rw [Rat.intCast_mul, tk.x, eS]; grind
  have ev : ((k.y * g.h : Int) : Rat) = gy a b t * S := by rw [Rat.intCast_mul, tk.y, eS]; grind
  have eQ : ((g.h * g.h * k.h * k.h : Int) : Rat) = S * S := by simp only [Rat.intCast_mul]; rw [eS]; grind
  walk_at "bs"
  generalize g.h * g.h * k.h * k.h = Q at qb b0 eQ ⊢
  generalize g.x * k.h = x at xb ex ⊢
  generalize g.y * k.h = y at yb ey ⊢
  generalize k.x * g.h = u at ub eu ⊢
  generalize k.y * g.h = v at vb ev ⊢
  generalize gx a b s = X at *
  generalize gy a b s = Y at *
  generalize gx a b t = U at *
  generalize gy a b t = V at *
  obtain ⟨gb1, gb2, gb3⟩ := gb
  have du : Bd 28 (u - x) := ub.sub xb
  have dv : Bd 28 (v - y) := vb.sub yb
  have al : ((x * (u - x) + y * (v - y) : Int) : Rat) = (S * S) * (X * (U - X) + Y * (V - Y)) := by
    simp only [Rat.intCast_add, Rat.intCast_mul, Rat.intCast_sub, ex, ey, eu, ev]
    grind
  have sw : (((u - x) * (u - x) + (v - y) * (v - y) : Int) : Rat) = (S * S) * ((U - X) * (U - X) + (V - Y) * (V - Y)) := by
    simp only [Rat.intCast_add, Rat.intCast_mul, Rat.intCast_sub, ex, ey, eu, ev]
    grind
  have alp : 0 ≤ x * (u - x) + y * (v - y) ↔ 0 ≤ X * (U - X) + Y * (V - Y) := by
    rw [← rle, al]
    exact rpos SS
  have asp : 0 < x * (u - x) + y * (v - y) + ((u - x) * (u - x) + (v - y) * (v - y)) ↔ 0 < X * (U - X) + Y * (V - Y) + ((U - X) * (U - X) + (V - Y) * (V - Y)) := by
    rw [← rlt, Rat.intCast_add, al, sw, ← Rat.mul_add]
    exact rpos' SS
  have Q0 := rlt.mpr b0
  have one1 : Bd 120 1 := bd1.mono (by decide)
  refine bIf_d (fun e1 => ?_) fun e1 => ?_
  · walk_at "bs"
    have pb : Bd 55 (x * x + y * y) := (xb.mul xb).add (yb.mul yb)
    refine lowest_q b0 (bd_le qb (by decide)) _ ?_
    rw [← low_one]
    refine h _ _ _ _ b0 (by decide) (pb.mono (by decide)) (qb.mono (by decide)) (bs.mono (by decide)) one1 ?_
    have f1 : ((x * x + y * y : Int) : Rat) / (Q : Rat) = X * X + Y * Y := by
      simp only [Rat.intCast_add, Rat.intCast_mul, ex, ey, eQ]
      grind
    have f2 : (s : Rat) / ((1 : Int) : Rat) = s := by grind
    rw [f1, f2]
    exact gb1 (alp.mp e1)
  · have n1 : X * (U - X) + Y * (V - Y) < 0 := by
      have := mt alp.mpr e1
      grind
    walk_at "bs"
    refine bIf_d (fun e2 => ?_) fun e2 => ?_
    · have eu' : x + (u - x) = u := by omega
      have ev' : y + (v - y) = v := by omega
      rw [eu', ev']
      walk_at "bs"
      have pb : Bd 55 (u * u + v * v) := (ub.mul ub).add (vb.mul vb)
      refine lowest_q b0 (bd_le qb (by decide)) _ ?_
      rw [← low_one]
      refine h _ _ _ _ b0 (by decide) (pb.mono (by decide)) (qb.mono (by decide)) (bt.mono (by decide)) one1 ?_
      have f1 : ((u * u + v * v : Int) : Rat) / (Q : Rat) = U * U + V * V := by
        simp only [Rat.intCast_add, Rat.intCast_mul, eu, ev, eQ]
        grind
      have f2 : (t : Rat) / ((1 : Int) : Rat) = t := by grind
      rw [f1, f2]
      refine gb2 n1 ?_
      have := mt asp.mpr (by omega)
      grind
    · have n2 := asp.mp (by omega)
      walk_at "bs"
      have cb : Bd 56 (x * (v - y) - y * (u - x)) := (xb.mul dv).sub (yb.mul du)
      have sb : Bd 57 ((u - x) * (u - x) + (v - y) * (v - y)) := (du.mul du).add (dv.mul dv)
      have ab : Bd 56 (x * (u - x) + y * (v - y)) := (xb.mul du).add (yb.mul dv)
      have s0 : 0 < (u - x) * (u - x) + (v - y) * (v - y) := by omega
      have z0 := Int.mul_pos s0 b0
      have zb : Bd 97 (((u - x) * (u - x) + (v - y) * (v - y)) * Q) := sb.mul qb
      refine lowest_q z0 (bd_le zb (by decide)) _ ?_
      have te : Bd 6 (t - s) := bt.sub bs
      have mb : Bd 63 (s * ((u - x) * (u - x) + (v - y) * (v - y)) - (x * (u - x) + y * (v - y)) * (t - s)) := (bs.mul sb).sub (ab.mul te)
      walk_at "bs"
      refine lowest_q s0 (bd_le sb (by decide)) _ ?_
      refine h _ _ _ _ z0 s0 ((cb.mul cb).mono (by decide)) (zb.mono (by decide)) (mb.mono (by decide)) (sb.mono (by decide)) ?_
      have W0 : 0 < (U - X) * (U - X) + (V - Y) * (V - Y) := by grind
      have f1 : (((x * (v - y) - y * (u - x)) * (x * (v - y) - y * (u - x)) : Int) : Rat) / ((((u - x) * (u - x) + (v - y) * (v - y)) * Q : Int) : Rat) = (X * (V - Y) - Y * (U - X)) * (X * (V - Y) - Y * (U - X)) / ((U - X) * (U - X) + (V - Y) * (V - Y)) := by
        have g1 : (((x * (v - y) - y * (u - x)) * (x * (v - y) - y * (u - x)) : Int) : Rat) = (S * S) * (S * S) * ((X * (V - Y) - Y * (U - X)) * (X * (V - Y) - Y * (U - X))) := by
          simp only [Rat.intCast_sub, Rat.intCast_mul, ex, ey, eu, ev]
          grind
        rw [g1, Rat.intCast_mul, sw, eQ]
        exact frac1 SS W0
      have f2 : ((s * ((u - x) * (u - x) + (v - y) * (v - y)) - (x * (u - x) + y * (v - y)) * (t - s) : Int) : Rat) / (((u - x) * (u - x) + (v - y) * (v - y) : Int) : Rat) = s + -(X * (U - X) + Y * (V - Y)) / ((U - X) * (U - X) + (V - Y) * (V - Y)) * (t - s) := by
        rw [Rat.intCast_sub, Rat.intCast_mul, Rat.intCast_mul, sw, al, Rat.intCast_sub]
        exact frac2 SS W0
      rw [f1, f2]
      exact gb3 n1 n2
theorem nearestB_q {a b : List Rw} (ha : LogOk a) (hb : LogOk b) {lo hi : Int} (l0 : 0 ≤ lo) (h1 : hi ≤ 100000) (K : PyData → Prop) (k0 : eE a b hi < bE a b lo → K .none)
    (k1 : bE a b lo ≤ eE a b hi → ∀ (p q p' q' : Int), 0 < q → 0 < q' → Bd 120 p → Bd 120 q → Bd 120 p' → Bd 120 q' → Best (d2 a b) (bE a b lo) (eE a b hi) ((p : Rat) / q) ((p' : Rat) / q') → K (.tuple [lowD p q, lowD p' q'])) : q_nearest_of (logD a) (logD b) (.int lo) (.int hi) K := by
  unfold q_nearest_of
  refine hours_q ha hb _ (fun e => ?_) fun e => ?_
  · walk_at "q"
    exact k0 e
  · have k1 := k1 e
    walk_at "q"
    refine marks_q ha hb _ fun ms m1 m2 => ?_
    have bd : ∀ t ∈ ms, Within a t ∧ Within b t ∧ 0 ≤ t ∧ t ≤ 100000 := fun t ht => by
      obtain ⟨i1, i2⟩ := mk_in e ((m2 t).mp ht)
      obtain ⟨w1, w2, w3, w4⟩ := within_of i1 i2
      exact ⟨w1, w2, by omega, by omega⟩
    have inn : ∀ t ∈ ms, bE a b lo ≤ t ∧ t ≤ eE a b hi := fun t ht => mk_in e ((m2 t).mp ht)
    have hB : bE a b lo ∈ ms := (m2 _).mpr (by unfold mkH; simp)
    have hE : eE a b hi ∈ ms := (m2 _).mpr (by unfold mkH; simp)
    have clear : ∀ (k : Nat) (c d : Int), ms[k]? = some c → ms[k + 1]? = some d → Clear a b c d := fun k c d hc hd => by
      have i1 := inn c (List.mem_of_getElem? hc)
      have i2 := inn d (List.mem_of_getElem? hd)
      have go : ∀ r ∈ a ++ b, ¬ (c < r.h ∧ r.h < d) := fun r hr z => by
        refine rise_next m1 hc hd ((m2 r.h).mpr ?_) z
        unfold mkH
        refine List.mem_cons_of_mem _ (List.mem_cons_of_mem _ (List.mem_map.mpr ⟨r, List.mem_filter.mpr ⟨hr, ?_⟩, rfl⟩))
        simp only [Bool.and_eq_true, decide_eq_true_eq]
        omega
      exact ⟨fun r hr => go r (List.mem_append_left _ hr), fun r hr => go r (List.mem_append_right _ hr)⟩
    obtain ⟨m, ns, rfl⟩ : ∃ m ns, ms = m :: ns := by
      cases ms with
      | nil => exact absurd hB (by simp)
      | cons m ns => exact ⟨m, ns, rfl⟩
    have em : m = bE a b lo := by
      obtain ⟨i, hi'⟩ := List.mem_iff_getElem?.mp hB
      have := rise_le m1 (i := 0) (j := i) rfl hi' (by omega)
      have := (inn m (by simp)).1
      omega
    have el : (m :: ns)[ns.length]? = some (eE a b hi) := by
      obtain ⟨i, hi'⟩ := List.mem_iff_getElem?.mp hE
      have hl : ns.length < (m :: ns).length := by simp
      have il := (List.getElem?_eq_some_iff.mp hi').1
      have e2 : (m :: ns)[ns.length]? = some ((m :: ns)[ns.length]) := List.getElem?_eq_getElem hl
      have a1 := rise_le m1 hi' e2 (by simp at il; omega)
      have a2 := (inn _ (List.getElem_mem hl)).2
      rw [e2]
      congr 1
      omega
    obtain ⟨w1, w2, w3, w4⟩ := bd m (by simp)
    have cl0 : Clear a b m m := ⟨fun r _ z => by omega, fun r _ z => by omega⟩
    rw [List.map_cons]
    walk_at "q"
    refine leastB_q ha hb (Int.le_refl _) cl0 w1 w2 w1 w2 w3 w4 w3 w4 _ fun p q p' q' q0 q0' bp bq bp' bq' hp => ?_
    walk_at "q"
    simp only [cut1]
    walk_at "q"
    have hlen : (zipD (PyData.int m :: ns.map .int) (ns.map .int)).length = ns.length := by rw [zipD_length]; simp
    refine qFor_ind (fun k s => ∃ (p q p' q' : Int), s = .tuple [lowD p q, lowD p' q'] ∧ 0 < q ∧ 0 < q' ∧ Bd 120 p ∧ Bd 120 q ∧ Bd 120 p' ∧ Bd 120 q' ∧ ∀ c, (m :: ns)[k]? = some c → Best (d2 a b) (bE a b lo) (c : Int) ((p : Rat) / q) ((p' : Rat) / q'))
      ⟨p, q, p', q', rfl, q0, q0', bp, bq, bp', bq', fun c hc => by simp at hc; subst hc; rw [← em]; exact hp⟩ (fun k d s nx hd hs hnx => ?_) fun s hs => ?_
    · obtain ⟨p, q, p', q', rfl, q0, q0', bp, bq, bp', bq', hp⟩ := hs
      obtain ⟨x, y, e1, e2, rfl⟩ := zipD_get hd
      rw [← List.map_cons (f := PyData.int), List.getElem?_map] at e1
      rw [List.getElem?_map] at e2
      obtain ⟨c, ec, rfl⟩ := Option.map_eq_some_iff.mp e1
      obtain ⟨d, ed, rfl⟩ := Option.map_eq_some_iff.mp e2
      have ed2 : (m :: ns)[k + 1]? = some d := by simpa using ed
      obtain ⟨v1, v2, v3, v4⟩ := bd c (List.mem_of_getElem? ec)
      obtain ⟨u1, u2, u3, u4⟩ := bd d (List.mem_of_getElem? ed2)
      have cd : c ≤ d := rise_le m1 ec ed2 (by omega)
      have bc := (inn c (List.mem_of_getElem? ec)).1
      unfold qb_nearest_of_1
      walk_at "q"
      refine leastB_q ha hb cd (clear k c d ec ed2) v1 v2 u1 u2 v3 v4 u3 u4 _ fun r s r' s' s0 s0' br bs br' bs' hr => ?_
      have more := (hp c ec).more hr (rle.mpr bc) (rle.mpr cd)
      have lt := rat_lt (p := lowN r s) (p' := lowN p q) (low_of r s0).b0 (low_of p q0).b0
      rw [low_rat r s0, low_rat p q0] at lt
      have n1 := low_bd (P := r) s0 br
      have n2 := low_bdB (P := r) s0 bs
      have n3 := low_bd (P := p) q0 bp
      have n4 := low_bdB (P := p) q0 bq
      walk_at "bs"
      refine bIf_d (fun z => hnx _ ⟨r, s, r', s', rfl, s0, s0', br, bs, br', bs', fun c' hc' => ?_⟩) fun z => hnx _ ⟨p, q, p', q', rfl, q0, q0', bp, bq, bp', bq', fun c' hc' => ?_⟩
      · rw [ed2] at hc'
        cases hc'
        exact more.1 (lt.mp z)
      · rw [ed2] at hc'
        cases hc'
        refine more.2 ?_
        have := mt lt.mpr z
        grind
    · obtain ⟨p, q, p', q', rfl, q0, q0', bp, bq, bp', bq', hp⟩ := hs
      rw [hlen] at hp
      exact k1 p q p' q' q0 q0' bp bq bp' bq' (hp _ el)
/-! ### logs with more rows, turned logs, later logs -/
theorem LogOk.turnB {rs : List Rw} (h : LogOk rs) {f : Rw → Rw} (d : Int) (eh : ∀ r, (f r).h = r.h + d) (ok : ∀ r ∈ rs, RowOk (f r)) : LogOk (rs.map f) := by
  refine ⟨by rw [List.length_map]; exact h.n0, by rw [List.length_map]; exact h.n1, fun q hq => ?_, ?_⟩
  · obtain ⟨r, hr, rfl⟩ := List.mem_map.mp hq
    exact ok r hr
  · refine List.pairwise_map.mpr (h.up.imp fun {a b} z => ?_)
    rw [eh, eh]
    omega
/-- a moment lies on a way, or it is a row's -/
theorem seg_rat {t : Rat} : ∀ {rs : List Rw}, rs ≠ [] → (∀ a, rs[0]? = some a → (a.h : Rat) ≤ t) → (∀ c, rs[rs.length - 1]? = some c → t ≤ c.h) →
    (∃ (i : Nat) (a c : Rw), rs[i]? = some a ∧ rs[i + 1]? = some c ∧ (a.h : Rat) ≤ t ∧ t ≤ c.h) ∨ ∃ (i : Nat) (r : Rw), rs[i]? = some r ∧ t = r.h
  | [], h, _, _ => absurd rfl h
  | [a], _, h0, h1 => .inr ⟨0, a, rfl, by have := h0 a rfl; have := h1 a rfl; grind⟩
  | a :: c :: rs, _, h0, h1 => by
    by_cases h : t ≤ c.h
    · exact .inl ⟨0, a, c, rfl, rfl, h0 a rfl, h⟩
    · rcases seg_rat (t := t) (rs := c :: rs) (by simp) (fun x e => by simp at e; subst e; grind) (fun x e => h1 x (by simpa using e)) with ⟨i, x, y, e1, e2, e3⟩ | ⟨i, r, e1, e2⟩
      · exact .inl ⟨i + 1, x, y, by simpa using e1, by simpa using e2, e3⟩
      · exact .inr ⟨i + 1, r, by simpa using e1, e2⟩
/-- ts goes where rs goes, from its first row to its last, l -/
structure Goes (rs ts : List Rw) (l : Rw) : Prop where
  up : Rises ts
  ne : ts ≠ []
  hd : ts[0]? = rs[0]?
  lt : ts[ts.length - 1]? = some l
  x : ∀ t : Rat, (∀ a, ts[0]? = some a → (a.h : Rat) ≤ t) → t ≤ l.h → posF Rw.x ts t = posF Rw.x rs t
  y : ∀ t : Rat, (∀ a, ts[0]? = some a → (a.h : Rat) ≤ t) → t ≤ l.h → posF Rw.y ts t = posF Rw.y rs t
theorem goes_one {rs : List Rw} {r : Rw} (h : rs[0]? = some r) (u : Rises rs) : Goes rs [r] r := by
  refine ⟨List.pairwise_singleton _ _, by simp, by rw [h]; rfl, rfl, fun t h0 h1 => ?_, fun t h0 h1 => ?_⟩ <;>
  · have := h0 r rfl
    have e : t = (r.h : Rat) := by grind
    rw [e, pos_row u h]
    rfl
theorem pos_push {f : Rw → Int} {rs ts : List Rw} {l r c q : Rw} {k : Nat} (u : Rises ts) (ne : ts ≠ []) (lt : ts[ts.length - 1]? = some l) (lr : l.h < r.h)
    (hx : ∀ t : Rat, (∀ a, ts[0]? = some a → (a.h : Rat) ≤ t) → t ≤ l.h → posF f ts t = posF f rs t) (ur : Rises rs) (e1 : rs[k]? = some c) (e2 : rs[k + 1]? = some q) (cl : c.h ≤ l.h) (rq : r.h ≤ q.h)
    (hr : posF f rs r.h = f r) : ∀ t : Rat, (∀ a, (ts ++ [r])[0]? = some a → (a.h : Rat) ≤ t) → t ≤ r.h → posF f (ts ++ [r]) t = posF f rs t := by
  intro t h0 h1
  have ul : ∀ q ∈ ts, q.h < r.h := fun q hq => by
    obtain ⟨i, hi⟩ := List.mem_iff_getElem?.mp hq
    have := u.le hi lt (by have := (List.getElem?_eq_some_iff.mp hi).1; omega)
    omega
  have uu : Rises (ts ++ [r]) := u.push ul
  have tl : 0 < ts.length := List.length_pos_iff.mpr ne
  have h00 : ∀ a, ts[0]? = some a → (a.h : Rat) ≤ t := fun a ha => h0 a (by rw [List.getElem?_append_left tl]; exact ha)
  have inl : ∀ (i : Nat) (a : Rw), ts[i]? = some a → (ts ++ [r])[i]? = some a := fun i a ha => by rw [List.getElem?_append_left (List.getElem?_eq_some_iff.mp ha).1]; exact ha
  have fl : posF f rs l.h = f l := by
    rw [← hx l.h (fun a ha => rle.mpr (u.le ha lt (by omega))) Rat.le_refl]
    exact pos_row u lt
  by_cases h : t ≤ l.h
  · rw [← hx t h00 h]
    rcases seg_rat ne h00 (fun c' hc' => by rw [lt] at hc'; cases hc'; exact h) with ⟨i, a, b, a1, a2, a3, a4⟩ | ⟨i, a, a1, rfl⟩
    · rw [pos_mid u a1 a2 a3 a4, pos_mid uu (inl _ _ a1) (inl _ _ a2) a3 a4]
    · rw [pos_row u a1, pos_row uu (inl _ _ a1)]
  · have g1 : (ts ++ [r])[ts.length - 1]? = some l := inl _ _ lt
    have g2 : (ts ++ [r])[ts.length - 1 + 1]? = some r := by
      have : ts.length - 1 + 1 = ts.length := by omega
      rw [this]
      simp
    have l1 := rle.mpr cl
    have l2 := rle.mpr rq
    have l3 := rlt.mpr lr
    have l4 := rlt.mpr (ur.lt e1 e2 (by omega))
    rw [pos_mid uu g1 g2 (by grind) h1, pos_mid ur e1 e2 (t := t) (by grind) (by grind)]
    rw [pos_mid ur e1 e2 (t := (l.h : Rat)) (by grind) (by grind)] at fl
    rw [pos_mid ur e1 e2 (t := (r.h : Rat)) (by grind) (by grind)] at hr
    rw [← fl, ← hr]
    generalize (f c : Rat) = C
    generalize (f q : Rat) = D
    have g0 : (q.h : Rat) - c.h ≠ 0 := by grind
    have g3 : (r.h : Rat) - l.h ≠ 0 := by grind
    grind
theorem Goes.push {rs ts : List Rw} {l r c q : Rw} {k : Nat} (g : Goes rs ts l) (lr : l.h < r.h) (ur : Rises rs) (e1 : rs[k]? = some c) (e2 : rs[k + 1]? = some q) (cl : c.h ≤ l.h) (rq : r.h ≤ q.h)
    (hx : posF Rw.x rs r.h = r.x) (hy : posF Rw.y rs r.h = r.y) : Goes rs (ts ++ [r]) r := by
  have ul : ∀ q ∈ ts, q.h < r.h := fun q hq => by
    obtain ⟨i, hi⟩ := List.mem_iff_getElem?.mp hq
    have := g.up.le hi g.lt (by have := (List.getElem?_eq_some_iff.mp hi).1; omega)
    omega
  have tl : 0 < ts.length := List.length_pos_iff.mpr g.ne
  exact ⟨g.up.push ul, by simp, by rw [List.getElem?_append_left tl]; exact g.hd, by simp, pos_push g.up g.ne g.lt lr g.x ur e1 e2 cl rq hx, pos_push g.up g.ne g.lt lr g.y ur e1 e2 cl rq hy⟩
theorem mul_out {G Z P : Rat} (h : 0 < G) (e : G * Z = P * G) : P = Z := by
  have hz : G ≠ 0 := by grind
  have e2 : G * Z * G⁻¹ = P * G * G⁻¹ := by rw [e]
  grind
theorem moreB_q {rs : List Rw} (hr : LogOk rs) (K : PyData → Prop) (h : ∀ qs c, LogOk qs → Goes rs qs c → rs[rs.length - 1]? = some c → K (logD qs)) : q_law_more_rows (logD rs) K := by
  unfold q_law_more_rows
  obtain ⟨r0, rest, rfl⟩ : ∃ r0 rest, rs = r0 :: rest := by
    have := hr.n0
    cases rs with
    | nil => simp at this
    | cons r rs => exact ⟨r, rs, rfl⟩
  walk_at "q"
  simp only [List.map_cons, at0, cut1]
  walk_at "q"
  have hlen : (zipD (rowD r0 :: rest.map rowD) (rest.map rowD)).length = rest.length := by rw [zipD_length]; simp
  have hrl : rest.length ≤ 19 := by have := hr.n1; simp at this; omega
  refine qFor_ind (fun k s => ∃ (ts : List Rw) (c : Rw) (e : Nat), s = ts.map rowD ∧ (∀ r ∈ ts, RowOk r) ∧ ts.length = k + 1 + e ∧ (e = 0 ∨ e + rest.length ≤ 17) ∧ (r0 :: rest)[k]? = some c ∧ Goes (r0 :: rest) ts c)
    ⟨[r0], r0, 0, rfl, fun r hm => by rw [List.mem_singleton.mp hm]; exact hr.ok r0 (by simp), by simp, .inl rfl, rfl, goes_one rfl hr.up⟩
    (fun k d s nx hd ⟨ts, c, e, es, ho, hl, he, hc, hg⟩ hnx => ?_) fun s ⟨ts, c, e, es, ho, hl, he, hc, hg⟩ => ?_
  · subst es
    have hk : k < rest.length := by rw [← hlen]; exact (List.getElem?_eq_some_iff.mp hd).1
    obtain ⟨x, y, e1, e2, rfl⟩ := zipD_get hd
    rw [← List.map_cons] at e1
    obtain ⟨p, ep, rfl⟩ := row_get e1
    obtain ⟨q, eq, rfl⟩ := row_get e2
    have eq2 : (r0 :: rest)[k + 1]? = some q := by simpa using eq
    rw [hc] at ep
    cases ep
    have zp := hr.ok c (List.mem_of_getElem? hc)
    have zq := hr.ok q (List.mem_of_getElem? eq2)
    have hpq := hr.up.lt hc eq2 (Nat.lt_succ_self k)
    have p0 := zp.h0
    have p1 := zp.h1
    have q0 := zq.h0
    have q1 := zq.h1
    unfold qb_law_more_rows_1
    simp only [rowD]
    walk_at "go"
    refine qFor_ind (fun j s => ∃ (ts : List Rw) (l : Rw) (e : Nat), s = ts.map rowD ∧ (∀ r ∈ ts, RowOk r) ∧ ts.length = k + 1 + e ∧ (e = 0 ∨ e + rest.length ≤ 17) ∧ c.h ≤ l.h ∧ l.h < q.h ∧ Goes (r0 :: rest) ts l)
      ⟨ts, c, e, rfl, ho, hl, he, Int.le_refl _, hpq, hg⟩ (fun j d s nx2 hd2 ⟨ts, l, e, es, ho, hl, he, cl, lq, hg⟩ hnx2 => ?_) fun s ⟨ts, l, e, es, ho, hl, he, cl, lq, hg⟩ => ?_
    · subst es
      obtain ⟨hour, rfl, t0, t1⟩ : ∃ t : Int, d = .int t ∧ c.h ≤ t ∧ t ≤ q.h := by
        have := List.mem_of_getElem? hd2
        simp only [List.mem_cons, List.not_mem_nil, or_false] at this
        rcases this with rfl | rfl
        · exact ⟨_, rfl, by omega, by omega⟩
        · exact ⟨_, rfl, by omega, by omega⟩
      have hj : j < 2 := (List.getElem?_eq_some_iff.mp hd2).1
      unfold qb_law_more_rows_2
      refine law_spot_q hr (by decide) (by decide) (by omega) (by omega) _ (fun a b ea eb z => ?_) (fun i a b ea eb z1 z2 _ => ?_) fun a ea z => ?_
      · exfalso
        have l1 := hr.up.le ea hc (Nat.zero_le _)
        have l2 := hr.up.le eq2 eb (by simp; omega)
        omega
      · have za := hr.ok a (List.mem_of_getElem? ea)
        have zb := hr.ok b (List.mem_of_getElem? eb)
        have hab := hr.up.lt ea eb (Nat.lt_succ_self i)
        rw [Int.mul_one] at z1 z2
        simp only [Int.mul_one]
        obtain ⟨l', el, ml, pl⟩ := LogOk.last (rs := ts) (by omega)
        have ell : l' = l := by
          have := hg.lt
          rw [el] at this
          exact Option.some.inj this
        subst ell
        have mx := mix_div za.x0 za.x1 zb.x0 zb.x1 (o := hour - a.h) (g := b.h - a.h) (by omega) (by omega) (by omega)
        have my := mix_div za.y0 za.y1 zb.y0 zb.y1 (o := hour - a.h) (g := b.h - a.h) (by omega) (by omega) (by omega)
        have px := pos_mid (f := Rw.x) hr.up ea eb (t := (hour : Rat)) (rle.mpr z1) (rle.mpr z2)
        have py := pos_mid (f := Rw.y) hr.up ea eb (t := (hour : Rat)) (rle.mpr z1) (rle.mpr z2)
        have g1 : 0 < b.h - a.h := by omega
        have gr := rlt.mpr hab
        have ex : ((a.x * (b.h - a.h) + (b.x - a.x) * (hour - a.h) : Int) : Rat) = posF Rw.x (r0 :: rest) hour * ((b.h - a.h : Int) : Rat) := by
          rw [px]
          simp only [Rat.intCast_add, Rat.intCast_mul, Rat.intCast_sub]
          grind
        have ey : ((a.y * (b.h - a.h) + (b.y - a.y) * (hour - a.h) : Int) : Rat) = posF Rw.y (r0 :: rest) hour * ((b.h - a.h : Int) : Rat) := by
          rw [py]
          simp only [Rat.intCast_add, Rat.intCast_mul, Rat.intCast_sub]
          grind
        clear px py
        generalize a.x * (b.h - a.h) + (b.x - a.x) * (hour - a.h) = X at mx ex ⊢
        generalize a.y * (b.h - a.h) + (b.y - a.y) * (hour - a.h) = Y at my ey ⊢
        have sg : Sz (b.h - a.h) := sz_of (by omega) (by have := za.h0; have := zb.h1; omega)
        have gr2 : 0 < ((b.h - a.h : Int) : Rat) := rlt.mpr g1
        have whole : ∀ (Z : Int) (P : Rat), (Z : Rat) = P * ((b.h - a.h : Int) : Rat) → Z % (b.h - a.h) = 0 → P = ((Z / (b.h - a.h) : Int) : Rat) := fun Z P e1 e2 => by
          have e3 := Int.mul_ediv_add_emod Z (b.h - a.h)
          rw [e2, Int.add_zero] at e3
          rw [← e3, Rat.intCast_mul] at e1
          exact mul_out gr2 e1
        walk_at "q"
        simp only [pl]
        walk_at "q"
        simp only [g1, sg, true_and, implies_true, and_true]
        walk_at "q"
        refine bIf_of (fun eb => ?_) fun eb => ?_
        · simp only [Bool.and_eq_true, decide_eq_true_eq] at eb
          refine ⟨by omega, ?_⟩
          refine hnx2 _ ⟨ts ++ [⟨hour, X / (b.h - a.h), Y / (b.h - a.h)⟩], ⟨hour, X / (b.h - a.h), Y / (b.h - a.h)⟩, e + 1, by simp [rowD], fun r hm => ?_, by simp; omega, .inr (by simp at eb; omega), t0, by show hour < q.h; omega, hg.push (by show l'.h < hour; omega) hr.up hc eq2 cl t1 (whole X _ ex (by omega)) (whole Y _ ey (by omega))⟩
          rcases List.mem_append.mp hm with hm | hm
          · exact ho r hm
          · rw [List.mem_singleton.mp hm]
            exact rowOk (by omega) (by omega) mx.1 mx.2 my.1 my.2
        · exact hnx2 _ ⟨ts, l', e, rfl, ho, hl, he, cl, lq, hg⟩
      · exfalso
        have : rest = [] := (List.cons.inj ea).2
        rw [this] at hk
        simp at hk
    · subst es
      walk_at "q"
      refine ⟨by omega, ?_⟩
      refine hnx _ ⟨ts ++ [q], q, e, by simp [rowD], fun r hm => ?_, by simp; omega, he, eq2, hg.push lq hr.up hc eq2 cl (Int.le_refl _) (pos_row hr.up eq2) (pos_row hr.up eq2)⟩
      rcases List.mem_append.mp hm with hm | hm
      · exact ho r hm
      · rw [List.mem_singleton.mp hm]
        exact zq
  · subst es
    rw [hlen] at hl hc
    walk_at "q"
    have et : ts.take 20 = ts := List.take_of_length_le (by omega)
    have e : DL.cutD (ts.map rowD) none (some 20) = (ts.take 20).map rowD := by
      unfold DL.cutD HT.sIx
      rw [List.map_take]
      simp
    rw [e, et]
    exact h _ c ⟨by omega, by omega, ho, hg.up⟩ hg (by simpa using hc)
/-! ### what is told of two logs, and what moving them does to it -/
def Res (a b : List Rw) (lo hi : Int) (d : PyData) : Prop :=
  (eE a b hi < bE a b lo ∧ d = .none) ∨ (bE a b lo ≤ eE a b hi ∧ ∃ p q p' q' : Int, 0 < q ∧ 0 < q' ∧ Bd 120 p' ∧ Bd 120 q' ∧ Best (d2 a b) (bE a b lo) (eE a b hi) ((p : Rat) / q) ((p' : Rat) / q') ∧ d = .tuple [lowD p q, lowD p' q'])
theorem nearest_res {a b : List Rw} (ha : LogOk a) (hb : LogOk b) {lo hi : Int} (l0 : 0 ≤ lo) (lh : lo ≤ hi) (h1 : hi ≤ 100000) (K : PyData → Prop) (h : ∀ d, Res a b lo hi d → K d) : q_nearest (logD a) (logD b) (.int lo) (.int hi) K := by
  unfold q_nearest
  unfold q_need_both
  refine need_log_q ha _ (need_log_q hb _ (need_chase_q l0 lh h1 _ ?_))
  exact nearestB_q ha hb l0 h1 _ (fun e => h _ (.inl ⟨e, rfl⟩)) fun e p q p' q' q0 q0' _ _ b1 b2 hp => h _ (.inr ⟨e, p, q, p', q', q0, q0', b1, b2, hp, rfl⟩)
theorem Res.uniq {a b a' b' : List Rw} {lo hi : Int} {d d' : PyData} (h : Res a b lo hi d) (h' : Res a' b' lo hi d') (e1 : bE a b lo = bE a' b' lo) (e2 : eE a b hi = eE a' b' hi)
    (e : ∀ t : Rat, (bE a b lo : Rat) ≤ t → t ≤ (eE a b hi : Rat) → d2 a b t = d2 a' b' t) : d' = d := by
  rcases h with ⟨h1, rfl⟩ | ⟨h1, p, q, r, s, q0, s0, _, _, hb, rfl⟩
  · rcases h' with ⟨_, rfl⟩ | ⟨h2, _⟩
    · rfl
    · omega
  · rcases h' with ⟨h2, _⟩ | ⟨_, p2, q2, r2, s2, q20, s20, _, _, hb2, rfl⟩
    · omega
    · rw [← e1, ← e2] at hb2
      obtain ⟨z1, z2⟩ := hb.uniq hb2 e
      rw [low_same q0 q20 z1, low_same s0 s20 z2]
theorem res_ne {a b : List Rw} {lo hi : Int} {d d' : PyData} (h : Res a b lo hi d) (e : d' = d) {K : PyData → Prop} (k : K (.bool false)) : oNe d' d K := by
  subst e
  rcases h with ⟨_, rfl⟩ | ⟨_, p, q, r, s, _, _, _, _, _, rfl⟩
  · exact ne_same rfl rfl (by simp [PyData.eqv]) k
  · exact ne_same rfl rfl (by simp [PyData.eqv, PyData.eqvAll]) k
theorem pos_map {f : Rw → Int} {g : Rw → Rw} (h : ∀ r, (g r).h = r.h) (t : Rat) : ∀ rs : List Rw, posF f (rs.map g) t = posF (fun r => f (g r)) rs t
  | [] => rfl
  | [a] => rfl
  | a :: c :: rs => by
    have := pos_map h t (c :: rs) (f := f)
    simp only [List.map_cons] at this ⊢
    rw [posF, posF, h, h, this]
theorem pos_add {f : Rw → Int} {d : Int} (t : Rat) : ∀ {rs : List Rw}, rs ≠ [] → posF (fun r => f r + d) rs t = posF f rs t + d
  | [], h => absurd rfl h
  | [a], _ => by simp only [posF, Rat.intCast_add]
  | a :: c :: rs, _ => by
    have := pos_add (f := f) (d := d) t (rs := c :: rs) (by simp)
    rw [posF, posF, this]
    simp only [Rat.intCast_add]
    split <;> grind
theorem pos_neg {f : Rw → Int} (t : Rat) : ∀ rs : List Rw, posF (fun r => -f r) rs t = -posF f rs t
  | [] => by simp [posF]
  | [a] => by simp only [posF, Rat.intCast_neg]
  | a :: c :: rs => by
    have := pos_neg (f := f) t (c :: rs)
    rw [posF, posF, this]
    simp only [Rat.intCast_neg]
    split <;> grind
theorem pos_shift {f : Rw → Int} {g : Rw → Rw} {d : Int} (h : ∀ r, (g r).h = r.h + d) (hf : ∀ r, f (g r) = f r) (t : Rat) : ∀ rs : List Rw, posF f (rs.map g) (t + d) = posF f rs t
  | [] => rfl
  | [a] => by simp only [List.map_cons, List.map_nil, posF, hf]
  | a :: c :: rs => by
    have := pos_shift h hf t (c :: rs)
    simp only [List.map_cons] at this ⊢
    rw [posF, posF, h, h, hf, hf, this]
    simp only [Rat.intCast_add]
    by_cases z : t < c.h
    · rw [if_pos z, if_pos (by grind)]
      have e1 : t + d - ((a.h : Rat) + d) = t - a.h := by grind
      have e2 : (c.h : Rat) + d - ((a.h : Rat) + d) = c.h - a.h := by grind
      rw [e1, e2]
    · rw [if_neg z, if_neg (by grind)]
theorem fH_map {g : Rw → Rw} {d : Int} (h : ∀ r, (g r).h = r.h + d) {rs : List Rw} (ne : rs ≠ []) : fH (rs.map g) = fH rs + d := by
  cases rs with
  | nil => exact absurd rfl ne
  | cons a rs => exact h a
theorem lH_map {g : Rw → Rw} {d : Int} (h : ∀ r, (g r).h = r.h + d) {rs : List Rw} (ne : rs ≠ []) : lH (rs.map g) = lH rs + d := by
  unfold lH
  rw [List.length_map, List.getElem?_map]
  have hl : rs.length - 1 < rs.length := by have := List.length_pos_iff.mpr ne; omega
  rw [List.getElem?_eq_getElem hl]
  exact h _
theorem bE_map {g : Rw → Rw} {d lo : Int} (h : ∀ r, (g r).h = r.h + d) {a b : List Rw} (na : a ≠ []) (nb : b ≠ []) : bE (a.map g) (b.map g) (lo + d) = bE a b lo + d := by
  unfold bE max3
  rw [fH_map h na, fH_map h nb]
  omega
theorem eE_map {g : Rw → Rw} {d hi : Int} (h : ∀ r, (g r).h = r.h + d) {a b : List Rw} (na : a ≠ []) (nb : b ≠ []) : eE (a.map g) (b.map g) (hi + d) = eE a b hi + d := by
  unfold eE min3
  rw [lH_map h na, lH_map h nb]
  omega
theorem Best.shift {f g : Rat → Rat} {b e D t d : Rat} (h : Best f b e D t) (fg : ∀ s, g (s + d) = f s) : Best g (b + d) (e + d) D (t + d) := by
  have back : ∀ s, g s = f (s - d) := fun s => by
    have := fg (s - d)
    have e : s - d + d = s := by grind
    rw [e] at this
    exact this
  refine ⟨by have := h.lo; grind, by have := h.hi; grind, by rw [fg]; exact h.at_, fun s h1 h2 => ?_, fun s h1 h2 => ?_⟩
  · rw [back]
    exact h.le _ (by grind) (by grind)
  · rw [back]
    exact h.lt _ (by grind) (by grind)
theorem low_fix {n b : Int} (h : Int.gcd n b = 1) : lowD n b = .tuple [.int n, .int b] := by
  unfold lowD lowN lowB
  rw [h]
  show PyData.tuple [.int (n.fdiv 1), .int (b.fdiv 1)] = _
  rw [Int.fdiv_one, Int.fdiv_one]
def lateD (h : Int) : PyData → PyData
  | .tuple [D, .tuple [.int n, .int b]] => .tuple [D, .tuple [.int (n + h * b), .int b]]
  | _ => .none
theorem Res.late {a b a' b' : List Rw} {lo hi h : Int} {d d' : PyData} (r : Res a b lo hi d) (r' : Res a' b' (lo + h) (hi + h) d') (e1 : bE a' b' (lo + h) = bE a b lo + h) (e2 : eE a' b' (hi + h) = eE a b hi + h)
    (e : ∀ t : Rat, d2 a' b' (t + h) = d2 a b t) : d' = lateD h d := by
  rcases r with ⟨h1, rfl⟩ | ⟨h1, p, q, r, s, q0, s0, _, _, hb, rfl⟩
  · rcases r' with ⟨_, rfl⟩ | ⟨h2, _⟩
    · rfl
    · omega
  · rcases r' with ⟨h2, _⟩ | ⟨_, p2, q2, r2, s2, q20, s20, _, _, hb2, rfl⟩
    · omega
    · have hs := hb.shift (d := (h : Rat)) e
      rw [e1, e2, Rat.intCast_add, Rat.intCast_add] at hb2
      obtain ⟨z1, z2⟩ := hs.uniq hb2 fun _ _ _ => rfl
      have l := low_of r s0
      have lr := low_rat r s0
      have b0 := rlt.mpr l.b0
      have e3 : lowD r2 s2 = lowD (lowN r s + h * lowB r s) (lowB r s) := by
        refine low_same s20 l.b0 ?_
        rw [← z2, ← lr, Rat.intCast_add, Rat.intCast_mul]
        grind
      have e4 : lowD (lowN r s + h * lowB r s) (lowB r s) = .tuple [.int (lowN r s + h * lowB r s), .int (lowB r s)] := low_fix (by
        rw [Int.gcd_comm, Int.mul_comm h, Int.gcd_add_mul_left_right, Int.gcd_comm]
        exact l.co)
      rw [e3, e4, low_same q20 q0 z1.symm]
      rfl
theorem chase_abs {a b : Int} : (if b < a then b else a) = min a b ∧ (if b > a then b else a) = max a b := by
  constructor <;> split <;> omega
theorem law_chase_q {n : Int} {xs : List PyData} (hp : DrawOk n xs) (hn : n ≤ 10 ^ 4) {rs qs : List Rw} (hr : LogOk rs) (hq : LogOk qs) (K : PyData → List PyData → Prop)
    (h : ∀ l h xs', 0 ≤ l → l ≤ h → h ≤ 100000 → DrawOk (n + 3) xs' → K (.tuple [.int l, .int h]) xs') : q_law_chase xs (logD rs) (logD qs) K := by
  unfold q_law_chase
  have z := sz_of (i := 10) (by decide) (by decide)
  obtain ⟨a, ea, ma, pa⟩ := LogOk.first hr.n0
  obtain ⟨d, ed, md, pd⟩ := LogOk.last hq.n0
  have za := hr.ok a ma
  have zd := hq.ok d md
  have a0 := za.h0
  have a1 := za.h1
  have d0 := zd.h0
  have d1 := zd.h1
  refine law_draw_q hp (by omega) (by decide) (by decide) _ fun kind xs k0 k1 hp => ?_
  walk_at "q"
  simp only [pa, pd]
  walk_at "go"
  refine law_draw_q hp (by omega) (by decide) (by decide) _ fun w xs w0 w1 hp => ?_
  walk_at "q"
  refine pick_mem w0 (by simpa using w1) fun e he => ?_
  obtain ⟨v, rfl, v0, v1⟩ : ∃ c : Int, e = .int c ∧ 1 ≤ c ∧ c ≤ 10000 := by
    rcases mem3 he with rfl | rfl | rfl <;> exact ⟨_, rfl, by decide, by decide⟩
  clear he
  refine law_draw_q hp (by omega) (by omega) (by omega) _ fun wd xs t0 t1 hp => ?_
  have e5 : (10 : Int) ^ Int.toNat 5 = 100000 := by decide
  walk_at "go"
  refine pick_mem k0 (by simpa using k1) fun e he => ?_
  simp only [e5, List.mem_cons, List.not_mem_nil, or_false] at he
  have fin : ∀ l g : Int, 0 ≤ l → l ≤ g → g ≤ 100000 → K (.tuple [.int l, .int g]) xs := fun l g h0 h1 h2 => h l g xs h0 h1 h2 (hp.mono (by omega))
  rcases he with rfl | rfl | rfl | rfl | rfl | rfl
  · exact fin _ _ (by omega) (by omega) (by omega)
  · exact fin _ _ (by split <;> omega) (by split <;> split <;> omega) (by split <;> omega)
  · exact fin _ _ (by omega) (by split <;> omega) (by split <;> omega)
  · exact fin _ _ (by omega) (by omega) (by omega)
  · exact fin _ _ (by split <;> omega) (by split <;> omega) (by omega)
  · exact fin _ _ (by split <;> omega) (by split <;> omega) (by omega)
theorem keep_rows : ∀ ts : List Rw, (ts.map rowD).filterMap (fun d => if isLog (.tuple [d]) then some d else none) = (ts.filter fun t => isLog (.tuple [rowD t])).map rowD
  | [] => rfl
  | t :: ts => by
    rw [List.map_cons, List.filterMap_cons, List.filter_cons, keep_rows ts]
    cases isLog (.tuple [rowD t]) <;> rfl
theorem law_twin_q {n : Int} {xs : List PyData} (hp : DrawOk n xs) (hn : n ≤ 5000) {rs : List Rw} (hr : LogOk rs) (K : PyData → List PyData → Prop) (h : ∀ qs xs', LogOk qs → DrawOk (n + 110) xs' → K (logD qs) xs') : q_law_twin xs (logD rs) K := by
  unfold q_law_twin
  have n0 := hr.n0
  have n1 := hr.n1
  refine law_draw_q hp (by omega) (by decide) (by decide) _ fun kind xs k0 k1 hp => ?_
  walk_at "q"
  refine law_draw_q hp (by omega) (by omega) (by omega) _ fun at_ xs _ _ hp => ?_
  refine law_draw_q hp (by omega) (by omega) (by omega) _ fun dx xs _ _ hp => ?_
  walk_at "q"
  refine law_draw_q hp (by omega) (by omega) (by omega) _ fun dy xs x0 x1 hp => ?_
  walk_at "q"
  refine law_draw_q hp (by omega) (by omega) (by omega) _ fun later xs y0 y1 hp => ?_
  walk_at "q"
  refine qFor_ind (fun k s => ∃ (ts : List Rw) (c : Int), s = ts.map rowD ∧ ts.length = k ∧ (kind = 1 → ts = rs.take k) ∧ (c = if kind = 3 then later else 0) ∧ ∀ (i : Nat) (t : Rw), ts[i]? = some t → ∃ r, rs[i]? = some r ∧ t.h = r.h + c)
    ⟨[], _, rfl, rfl, fun _ => rfl, rfl, fun i t z => by simp at z⟩ (fun k d s nx hd ⟨ts, c, e, hl, h1, hc, hi⟩ hnx => ?_) fun s ⟨ts, c, e, hl, h1, hc, hi⟩ => ?_
  · subst e
    obtain ⟨x, hx, rfl⟩ := enumD_get hd
    obtain ⟨r, er, rfl⟩ := row_get hx
    have zr := hr.ok r (List.mem_of_getElem? er)
    have hk : k < rs.length := (List.getElem?_eq_some_iff.mp er).1
    have sr : ∀ i : Int, -100000 ≤ i → i ≤ 100000 → Sz i := fun i h0 h1 => sz_of (by omega) (by omega)
    have s1 := sr r.x (by have := zr.x0; omega) (by have := zr.x1; omega)
    have s2 := sr r.y (by have := zr.y0; omega) (by have := zr.y1; omega)
    have s3 := sr (dx - 4) (by omega) (by omega)
    have s4 := sr (dy - 4) (by omega) (by omega)
    have fin := fun (t : Rw) (z1 : kind = 1 → t = r) (z2 : t.h = r.h + c) => hnx (ts.map rowD ++ [rowD t]) ⟨ts ++ [t], c, by simp, by simp [hl], fun e => by rw [h1 e, z1 e, List.take_add_one, er]; rfl, hc, fun i u hu => by
      rcases Nat.lt_or_ge i ts.length with l | l
      · rw [List.getElem?_append_left l] at hu
        exact hi i u hu
      · rw [List.getElem?_append_right l] at hu
        have e : i - ts.length = 0 := by
          have := (List.getElem?_eq_some_iff.mp hu).1
          simp at this
          omega
        rw [e] at hu
        cases hu
        rw [show i = k by omega]
        exact ⟨r, er, z2⟩⟩
    unfold qb_law_twin_1
    simp only [rowD]
    walk_at "q"
    have sa : Sz (if at_ < (((0 + k : Nat) : Int)) then 1 else 0) := by split <;> exact sz_of (by decide) (by decide)
    simp only [s1, s2, s3, s4, true_and]
    walk_at "go"
    refine pick_idx k0 (by simpa using k1) fun j d hj hkj => ?_
    refine ⟨by omega, ?_⟩
    have hj6 : j < 6 := (List.getElem?_eq_some_iff.mp hj).1
    have c0 : kind ≠ 3 → c = 0 := fun e => by rw [hc, if_neg e]
    match j, hj6, hj, hkj with
    | 0, _, hj, e => cases hj; exact fin r (fun _ => rfl) (by have := c0 (by omega); omega)
    | 1, _, hj, e => cases hj; exact fin r (fun _ => rfl) (by have := c0 (by omega); omega)
    | 2, _, hj, e => cases hj; refine fin ⟨r.h, r.x + (dx - 4) * (if decide (at_ < ((0 + k : Nat) : Int)) = true then 1 else 0), r.y + (dy - 4) * (if decide (at_ < ((0 + k : Nat) : Int)) = true then 1 else 0)⟩ (fun z => ?_) ?_; (· omega); (· show r.h = _; have := c0 (by omega); omega)
    | 3, _, hj, e => cases hj; refine fin ⟨_, _, _⟩ (fun z => ?_) ?_; (· omega); (· show r.h + later = _; rw [hc, if_pos (by omega)])
    | 4, _, hj, e => cases hj; refine fin ⟨r.h, r.x + (dx - 4), r.y + (dy - 4)⟩ (fun z => ?_) ?_; (· omega); (· show r.h = _; have := c0 (by omega); omega)
    | 5, _, hj, e => cases hj; refine fin ⟨r.h, -r.y, r.x⟩ (fun z => ?_) ?_; (· omega); (· show r.h = _; have := c0 (by omega); omega)
  · subst e
    have hl : ts.length = rs.length := by rw [hl, enumD_length, List.length_map]
    have hu : Rises ts := rises_of fun i j a b ha hb hij => by
      obtain ⟨p, ep, e1⟩ := hi i a ha
      obtain ⟨q, eq, e2⟩ := hi j b hb
      have := hr.up.lt ep eq hij
      omega
    walk_at "q"
    refine bIf_d (fun _ => ?_) fun _ => ?_
    · exact law_log_q hp (by omega) (by decide) (by decide) _ fun qs xs hq hp => h qs xs hq (hp.mono (by omega))
    · refine bIf_d (fun e => ?_) fun _ => ?_
      · have e2 : ts = rs := by
          have := h1 e
          rw [enumD_length, List.length_map, List.take_length] at this
          exact this
        subst e2
        exact moreB_q hr _ fun qs _ hq _ _ => h qs _ hq (hp.mono (by omega))
      · refine qLc_fmap (fun d => if isLog (.tuple [d]) then some d else none) (by rw [List.length_map]; omega) (fun d hd sk yd hy hs => ?_) ?_
        · unfold qb_law_twin_2
          refine law_is_log_q _ _ ?_
          walk_at "q"
          cases e : isLog (.tuple [d]) <;> walk_at "q"
          · exact hs (by rw [e]; rfl)
          · exact hy _ (by rw [e]; rfl)
        · have ef := keep_rows ts
          rw [ef]
          generalize hq : (ts.filter fun t => isLog (.tuple [rowD t])) = qs
          walk_at "q"
          have fin : 1 ≤ qs.length → LogOk qs := fun z => ⟨z, by rw [← hq]; exact Nat.le_trans (List.length_filter_le _ _) (by omega), fun q hm => by
            rw [← hq] at hm
            have := (List.mem_filter.mp hm).2
            have e : isLog (.tuple [rowD q]) = (decide (1 ≤ 1) && decide (1 ≤ 20) && (isRow (rowD q) && (decide (-1 < hourOf (rowD q)) && true))) := rfl
            rw [e] at this
            simp only [Bool.and_eq_true] at this
            exact isRow_iff.mp this.2.1, by rw [← hq]; exact hu.sublist List.filter_sublist⟩
          cases qs with
          | nil => exact h rs xs hr (hp.mono (by omega))
          | cons q qs => exact h (q :: qs) xs (fin (by simp)) (hp.mono (by omega))
theorem Rises.same {rs : List Rw} (u : Rises rs) {q t : Int} (q0 : 0 < q) {i j : Nat} {a c b d : Rw} (ha : rs[i]? = some a) (hc : rs[i + 1]? = some c) (hb : rs[j]? = some b) (hd : rs[j + 1]? = some d)
    (h1 : 0 < i → a.h * q < t) (h2 : t ≤ c.h * q) (h3 : 0 < j → b.h * q < t) (h4 : t ≤ d.h * q) : a = b ∧ c = d := by
  have no : ∀ {i j : Nat} {c b : Rw}, rs[i + 1]? = some c → rs[j]? = some b → t ≤ c.h * q → (0 < j → b.h * q < t) → ¬ i < j := fun {i j c b} hc hb h1 h2 h => by
    have z := u.le hc hb h
    have z2 : c.h * q ≤ b.h * q := Int.mul_le_mul_of_nonneg_right z (by omega)
    have := h2 (by omega)
    omega
  have e : i = j := by
    have := no hc hb h2 h3
    have := no hd ha h4 h1
    omega
  subst e
  rw [ha] at hb
  rw [hc] at hd
  exact ⟨Option.some.inj hb, Option.some.inj hd⟩
def mixN (x z g o : Int) : Int := x * g + (z - x) * o
def placeD (a c : Rw) (p q : Int) : PyData := .tuple [lowD (mixN a.x c.x ((c.h - a.h) * q) (p - a.h * q)) ((c.h - a.h) * q), lowD (mixN a.y c.y ((c.h - a.h) * q) (p - a.h * q)) ((c.h - a.h) * q)]
structure BotOk (p q : Int) : Prop where
  q0 : 0 < q
  q1 : q ≤ 10 ^ 7
  p0 : -(10 ^ 20) ≤ p
  p1 : p ≤ 10 ^ 20
theorem place_between_q {a c : Rw} (za : RowOk a) (zc : RowOk c) (hac : a.h < c.h) {p q : Int} (z : BotOk p q) (K : PyData → Prop) (h : K (placeD a c p q)) : q_place_between (rowD a) (rowD c) (.int p) (.int q) K := by
  unfold q_place_between
  simp only [rowD]
  have := z.q0
  have := z.q1
  have := z.p0
  have := z.p1
  have a0 := za.h0
  have a1 := za.h1
  have c0 := zc.h0
  have c1 := zc.h1
  have m0 : 0 ≤ a.h * q := Int.mul_nonneg a0 (by omega)
  have m1 : a.h * q ≤ 100000 * 10 ^ 7 := Int.mul_le_mul a1 z.q1 (by omega) (by decide)
  have g0 : 0 < (c.h - a.h) * q := Int.mul_pos (by omega) (by omega)
  have g1 : (c.h - a.h) * q ≤ 100000 * 10 ^ 7 := Int.mul_le_mul (by omega) z.q1 (by omega) (by decide)
  have ax0 := za.x0
  have ax1 := za.x1
  have ay0 := za.y0
  have ay1 := za.y1
  have cx0 := zc.x0
  have cx1 := zc.x1
  have cy0 := zc.y0
  have cy1 := zc.y1
  unfold placeD at h
  generalize hG : (c.h - a.h) * q = G at *
  generalize hm : a.h * q = M at *
  walk_at "q"
  refine ⟨⟨sz_of (by omega) (by omega), sz_of (by omega) (by omega)⟩, ⟨sz_of (by omega) (by omega), sz_of (by omega) (by omega)⟩, ?_⟩
  simp only [cut1, hG, hm]
  walk_at "q"
  have fin : ∀ x z : Int, -10000 ≤ x → x ≤ 10000 → -10000 ≤ z → z ≤ 10000 → ∀ (K : PyData → Prop), K (lowD (mixN x z G (p - M)) G) → (Sz x ∧ Sz G) ∧ (Sz (z - x) ∧ Sz (p - M)) ∧ q_lowest (.int (x * G + (z - x) * (p - M))) (.int G) K := fun x z x0 x1 z0 z1 K h =>
    ⟨⟨sz_of (by omega) (by omega), sz_of (by omega) (by omega)⟩, ⟨sz_of (by omega) (by omega), sz_of (by omega) (by omega)⟩, lowest_q g0 (by omega) _ h⟩
  refine qLc_map (fun d => match d with | .tuple [.int u, .int v] => lowD (mixN u v G (p - M)) G | _ => .none) (by simp [zipD]) (fun d hd sk yd hy => ?_) ?_
  · simp only [zipD, List.mem_cons, List.not_mem_nil, or_false] at hd
    unfold qb_place_between_1
    rcases hd with rfl | rfl
    · walk_at "q"
      exact fin _ _ ax0 ax1 cx0 cx1 _ hy
    · walk_at "q"
      exact fin _ _ ay0 ay1 cy0 cy1 _ hy
  · simp only [zipD, List.map_cons, List.map_nil]
    walk_at "q"
    exact h

def pairD (a : Rw) : PyData := .tuple [.tuple [.int a.x, .int 1], .tuple [.int a.y, .int 1]]
theorem place_of_q {rs : List Rw} (hr : LogOk rs) {p q : Int} (z : BotOk p q) (K : PyData → Prop)
    (h1 : ∀ a c, rs[0]? = some a → rs[rs.length - 1]? = some c → p < a.h * q ∨ c.h * q < p → K .none)
    (h2 : ∀ (i : Nat) a c, rs[i]? = some a → rs[i + 1]? = some c → a.h * q ≤ p → p ≤ c.h * q → (0 < i → a.h * q < p) → K (placeD a c p q))
    (h3 : ∀ a, rs = [a] → p = a.h * q → K (pairD a)) : q_place_of (logD rs) (.tuple [.int p, .int q]) K := by
  unfold q_place_of
  obtain ⟨a, ea, ma, pa⟩ := LogOk.first hr.n0
  obtain ⟨c, ec, mc, pc⟩ := LogOk.last hr.n0
  have za := hr.ok a ma
  have zc := hr.ok c mc
  have q0 := z.q0
  have q1 := z.q1
  have p0 := z.p0
  have p1 := z.p1
  have sb : Sz q := sz_of (by omega) (by omega)
  have sh : ∀ r, RowOk r → Sz r.h := fun r z => sz_of (by have := z.h0; omega) (by have := z.h1; omega)
  have sa := sh a za
  have sc := sh c zc
  walk_at "q"
  simp only [pa, pc]
  walk_at "go"
  refine ⟨fun _ => ⟨sc, sb⟩, ?_⟩
  refine bIf_of (fun e => ?_) fun e => ?_
  · rw [Bool.or_eq_true, decide_eq_true_eq, decide_eq_true_eq] at e
    exact h1 a c ea ec e
  · rw [Bool.or_eq_false_iff, decide_eq_false_iff_not, decide_eq_false_iff_not] at e
    obtain ⟨ca, cc⟩ := e
    obtain ⟨r0, rest, rfl⟩ : ∃ r0 rest, rs = r0 :: rest := by
      cases rs with
      | nil => simp at ea
      | cons r rs => exact ⟨r, rs, rfl⟩
    simp only [List.map_cons, cut1]
    walk_at "q"
    have hlen : (zipD (rowD r0 :: rest.map rowD) (rest.map rowD)).length = rest.length := by rw [zipD_length]; simp
    refine qFor_ind (fun k _ => ∀ r, (r0 :: rest)[k]? = some r → r.h * q ≤ p ∧ (0 < k → r.h * q < p)) (fun r z => ?_) (fun k d s nx hd hi hnx => ?_) fun s hi => ?_
    · simp at z ea
      subst z
      subst ea
      exact ⟨by omega, fun z => by omega⟩
    · obtain ⟨x, y, e1, e2, rfl⟩ := zipD_get hd
      rw [← List.map_cons] at e1
      obtain ⟨u, eu, rfl⟩ := row_get e1
      obtain ⟨v, ev, rfl⟩ := row_get e2
      have ev2 : (r0 :: rest)[k + 1]? = some v := by simpa using ev
      have zu := hr.ok u (List.mem_of_getElem? eu)
      have zv := hr.ok v (List.mem_of_getElem? ev2)
      have sv := sh v zv
      have huv := hr.up.lt eu ev2 (Nat.lt_succ_self k)
      obtain ⟨i1, i2⟩ := hi u eu
      unfold qb_place_of_1
      have er : rowD v = .tuple [.int v.h, .int v.x, .int v.y] := rfl
      rw [er]
      walk_at "go"
      refine bIf_d (fun e => ?_) fun e => ?_
      · rw [← er]
        exact place_between_q zu zv huv z _ (h2 k u v eu ev2 i1 e i2)
      · refine hnx _ fun r z => ?_
        have : v = r := by rw [ev2] at z; exact Option.some.inj z
        subst this
        exact ⟨by omega, fun _ => by omega⟩
    · rw [hlen] at hi
      have ec' : (r0 :: rest)[rest.length]? = some c := by simpa using ec
      obtain ⟨i1, i2⟩ := hi c ec'
      have hz : rest.length = 0 := by
        rcases Nat.eq_zero_or_pos rest.length with z | z
        · exact z
        · have := i2 z
          omega
      have : rest = [] := List.eq_nil_of_length_eq_zero hz
      subst this
      simp at ea ec'
      subst ea
      subst ec'
      refine qLc_map (fun d => .tuple [d, .int 1]) (by simp) (fun d hd sk yd hy => ?_) ?_
      · exact hy
      · walk_at "q"
        exact h3 r0 rfl (by omega)
theorem place_at_q {rs : List Rw} (hr : LogOk rs) {p q : Int} (z : BotOk p q) (K : PyData → Prop)
    (h1 : ∀ a c, rs[0]? = some a → rs[rs.length - 1]? = some c → p < a.h * q ∨ c.h * q < p → K .none)
    (h2 : ∀ (i : Nat) a c, rs[i]? = some a → rs[i + 1]? = some c → a.h * q ≤ p → p ≤ c.h * q → (0 < i → a.h * q < p) → K (placeD a c p q))
    (h3 : ∀ a, rs = [a] → p = a.h * q → K (pairD a)) : q_place_at (logD rs) (.tuple [.int p, .int q]) K := by
  unfold q_place_at
  exact need_log_q hr _ (place_of_q hr z _ h1 h2 h3)
theorem law_commonW (i : Int) {j : Int} (hj : 0 ≤ j) (K : PyData → Prop) (h : K (.int (Int.gcd i j : Nat))) : q_law_common (.int i) (.int j) K := by
  unfold q_law_common
  refine qWhile_ind (m := j.natAbs) (fun m s => ∃ a b : Int, s = (.int a, .int b) ∧ 0 ≤ b ∧ b.toNat = m ∧ Int.gcd a b = Int.gcd i j) ⟨_, _, rfl, hj, by omega, rfl⟩ ?_
  rintro m _ nx ⟨a, b, rfl, hb, hm, hg⟩ hn
  unfold qb_law_common_1
  walk_at "q"
  by_cases h0 : b = 0
  · subst h0
    have : Int.gcd a 0 = a.natAbs := Int.gcd_zero_right a
    rw [← hg, this] at h
    walk_at "q"
    have ea : (if a < 0 then -a else a) = (a.natAbs : Int) := by split <;> omega
    rw [ea]
    exact h
  · rw [decide_eq_false h0]
    walk_at "go"
    have hm1 := Int.emod_lt_of_pos a (show 0 < b by omega)
    have hm0 := Int.emod_nonneg a (by omega : b ≠ 0)
    exact hn (a % b).toNat _ (by omega) ⟨b, a % b, rfl, hm0, rfl, by rw [gcd_down]; exact hg⟩
theorem law_termsW {n : Nat} (p : Int) {q : Int} (q0 : 0 < q) (q1 : Bd n q) (hn : n ≤ 900) (K : PyData → Prop) (h : K (lowD p q)) : q_law_terms (.int p) (.int q) K := by
  unfold q_law_terms
  refine law_commonW p (by omega) _ ?_
  have l := low_of p q0
  have g0 := l.g0
  have g1 := l.g1
  have bg : Bd n (Int.gcd p q : Int) := by
    unfold Bd at *
    omega
  have sg := sz_bd bg hn
  walk_at "q"
  rw [decide_eq_false (show ¬ q < 0 by omega)]
  walk_at "q"
  simp only [Bool.false_eq_true, if_false]
  walk_at "q"
  rw [Int.mul_one]
  unfold lowD lowN lowB at h
  rw [Int.fdiv_eq_ediv_of_nonneg _ (by omega), Int.fdiv_eq_ediv_of_nonneg _ (by omega)] at h
  refine ⟨⟨sg, sz_bd bd1 (by decide)⟩, ⟨by omega, sg⟩, ⟨by omega, sg⟩, h⟩
/-- a log's place at a moment that it tells, by parts -/
theorem rdiv_le {c p q : Int} (h : 0 < q) : (c : Rat) ≤ (p : Rat) / q ↔ c * q ≤ p := by
  have r1 := rlt.mpr h
  have e1 : (q : Rat) * ((p : Rat) / q - c) = p - c * q := by grind
  have z := rpos (k := (q : Rat)) (a := (p : Rat) / q - c) r1
  rw [e1] at z
  rw [← rle, Rat.intCast_mul]
  constructor
  · intro h3
    have := z.mpr (by grind)
    grind
  · intro h3
    have := z.mp (by grind)
    grind
theorem rdiv_ge {c p q : Int} (h : 0 < q) : (p : Rat) / q ≤ (c : Rat) ↔ p ≤ c * q := by
  have r1 := rlt.mpr h
  have e1 : (q : Rat) * ((c : Rat) - (p : Rat) / q) = c * q - p := by grind
  have z := rpos (k := (q : Rat)) (a := (c : Rat) - (p : Rat) / q) r1
  rw [e1] at z
  rw [← rle, Rat.intCast_mul]
  constructor
  · intro h3
    have := z.mpr (by grind)
    grind
  · intro h3
    have := z.mp (by grind)
    grind
/-- a moment that a log tells -/
structure WithR (rs : List Rw) (t : Rat) : Prop where
  lo : (fH rs : Rat) ≤ t
  hi : t ≤ (lH rs : Rat)
theorem fH_get {rs : List Rw} {a : Rw} (h : rs[0]? = some a) : fH rs = a.h := by
  unfold fH
  rw [h]
theorem lH_get {rs : List Rw} {a : Rw} (h : rs[rs.length - 1]? = some a) : lH rs = a.h := by
  unfold lH
  rw [h]
theorem bdI {n : Nat} {i B : Int} (h0 : -B ≤ i) (h1 : i ≤ B) (hB : B ≤ 10 ^ n) : Bd n i := by
  unfold Bd
  have e : ((10 ^ n : Nat) : Int) = (10 : Int) ^ n := by rw [Int.natCast_pow]; rfl
  omega
theorem bd_of_le {n : Nat} {i j : Int} (h0 : 0 ≤ i) (h1 : i ≤ j) (hB : Bd n j) : Bd n i := by
  unfold Bd at *
  omega
theorem bd4 {a : Int} (h0 : -10000 ≤ a) (h1 : a ≤ 10000) : Bd 4 a := by
  unfold Bd
  have : (10 : Nat) ^ 4 = 10000 := by decide
  omega
theorem spotW_q {n : Nat} (hn : n ≤ 100) {rs : List Rw} (hr : LogOk rs) {p q : Int} (q0 : 0 < q) (bq : Bd n q) (hw : WithR rs ((p : Rat) / q)) (K : PyData → Prop)
    (h : ∀ X Y G : Int, 0 < G → Bd (n + 5) G → Bd (n + 9) X → Bd (n + 9) Y → (X : Rat) = posF Rw.x rs ((p : Rat) / q) * G → (Y : Rat) = posF Rw.y rs ((p : Rat) / q) * G → K (.tuple [.int X, .int Y, .int G])) : q_law_spot (logD rs) (.int p) (.int q) K := by
  have w0 := (rdiv_le q0).mp hw.lo
  have w1 := (rdiv_ge q0).mp hw.hi
  have ep : (p : Rat) / q * q = p := by have := rlt.mpr q0; grind
  unfold q_law_spot
  obtain ⟨a, ea, ma, pa⟩ := LogOk.first hr.n0
  obtain ⟨c, ec, mc, pc⟩ := LogOk.last hr.n0
  rw [fH_get ea] at w0
  rw [lH_get ec] at w1
  have za := hr.ok a ma
  have zc := hr.ok c mc
  have sb : Sz q := sz_bd bq (by omega)
  have hb5 : ∀ r, RowOk r → Bd 5 r.h := fun r z => bd5 (by have := z.h0; omega) z.h1
  have sh : ∀ r, RowOk r → Sz r.h := fun r z => sz_bd (hb5 r z) (by decide)
  have sa := sh a za
  have sc := sh c zc
  walk_at "q"
  simp only [pa, pc]
  walk_at "q"
  refine ⟨⟨sa, sb⟩, ?_⟩
  rw [decide_eq_false (by omega)]
  walk_at "q"
  refine ⟨⟨sc, sb⟩, ?_⟩
  rw [decide_eq_false (by omega)]
  walk_at "q"
  obtain ⟨r0, rest, rfl⟩ : ∃ r0 rest, rs = r0 :: rest := by
    cases rs with
    | nil => simp at ea
    | cons r rs => exact ⟨r, rs, rfl⟩
  simp only [List.map_cons, cut1]
  walk_at "q"
  have hlen : (zipD (rowD r0 :: rest.map rowD) (rest.map rowD)).length = rest.length := by rw [zipD_length]; simp
  refine qFor_ind (fun k _ => ∀ r, (r0 :: rest)[k]? = some r → r.h * q ≤ p ∧ (0 < k → r.h * q < p)) (fun r z => ?_) (fun k d s nx hd hi hnx => ?_) fun s hi => ?_
  · simp at z ea
    subst z
    subst ea
    exact ⟨by omega, fun z => by omega⟩
  · obtain ⟨x, y, e1, e2, rfl⟩ := zipD_get hd
    rw [← List.map_cons] at e1
    obtain ⟨u, eu, rfl⟩ := row_get e1
    obtain ⟨v, ev, rfl⟩ := row_get e2
    have ev2 : (r0 :: rest)[k + 1]? = some v := by simpa using ev
    have zu := hr.ok u (List.mem_of_getElem? eu)
    have zv := hr.ok v (List.mem_of_getElem? ev2)
    have su := sh u zu
    have sv := sh v zv
    have huv := hr.up.lt eu ev2 (Nat.lt_succ_self k)
    obtain ⟨i1, i2⟩ := hi u eu
    unfold qb_law_spot_1
    simp only [rowD]
    have bg0 : Bd 5 (v.h - u.h) := bd5 (by omega) (by have := zu.h0; have := zv.h1; omega)
    have bG : Bd (n + 5) ((v.h - u.h) * q) := (Bd.mul bg0 bq).mono (by omega)
    have G0 : 0 < (v.h - u.h) * q := Int.mul_pos (by omega) q0
    have bux := bd4 zu.x0 zu.x1
    have buy := bd4 zu.y0 zu.y1
    have bvx : Bd 5 (v.x - u.x) := bd5 (by have := zu.x1; have := zv.x0; omega) (by have := zu.x0; have := zv.x1; omega)
    have bvy : Bd 5 (v.y - u.y) := bd5 (by have := zu.y1; have := zv.y0; omega) (by have := zu.y0; have := zv.y1; omega)
    walk_at "q"
    refine ⟨⟨su, sb⟩, ?_⟩
    rw [decide_eq_true i1]
    walk_at "q"
    refine ⟨⟨sv, sb⟩, ?_⟩
    refine bIf_d (fun e => ?_) fun e => ?_
    · have go1 : 0 ≤ p - u.h * q := by omega
      have ge : (v.h - u.h) * q = v.h * q - u.h * q := Int.sub_mul ..
      have bo : Bd (n + 5) (p - u.h * q) := bd_of_le go1 (by omega) bG
      have sG := sz_bd bG (by omega)
      have so := sz_bd bo (by omega)
      have mx := mix_in zu.x0 zu.x1 zv.x0 zv.x1 go1 (g := (v.h - u.h) * q) (by omega)
      have my := mix_in zu.y0 zu.y1 zv.y0 zv.y1 go1 (g := (v.h - u.h) * q) (by omega)
      have bX : ∀ X : Int, -(10000 * ((v.h - u.h) * q)) ≤ X → X ≤ 10000 * ((v.h - u.h) * q) → Bd (n + 9) X := fun X h0 h1 => by
        have b : Bd (4 + (n + 5)) (10000 * ((v.h - u.h) * q)) := Bd.mul (bd4 (by decide) (by decide)) bG
        have e : 4 + (n + 5) = n + 9 := by omega
        rw [e] at b
        unfold Bd at *
        omega
      have rq := rlt.mpr q0
      have l1 := (rdiv_le q0).mpr i1
      have l2 := (rdiv_ge q0).mpr e
      have ruv := rlt.mpr huv
      walk_at "q"
      refine ⟨⟨sz_bd bg0 (by decide), sb⟩, ⟨su, sb⟩, ⟨sz_bd bux (by decide), sG⟩, ⟨sz_bd bvx (by decide), so⟩, ⟨sz_bd buy (by decide), sG⟩, ⟨sz_bd bvy (by decide), so⟩, ?_⟩
      refine h _ _ _ G0 bG (bX _ mx.1 mx.2) (bX _ my.1 my.2) ?_ ?_
      · rw [pos_mid hr.up eu ev2 l1 l2]
        simp only [Rat.intCast_add, Rat.intCast_mul, Rat.intCast_sub]
        grind
      · rw [pos_mid hr.up eu ev2 l1 l2]
        simp only [Rat.intCast_add, Rat.intCast_mul, Rat.intCast_sub]
        grind
    · refine hnx _ fun r z => ?_
      have : v = r := by rw [ev2] at z; exact Option.some.inj z
      subst this
      exact ⟨by omega, fun _ => by omega⟩
  · rw [hlen] at hi
    have ec' : (r0 :: rest)[rest.length]? = some c := by simpa using ec
    obtain ⟨i1, i2⟩ := hi c ec'
    have hz : rest.length = 0 := by
      rcases Nat.eq_zero_or_pos rest.length with z | z
      · exact z
      · have := i2 z
        omega
    have : rest = [] := List.eq_nil_of_length_eq_zero hz
    subst this
    simp at ea
    subst ea
    refine h _ _ 1 (by decide) (bd1.mono (by omega)) ((bd4 za.x0 za.x1).mono (by omega)) ((bd4 za.y0 za.y1).mono (by omega)) ?_ ?_
    · simp [posF]
    · simp [posF]
theorem within_rat {a b : List Rw} {lo hi : Int} {t : Rat} (h1 : (bE a b lo : Rat) ≤ t) (h2 : t ≤ (eE a b hi : Rat)) : WithR a t ∧ WithR b t := by
  have e1 : fH a ≤ bE a b lo ∧ fH b ≤ bE a b lo := by unfold bE max3; omega
  have e2 : eE a b hi ≤ lH a ∧ eE a b hi ≤ lH b := by unfold eE min3; omega
  have r1 := rle.mpr e1.1
  have r2 := rle.mpr e1.2
  have r3 := rle.mpr e2.1
  have r4 := rle.mpr e2.2
  exact ⟨⟨by grind, by grind⟩, by grind, by grind⟩
theorem int_rat (c : Int) : ((c : Int) : Rat) / ((1 : Int) : Rat) = c := by
  have : ((1 : Int) : Rat) = 1 := rfl
  rw [this]
  grind
theorem mid_pos {f : Rw → Int} {rs : List Rw} {s t : Int} (hst : s < t) (u : Rises rs) (hn : ∀ r ∈ rs, ¬ (s < r.h ∧ r.h < t)) (ws : Within rs s) (wt : Within rs t) (ne : rs ≠ []) :
    posF f rs (((s + t : Int) : Rat) / ((2 : Int) : Rat)) = (posF f rs s + posF f rs t) / 2 := by
  have h := pos_line (f := f) (z := 1 / 2) hst u hn ws wt ne (by grind) (by grind)
  have e : (s : Rat) + 1 / 2 * (t - s) = ((s + t : Int) : Rat) / ((2 : Int) : Rat) := by
    rw [Rat.intCast_add]
    have : ((2 : Int) : Rat) = 2 := rfl
    rw [this]
    grind
  rw [e] at h
  rw [h]
  grind
/-- the bow's worths: at both ends and midway -/
theorem bow_eq {x y u v m : Rat} : 2 * ((x * x + y * y) * m + (u * u + v * v) * m - 2 * (((x + u) / 2 * ((x + u) / 2) + (y + v) / 2 * ((y + v) / 2)) * m)) = ((u - x) * (u - x) + (v - y) * (v - y)) * m ∧
    3 * ((x * x + y * y) * m) + (u * u + v * v) * m - 4 * (((x + u) / 2 * ((x + u) / 2) + (y + v) / 2 * ((y + v) / 2)) * m) = -(2 * (x * (u - x) + y * (v - y))) * m := by
  constructor <;> grind
theorem three_of {P b1 b2 b3 : Rat} : P * b1 * b2 * b3 = P * (b1 * b2 * b3) ∧ P * b2 * b1 * b3 = P * (b1 * b2 * b3) ∧ P * b3 * b1 * b2 = P * (b1 * b2 * b3) := by
  refine ⟨?_, ?_, ?_⟩ <;> grind
theorem times_out {A B P : Rat} (h : 0 < B) (e : A / B = P) : A = P * B := by
  subst e
  grind
theorem turn_eq {s t w al m : Rat} (wp : 0 < w) (mp : 0 < m) : (s * 2 * (w * m) + -(2 * al) * m * (t - s)) / (2 * (w * m)) = s + -al / w * (t - s) := by
  have := Rat.mul_pos wp mp
  grind
/-! ### what is == a told nearest -/
def eqI (x : PyData) (i : Int) : Bool := match x with
  | .int j => decide (j = i)
  | _ => false
def eqP (x : PyData) (p q : Int) : Bool := match x with
  | .tuple [a, b] => eqI a p && eqI b q
  | _ => false
def eqQ (x : PyData) (p q r s : Int) : Bool := match x with
  | .tuple [a, b] => eqP a p q && eqP b r s
  | _ => false
theorem eqI_inv {x : PyData} {i : Int} (h : eqI x i = true) : x = .int i := by
  unfold eqI at h
  split at h
  · rw [of_decide_eq_true h]
  · cases h
theorem eqP_inv {x : PyData} {p q : Int} (h : eqP x p q = true) : x = .tuple [.int p, .int q] := by
  unfold eqP at h
  split at h
  · rw [Bool.and_eq_true] at h
    rw [eqI_inv h.1, eqI_inv h.2]
  · cases h
theorem eqI_self (i : Int) : eqI (.int i) i = true := decide_eq_true rfl
theorem eqP_self (p q : Int) : eqP (.tuple [.int p, .int q]) p q = true := by
  simp only [eqP, eqI_self, Bool.and_self]
theorem zip2 {a b c d : PyData} : zipD [a, b] [c, d] = [.tuple [a, c], .tuple [b, d]] := rfl
/-- what is told of a thing -/
def isRes (x due : PyData) : Bool := match due with
  | .tuple [.tuple [.int p, .int q], .tuple [.int r, .int s]] => eqQ x p q r s
  | _ => match x with
    | .none => true
    | _ => false
theorem isFr_inv {x : PyData} (h : isFr x = true) : ∃ p q : Int, x = .tuple [.int p, .int q] := by
  unfold isFr at h
  split at h
  · exact ⟨_, _, rfl⟩
  · cases h
theorem isFr_low (p : Int) {q : Int} (h : 0 < q) : isFr (lowD p q) = true := by
  have l := low_of p h
  simp only [isFr, Bool.and_eq_true, decide_eq_true_eq]
  exact ⟨l.b0, l.co⟩
theorem eqD_pairs {a b c d p q r s : Int} : eqD (.tuple [.tuple [.int a, .int b], .tuple [.int c, .int d]]) (.tuple [.tuple [.int p, .int q], .tuple [.int r, .int s]]) = eqQ (.tuple [.tuple [.int a, .int b], .tuple [.int c, .int d]]) p q r s := by
  rw [eqD_eq]
  simp only [eqQ, eqP, eqI, PyData.eqv, PyData.eqvAll, Bool.and_true, Bool.beq_eq_decide_eq]
/-! ### three answers written out -/
theorem res_of {a b : List Rw} {lo hi : Int} (e : bE a b lo ≤ eE a b hi) {p q p' q' : Int} (q0 : 0 < q) (q0' : 0 < q') (b1 : Bd 120 p') (b2 : Bd 120 q') (h : Best (d2 a b) (bE a b lo) (eE a b hi) ((p : Rat) / q) ((p' : Rat) / q')) (g1 : Int.gcd p q = 1) (g2 : Int.gcd p' q' = 1) :
    Res a b lo hi (.tuple [.tuple [.int p, .int q], .tuple [.int p', .int q']]) :=
  .inr ⟨e, p, q, p', q', q0, q0', b1, b2, h, by rw [low_fix g1, low_fix g2]⟩
theorem best_sq {f q : Rat → Rat} {b e D t : Rat} (hf : ∀ s, f s = D + q s * q s) (h0 : q t = 0) (h1 : b ≤ t) (h2 : t ≤ e) (h3 : ∀ s, b ≤ s → s < t → q s ≠ 0) : Best f b e D t :=
  ⟨h1, h2, by rw [hf, h0]; grind, fun s _ _ => by rw [hf]; have := rsq (q s); grind, fun s s0 s1 => by rw [hf]; have := rsq' (h3 s s0 s1); grind⟩
def one1 : List Rw := [⟨0, 0, 0⟩, ⟨4, 8, 0⟩, ⟨9, 8, 0⟩]
def oth1 : List Rw := [⟨0, 4, 3⟩, ⟨4, 4, 3⟩, ⟨9, 12, 3⟩]
def one2 : List Rw := [⟨0, 0, 0⟩, ⟨3, 0, 0⟩]
def oth2 : List Rw := [⟨0, -5000, 0⟩, ⟨1, 5000, 1⟩, ⟨2, 4999, 1⟩, ⟨3, -4999, 0⟩]
theorem rows3 {a b c : Rw} (ha : RowOk a) (hb : RowOk b) (hc : RowOk c) (h1 : a.h < b.h) (h2 : b.h < c.h) : LogOk [a, b, c] :=
  ⟨by simp, by simp, fun r hr => by
    simp only [List.mem_cons, List.not_mem_nil, or_false] at hr
    rcases hr with rfl | rfl | rfl <;> assumption, by
    simp only [Rises, List.pairwise_cons, List.mem_cons, List.not_mem_nil, or_false, forall_eq_or_imp, forall_eq, List.Pairwise.nil, and_true]
    refine ⟨⟨h1, by omega⟩, h2, fun _ z => z.elim⟩⟩
theorem ok_one1 : LogOk one1 := rows3 ⟨by decide, by decide, by decide, by decide, by decide, by decide⟩ ⟨by decide, by decide, by decide, by decide, by decide, by decide⟩ ⟨by decide, by decide, by decide, by decide, by decide, by decide⟩ (by decide) (by decide)
theorem ok_oth1 : LogOk oth1 := rows3 ⟨by decide, by decide, by decide, by decide, by decide, by decide⟩ ⟨by decide, by decide, by decide, by decide, by decide, by decide⟩ ⟨by decide, by decide, by decide, by decide, by decide, by decide⟩ (by decide) (by decide)
theorem gap1 (t : Rat) : d2 one1 oth1 t = 9 + (posF Rw.x one1 t - posF Rw.x oth1 t) * (posF Rw.x one1 t - posF Rw.x oth1 t) := by
  have e : posF Rw.y one1 t - posF Rw.y oth1 t = -3 := by
    unfold one1 oth1
    simp only [posF]
    have c0 : ((0 : Int) : Rat) = 0 := rfl
    have c3 : ((3 : Int) : Rat) = 3 := rfl
    simp only [c0, c3]
    split <;> (try split) <;> grind
  unfold d2
  rw [e]
  grind
theorem x1_lo {t : Rat} (h : t < 4) : posF Rw.x one1 t - posF Rw.x oth1 t = 2 * t - 4 := by
  unfold one1 oth1
  simp only [posF]
  have c0 : ((0 : Int) : Rat) = 0 := rfl
  have c4 : ((4 : Int) : Rat) = 4 := rfl
  have c8 : ((8 : Int) : Rat) = 8 := rfl
  simp only [c0, c4, c8, if_pos h]
  grind
theorem x1_hi {t : Rat} (h : 4 ≤ t) (h2 : t < 9) : posF Rw.x one1 t - posF Rw.x oth1 t = 4 - 8 * (t - 4) / 5 := by
  unfold one1 oth1
  simp only [posF]
  have c0 : ((0 : Int) : Rat) = 0 := rfl
  have c4 : ((4 : Int) : Rat) = 4 := rfl
  have c8 : ((8 : Int) : Rat) = 8 := rfl
  have c9 : ((9 : Int) : Rat) = 9 := rfl
  have c12 : ((12 : Int) : Rat) = 12 := rfl
  have n4 : ¬ t < 4 := by grind
  simp only [c0, c4, c8, c9, c12, if_neg n4, if_pos h2]
  grind
theorem row_ok2 {h x y : Int} (a : 0 ≤ h ∧ h ≤ 100000 := by decide) (b : -10000 ≤ x ∧ x ≤ 10000 := by decide) (c : -10000 ≤ y ∧ y ≤ 10000 := by decide) : RowOk ⟨h, x, y⟩ := ⟨a.1, a.2, b.1, b.2, c.1, c.2⟩
theorem cc0 : ((0 : Int) : Rat) = 0 := rfl
theorem cc1 : ((1 : Int) : Rat) = 1 := rfl
theorem cc2 : ((2 : Int) : Rat) = 2 := rfl
theorem cc3 : ((3 : Int) : Rat) = 3 := rfl
theorem best1 : Best (d2 one1 oth1) ((0 : Int) : Rat) ((9 : Int) : Rat) (((9 : Int) : Rat) / ((1 : Int) : Rat)) (((2 : Int) : Rat) / ((1 : Int) : Rat)) := by
  have k9 : ((9 : Int) : Rat) = 9 := rfl
  rw [int_rat, int_rat, cc0, cc2, k9]
  refine best_sq (q := fun t => posF Rw.x one1 t - posF Rw.x oth1 t) gap1 ?_ (by grind) (by grind) fun s h0 h1 => ?_
  · show posF Rw.x one1 2 - posF Rw.x oth1 2 = 0
    rw [x1_lo (by grind)]
    grind
  · show posF Rw.x one1 s - posF Rw.x oth1 s ≠ 0
    rw [x1_lo (by grind)]
    grind
def NearR (a b : List Rw) (lo hi M : Int) : Prop := bE a b lo ≤ eE a b hi ∧ ∃ t : Rat, (bE a b lo : Rat) ≤ t ∧ t ≤ (eE a b hi : Rat) ∧ d2 a b t ≤ (M : Rat) * M
theorem best_near {f : Rat → Rat} {b e D t m : Rat} (h : Best f b e D t) : D ≤ m ↔ ∃ s, b ≤ s ∧ s ≤ e ∧ f s ≤ m := by
  constructor
  · intro l
    exact ⟨t, h.lo, h.hi, by rw [h.at_]; exact l⟩
  · rintro ⟨s, h1, h2, h3⟩
    have := h.le s h1 h2
    grind
theorem rat_le {p q m : Int} (h : 0 < q) : p ≤ m * q ↔ (p : Rat) / q ≤ (m : Rat) := by
  have r1 := rlt.mpr h
  have e1 : (q : Rat) * ((m : Rat) - (p : Rat) / q) = m * q - p := by grind
  have z := rpos (k := (q : Rat)) (a := (m : Rat) - (p : Rat) / q) r1
  rw [e1] at z
  rw [← rle, Rat.intCast_mul]
  constructor
  · intro h3
    have := z.mp (by grind)
    grind
  · intro h3
    have := z.mpr (by grind)
    grind
theorem arenearR_q {a b : List Rw} (ha : LogOk a) (hb : LogOk b) {lo hi M : Int} (l0 : 0 ≤ lo) (lh : lo ≤ hi) (h1 : hi ≤ 100000) (m0 : 0 ≤ M) (m1 : M ≤ 100000) (K : PyData → Prop) (h : ∀ t : Bool, (t = true ↔ NearR a b lo hi M) → K (.bool t)) : q_are_near (logD a) (logD b) (.int lo) (.int hi) (.int M) K := by
  unfold q_are_near
  unfold q_need_both
  refine need_log_q ha _ (need_log_q hb _ (need_chase_q l0 lh h1 _ ?_))
  rw [is_whole_q]
  have e : isW (.int M) = true := rfl
  rw [e]
  walk_at "q"
  rw [decide_eq_true m0]
  walk_at "q"
  rw [decide_eq_true m1]
  walk_at "q"
  unfold q_are_near_by
  refine nearestB_q ha hb l0 h1 _ (fun z => ?_) fun hle p q p' q' q0 q0' bp bq _ _ hp => ?_
  · walk_at "q"
    exact h false ⟨fun z => absurd z (by decide), fun z' => absurd z'.1 (by omega)⟩
  · have mb : Bd 5 M := bd5 (by omega) (by omega)
    have n3 := low_bd (P := p) q0 bp
    have n4 := low_bdB (P := p) q0 bq
    walk_at "bs"
    refine h _ ?_
    rw [decide_eq_true_eq, rat_le (low_of p q0).b0, low_rat p q0, Rat.intCast_mul, best_near hp]
    exact ⟨fun z => ⟨hle, z⟩, fun z => z.2⟩
theorem less_q {p q p' q' : Int} (q0 : 0 < q) (q0' : 0 < q') (b1 : Bd 120 p) (b2 : Bd 120 q) (b3 : Bd 120 p') (b4 : Bd 120 q') (K : PyData → Prop) (h : ∀ t : Bool, (t = true ↔ (p : Rat) / q < (p' : Rat) / q') → K (.bool t)) : q_law_less (.tuple [.int p, .int q]) (.tuple [.int p', .int q']) K := by
  unfold q_law_less
  walk_at "bs"
  refine h _ ?_
  rw [decide_eq_true_eq]
  exact rat_lt q0 q0'
/-- a chase in two parts -/
theorem split_ends {a b : List Rw} {lo m hi : Int} (h1 : lo ≤ m) (h2 : m ≤ hi) :
    (bE a b lo ≤ eE a b m → bE a b m ≤ eE a b hi → bE a b m = m ∧ eE a b m = m ∧ bE a b lo ≤ m ∧ m ≤ eE a b hi) ∧
    (bE a b lo ≤ eE a b m → eE a b hi < bE a b m → eE a b m = eE a b hi) ∧
    (eE a b m < bE a b lo → bE a b m ≤ eE a b hi → bE a b m = bE a b lo) ∧
    (eE a b m < bE a b lo → eE a b hi < bE a b m → eE a b hi < bE a b lo) := by
  unfold bE eE max3 min3
  omega
theorem leastC_q {a b : List Rw} (ha : LogOk a) (hb : LogOk b) {s t : Int} (st : s ≤ t) (cl : Clear a b s t) (wa : Within a s) (wb : Within b s) (wa' : Within a t) (wb' : Within b t) (s0 : 0 ≤ s) (s1 : s ≤ 100000) (t0 : 0 ≤ t) (t1 : t ≤ 100000) (K : PyData → Prop)
    (h : ∀ (p q p' q' : Int), 0 < q → 0 < q' → Bd 120 p → Bd 120 q → Bd 64 p' → Bd 64 q' → Best (d2 a b) s t ((p : Rat) / q) ((p' : Rat) / q') → K (.tuple [lowD p q, lowD p' q'])) : q_least_between (logD a) (logD b) (.int s) (.int t) K := by
  unfold q_least_between
  refine apart_q ha hb wa wb s0 s1 _ fun c g c0 eg okg => ?_
  walk_at "q"
  refine apart_q ha hb wa' wb' t0 t1 _ fun d k d0 ek okk => ?_
  have tg : Tell g (gx a b s) (gy a b s) := by rw [eg]; exact gap_tell ha hb wa wb
  have tk : Tell k (gx a b t) (gy a b t) := by rw [ek]; exact gap_tell ha hb wa' wb'
  have gb := gap_best ha hb st wa wb wa' wb' cl
  clear eg ek cl
  obtain ⟨g0, g1, g2, g3⟩ := okg
  obtain ⟨k0, k1, k2, k3⟩ := okk
  have bs : Bd 5 s := bd5 (by omega) (by omega)
  have bt : Bd 5 t := bd5 (by omega) (by omega)
  have xb : Bd 27 (g.x * k.h) := g2.mul k1
  have yb : Bd 27 (g.y * k.h) := g3.mul k1
  have ub : Bd 27 (k.x * g.h) := k2.mul g1
  have vb : Bd 27 (k.y * g.h) := k3.mul g1
  have qb : Bd 40 (g.h * g.h * k.h * k.h) := ((g1.mul g1).mul k1).mul k1
  have b0 : 0 < g.h * g.h * k.h * k.h := Int.mul_pos (Int.mul_pos (Int.mul_pos g0 g0) k0) k0
  obtain ⟨S, eS⟩ : ∃ S : Rat, S = (g.h : Rat) * k.h := ⟨_, rfl⟩
  have S0 : 0 < S := by rw [eS]; exact Rat.mul_pos (rlt.mpr g0) (rlt.mpr k0)
  have SS : 0 < S * S := Rat.mul_pos S0 S0
  have ex : ((g.x * k.h : Int) : Rat) = gx a b s * S := by rw [Rat.intCast_mul, tg.x, eS]; grind
  have ey : ((g.y * k.h : Int) : Rat) = gy a b s * S := by rw [Rat.intCast_mul, tg.y, eS]; grind
  have eu : ((k.x * g.h : Int) : Rat) = gx a b t * S := by rw [Rat.intCast_mul, tk.x, eS]; grind
  have ev : ((k.y * g.h : Int) : Rat) = gy a b t * S := by rw [Rat.intCast_mul, tk.y, eS]; grind
  have eQ : ((g.h * g.h * k.h * k.h : Int) : Rat) = S * S := by simp only [Rat.intCast_mul]; rw [eS]; grind
  walk_at "bs"
  generalize g.h * g.h * k.h * k.h = Q at qb b0 eQ ⊢
  generalize g.x * k.h = x at xb ex ⊢
  generalize g.y * k.h = y at yb ey ⊢
  generalize k.x * g.h = u at ub eu ⊢
  generalize k.y * g.h = v at vb ev ⊢
  generalize gx a b s = X at *
  generalize gy a b s = Y at *
  generalize gx a b t = U at *
  generalize gy a b t = V at *
  obtain ⟨gb1, gb2, gb3⟩ := gb
  have du : Bd 28 (u - x) := ub.sub xb
  have dv : Bd 28 (v - y) := vb.sub yb
  have al : ((x * (u - x) + y * (v - y) : Int) : Rat) = (S * S) * (X * (U - X) + Y * (V - Y)) := by
    simp only [Rat.intCast_add, Rat.intCast_mul, Rat.intCast_sub, ex, ey, eu, ev]
    grind
  have sw : (((u - x) * (u - x) + (v - y) * (v - y) : Int) : Rat) = (S * S) * ((U - X) * (U - X) + (V - Y) * (V - Y)) := by
    simp only [Rat.intCast_add, Rat.intCast_mul, Rat.intCast_sub, ex, ey, eu, ev]
    grind
  have alp : 0 ≤ x * (u - x) + y * (v - y) ↔ 0 ≤ X * (U - X) + Y * (V - Y) := by
    rw [← rle, al]
    exact rpos SS
  have asp : 0 < x * (u - x) + y * (v - y) + ((u - x) * (u - x) + (v - y) * (v - y)) ↔ 0 < X * (U - X) + Y * (V - Y) + ((U - X) * (U - X) + (V - Y) * (V - Y)) := by
    rw [← rlt, Rat.intCast_add, al, sw, ← Rat.mul_add]
    exact rpos' SS
  have Q0 := rlt.mpr b0
  have one1 : Bd 64 1 := bd1.mono (by decide)
  refine bIf_d (fun e1 => ?_) fun e1 => ?_
  · walk_at "bs"
    have pb : Bd 55 (x * x + y * y) := (xb.mul xb).add (yb.mul yb)
    refine lowest_q b0 (bd_le qb (by decide)) _ ?_
    rw [← low_one]
    refine h _ _ _ _ b0 (by decide) (pb.mono (by decide)) (qb.mono (by decide)) (bs.mono (by decide)) one1 ?_
    have f1 : ((x * x + y * y : Int) : Rat) / (Q : Rat) = X * X + Y * Y := by
      simp only [Rat.intCast_add, Rat.intCast_mul, ex, ey, eQ]
      grind
    have f2 : (s : Rat) / ((1 : Int) : Rat) = s := by grind
    rw [f1, f2]
    exact gb1 (alp.mp e1)
  · have n1 : X * (U - X) + Y * (V - Y) < 0 := by
      have := mt alp.mpr e1
      grind
    walk_at "bs"
    refine bIf_d (fun e2 => ?_) fun e2 => ?_
    · have eu' : x + (u - x) = u := by omega
      have ev' : y + (v - y) = v := by omega
      rw [eu', ev']
      walk_at "bs"
      have pb : Bd 55 (u * u + v * v) := (ub.mul ub).add (vb.mul vb)
      refine lowest_q b0 (bd_le qb (by decide)) _ ?_
      rw [← low_one]
      refine h _ _ _ _ b0 (by decide) (pb.mono (by decide)) (qb.mono (by decide)) (bt.mono (by decide)) one1 ?_
      have f1 : ((u * u + v * v : Int) : Rat) / (Q : Rat) = U * U + V * V := by
        simp only [Rat.intCast_add, Rat.intCast_mul, eu, ev, eQ]
        grind
      have f2 : (t : Rat) / ((1 : Int) : Rat) = t := by grind
      rw [f1, f2]
      refine gb2 n1 ?_
      have := mt asp.mpr (by omega)
      grind
    · have n2 := asp.mp (by omega)
      walk_at "bs"
      have cb : Bd 56 (x * (v - y) - y * (u - x)) := (xb.mul dv).sub (yb.mul du)
      have sb : Bd 57 ((u - x) * (u - x) + (v - y) * (v - y)) := (du.mul du).add (dv.mul dv)
      have ab : Bd 56 (x * (u - x) + y * (v - y)) := (xb.mul du).add (yb.mul dv)
      have s0 : 0 < (u - x) * (u - x) + (v - y) * (v - y) := by omega
      have z0 := Int.mul_pos s0 b0
      have zb : Bd 97 (((u - x) * (u - x) + (v - y) * (v - y)) * Q) := sb.mul qb
      refine lowest_q z0 (bd_le zb (by decide)) _ ?_
      have te : Bd 6 (t - s) := bt.sub bs
      have mb : Bd 63 (s * ((u - x) * (u - x) + (v - y) * (v - y)) - (x * (u - x) + y * (v - y)) * (t - s)) := (bs.mul sb).sub (ab.mul te)
      walk_at "bs"
      refine lowest_q s0 (bd_le sb (by decide)) _ ?_
      refine h _ _ _ _ z0 s0 ((cb.mul cb).mono (by decide)) (zb.mono (by decide)) (mb.mono (by decide)) (sb.mono (by decide)) ?_
      have W0 : 0 < (U - X) * (U - X) + (V - Y) * (V - Y) := by grind
      have f1 : (((x * (v - y) - y * (u - x)) * (x * (v - y) - y * (u - x)) : Int) : Rat) / ((((u - x) * (u - x) + (v - y) * (v - y)) * Q : Int) : Rat) = (X * (V - Y) - Y * (U - X)) * (X * (V - Y) - Y * (U - X)) / ((U - X) * (U - X) + (V - Y) * (V - Y)) := by
        have g1 : (((x * (v - y) - y * (u - x)) * (x * (v - y) - y * (u - x)) : Int) : Rat) = (S * S) * (S * S) * ((X * (V - Y) - Y * (U - X)) * (X * (V - Y) - Y * (U - X))) := by
          simp only [Rat.intCast_sub, Rat.intCast_mul, ex, ey, eu, ev]
          grind
        rw [g1, Rat.intCast_mul, sw, eQ]
        exact frac1 SS W0
      have f2 : ((s * ((u - x) * (u - x) + (v - y) * (v - y)) - (x * (u - x) + y * (v - y)) * (t - s) : Int) : Rat) / (((u - x) * (u - x) + (v - y) * (v - y) : Int) : Rat) = s + -(X * (U - X) + Y * (V - Y)) / ((U - X) * (U - X) + (V - Y) * (V - Y)) * (t - s) := by
        rw [Rat.intCast_sub, Rat.intCast_mul, Rat.intCast_mul, sw, al, Rat.intCast_sub]
        exact frac2 SS W0
      rw [f1, f2]
      exact gb3 n1 n2
theorem nearestC_q {a b : List Rw} (ha : LogOk a) (hb : LogOk b) {lo hi : Int} (l0 : 0 ≤ lo) (h1 : hi ≤ 100000) (K : PyData → Prop) (k0 : eE a b hi < bE a b lo → K .none)
    (k1 : bE a b lo ≤ eE a b hi → ∀ (p q p' q' : Int), 0 < q → 0 < q' → Bd 120 p → Bd 120 q → Bd 64 p' → Bd 64 q' → Best (d2 a b) (bE a b lo) (eE a b hi) ((p : Rat) / q) ((p' : Rat) / q') → K (.tuple [lowD p q, lowD p' q'])) : q_nearest_of (logD a) (logD b) (.int lo) (.int hi) K := by
  unfold q_nearest_of
  refine hours_q ha hb _ (fun e => ?_) fun e => ?_
  · walk_at "q"
    exact k0 e
  · have k1 := k1 e
    walk_at "q"
    refine marks_q ha hb _ fun ms m1 m2 => ?_
    have bd : ∀ t ∈ ms, Within a t ∧ Within b t ∧ 0 ≤ t ∧ t ≤ 100000 := fun t ht => by
      obtain ⟨i1, i2⟩ := mk_in e ((m2 t).mp ht)
      obtain ⟨w1, w2, w3, w4⟩ := within_of i1 i2
      exact ⟨w1, w2, by omega, by omega⟩
    have inn : ∀ t ∈ ms, bE a b lo ≤ t ∧ t ≤ eE a b hi := fun t ht => mk_in e ((m2 t).mp ht)
    have hB : bE a b lo ∈ ms := (m2 _).mpr (by unfold mkH; simp)
    have hE : eE a b hi ∈ ms := (m2 _).mpr (by unfold mkH; simp)
    have clear : ∀ (k : Nat) (c d : Int), ms[k]? = some c → ms[k + 1]? = some d → Clear a b c d := fun k c d hc hd => by
      have i1 := inn c (List.mem_of_getElem? hc)
      have i2 := inn d (List.mem_of_getElem? hd)
      have go : ∀ r ∈ a ++ b, ¬ (c < r.h ∧ r.h < d) := fun r hr z => by
        refine rise_next m1 hc hd ((m2 r.h).mpr ?_) z
        unfold mkH
        refine List.mem_cons_of_mem _ (List.mem_cons_of_mem _ (List.mem_map.mpr ⟨r, List.mem_filter.mpr ⟨hr, ?_⟩, rfl⟩))
        simp only [Bool.and_eq_true, decide_eq_true_eq]
        omega
      exact ⟨fun r hr => go r (List.mem_append_left _ hr), fun r hr => go r (List.mem_append_right _ hr)⟩
    obtain ⟨m, ns, rfl⟩ : ∃ m ns, ms = m :: ns := by
      cases ms with
      | nil => exact absurd hB (by simp)
      | cons m ns => exact ⟨m, ns, rfl⟩
    have em : m = bE a b lo := by
      obtain ⟨i, hi'⟩ := List.mem_iff_getElem?.mp hB
      have := rise_le m1 (i := 0) (j := i) rfl hi' (by omega)
      have := (inn m (by simp)).1
      omega
    have el : (m :: ns)[ns.length]? = some (eE a b hi) := by
      obtain ⟨i, hi'⟩ := List.mem_iff_getElem?.mp hE
      have hl : ns.length < (m :: ns).length := by simp
      have il := (List.getElem?_eq_some_iff.mp hi').1
      have e2 : (m :: ns)[ns.length]? = some ((m :: ns)[ns.length]) := List.getElem?_eq_getElem hl
      have a1 := rise_le m1 hi' e2 (by simp at il; omega)
      have a2 := (inn _ (List.getElem_mem hl)).2
      rw [e2]
      congr 1
      omega
    obtain ⟨w1, w2, w3, w4⟩ := bd m (by simp)
    have cl0 : Clear a b m m := ⟨fun r _ z => by omega, fun r _ z => by omega⟩
    rw [List.map_cons]
    walk_at "q"
    refine leastC_q ha hb (Int.le_refl _) cl0 w1 w2 w1 w2 w3 w4 w3 w4 _ fun p q p' q' q0 q0' bp bq bp' bq' hp => ?_
    walk_at "q"
    simp only [cut1]
    walk_at "q"
    have hlen : (zipD (PyData.int m :: ns.map .int) (ns.map .int)).length = ns.length := by rw [zipD_length]; simp
    refine qFor_ind (fun k s => ∃ (p q p' q' : Int), s = .tuple [lowD p q, lowD p' q'] ∧ 0 < q ∧ 0 < q' ∧ Bd 120 p ∧ Bd 120 q ∧ Bd 64 p' ∧ Bd 64 q' ∧ ∀ c, (m :: ns)[k]? = some c → Best (d2 a b) (bE a b lo) (c : Int) ((p : Rat) / q) ((p' : Rat) / q'))
      ⟨p, q, p', q', rfl, q0, q0', bp, bq, bp', bq', fun c hc => by simp at hc; subst hc; rw [← em]; exact hp⟩ (fun k d s nx hd hs hnx => ?_) fun s hs => ?_
    · obtain ⟨p, q, p', q', rfl, q0, q0', bp, bq, bp', bq', hp⟩ := hs
      obtain ⟨x, y, e1, e2, rfl⟩ := zipD_get hd
      rw [← List.map_cons (f := PyData.int), List.getElem?_map] at e1
      rw [List.getElem?_map] at e2
      obtain ⟨c, ec, rfl⟩ := Option.map_eq_some_iff.mp e1
      obtain ⟨d, ed, rfl⟩ := Option.map_eq_some_iff.mp e2
      have ed2 : (m :: ns)[k + 1]? = some d := by simpa using ed
      obtain ⟨v1, v2, v3, v4⟩ := bd c (List.mem_of_getElem? ec)
      obtain ⟨u1, u2, u3, u4⟩ := bd d (List.mem_of_getElem? ed2)
      have cd : c ≤ d := rise_le m1 ec ed2 (by omega)
      have bc := (inn c (List.mem_of_getElem? ec)).1
      unfold qb_nearest_of_1
      walk_at "q"
      refine leastC_q ha hb cd (clear k c d ec ed2) v1 v2 u1 u2 v3 v4 u3 u4 _ fun r s r' s' s0 s0' br bs br' bs' hr => ?_
      have more := (hp c ec).more hr (rle.mpr bc) (rle.mpr cd)
      have lt := rat_lt (p := lowN r s) (p' := lowN p q) (low_of r s0).b0 (low_of p q0).b0
      rw [low_rat r s0, low_rat p q0] at lt
      have n1 := low_bd (P := r) s0 br
      have n2 := low_bdB (P := r) s0 bs
      have n3 := low_bd (P := p) q0 bp
      have n4 := low_bdB (P := p) q0 bq
      walk_at "bs"
      refine bIf_d (fun z => hnx _ ⟨r, s, r', s', rfl, s0, s0', br, bs, br', bs', fun c' hc' => ?_⟩) fun z => hnx _ ⟨p, q, p', q', rfl, q0, q0', bp, bq, bp', bq', fun c' hc' => ?_⟩
      · rw [ed2] at hc'
        cases hc'
        exact more.1 (lt.mp z)
      · rw [ed2] at hc'
        cases hc'
        refine more.2 ?_
        have := mt lt.mpr z
        grind
    · obtain ⟨p, q, p', q', rfl, q0, q0', bp, bq, bp', bq', hp⟩ := hs
      rw [hlen] at hp
      exact k1 p q p' q' q0 q0' bp bq bp' bq' (hp _ el)
/-- what is told, with bounds -/
structure ResN (d : PyData) : Prop where
  bd : ∀ p q r s : Int, d = .tuple [.tuple [.int p, .int q], .tuple [.int r, .int s]] → Bd 120 p ∧ Bd 120 q ∧ 0 < q ∧ Bd 64 r ∧ Bd 64 s ∧ 0 < s
theorem nearest_resN {a b : List Rw} (ha : LogOk a) (hb : LogOk b) {lo hi : Int} (l0 : 0 ≤ lo) (lh : lo ≤ hi) (h1 : hi ≤ 100000) (K : PyData → Prop) (h : ∀ d, Res a b lo hi d → ResN d → K d) : q_nearest (logD a) (logD b) (.int lo) (.int hi) K := by
  unfold q_nearest
  unfold q_need_both
  refine need_log_q ha _ (need_log_q hb _ (need_chase_q l0 lh h1 _ ?_))
  refine nearestC_q ha hb l0 h1 _ (fun e => h _ (.inl ⟨e, rfl⟩) ⟨fun _ _ _ _ z => by cases z⟩) fun e p q p' q' q0 q0' bp bq b1 b2 hp => h _ (.inr ⟨e, p, q, p', q', q0, q0', b1.mono (by decide), b2.mono (by decide), hp, rfl⟩) ⟨fun _ _ _ _ z => by
    cases z
    exact ⟨low_bd q0 bp, low_bdB q0 bq, (low_of p q0).b0, low_bd q0' b1, low_bdB q0' b2, (low_of p' q0').b0⟩⟩
theorem law_common_q (i : Int) {j : Int} (hj : 0 ≤ j) (K : PyData → Prop) (h : K (.int (Int.gcd i j : Nat))) : q_law_common (.int i) (.int j) K := by
  unfold q_law_common
  refine qWhile_ind (m := j.natAbs) (fun m s => ∃ a b : Int, s = (.int a, .int b) ∧ 0 ≤ b ∧ b.toNat = m ∧ Int.gcd a b = Int.gcd i j) ⟨_, _, rfl, hj, by omega, rfl⟩ ?_
  rintro m _ nx ⟨a, b, rfl, hb, hm, hg⟩ hn
  unfold qb_law_common_1
  walk_at "q"
  by_cases h0 : b = 0
  · subst h0
    have : Int.gcd a 0 = a.natAbs := Int.gcd_zero_right a
    rw [← hg, this] at h
    walk_at "q"
    have ea : (if a < 0 then -a else a) = (a.natAbs : Int) := by split <;> omega
    rw [ea]
    exact h
  · rw [decide_eq_false h0]
    walk_at "go"
    have hm1 := Int.emod_lt_of_pos a (show 0 < b by omega)
    have hm0 := Int.emod_nonneg a (by omega : b ≠ 0)
    exact hn (a % b).toNat _ (by omega) ⟨b, a % b, rfl, hm0, rfl, by rw [gcd_down]; exact hg⟩
theorem fdiv_pos {a b : Int} (h : 0 ≤ b) : a.fdiv b = a / b := Int.fdiv_eq_ediv_of_nonneg a h
theorem law_terms_q (p : Int) {q : Int} (q0 : 0 < q) (q1 : q ≤ 10 ^ 30) (K : PyData → Prop) (h : K (lowD p q)) : q_law_terms (.int p) (.int q) K := by
  unfold q_law_terms
  refine law_common_q p (by omega) _ ?_
  have l := low_of p q0
  have g0 := l.g0
  have g1 := l.g1
  walk_at "q"
  rw [decide_eq_false (show ¬ q < 0 by omega)]
  walk_at "q"
  simp only [Bool.false_eq_true, if_false]
  walk_at "q"
  rw [Int.mul_one]
  unfold lowD lowN lowB at h
  rw [fdiv_pos (by omega), fdiv_pos (by omega)] at h
  walk_at "sides"
  exact h

theorem shInt_len {i : Int} {k : Nat} (hk : 0 < k) (h : i.natAbs < 10 ^ k) : (shInt i).length ≤ k + 1 := by
  unfold shInt
  show (Str.ofString (toString i)).length ≤ k + 1
  rw [PySem.ofString_length]
  exact int_text_length_le10 hk h
theorem wide_q {n : Int} {xs : List PyData} (hp : DrawOk n xs) (hn : n ≤ 10 ^ 4) {m : Int} (m0 : 0 < m) (m1 : m ≤ 10 ^ 12) (K : PyData → List PyData → Prop) (h : ∀ r xs', 0 ≤ r → r < m → DrawOk (n + 4) xs' → K (.int r) xs') : q_law_wide xs (.int m) K := by
  unfold q_law_wide
  have hl := shInt_len (i := m) (k := 13) (by decide) (by omega)
  have z := sz_of (i := 10) (by decide) (by decide)
  have e6 : (10 : Int) ^ Int.toNat 6 = 1000000 := by decide
  walk_at "go"
  refine qFor_range (fun k s => ∃ (xs : List PyData) (v : Int), s = (xs, .int v) ∧ 0 ≤ v ∧ v < 10 ^ (6 * k) ∧ DrawOk (n + k) xs) ⟨_, 0, rfl, by decide, by decide, hp.mono (by omega)⟩ (fun k s nx hk ⟨xs, v, e, v0, v1, hp⟩ hnx => ?_) fun s ⟨xs, v, e, v0, v1, hp⟩ => ?_
  · subst e
    have hk3 : k < 4 := by omega
    have v2 : v < 10 ^ 18 := Int.lt_of_lt_of_le v1 (by
      rcases (by omega : k = 0 ∨ k = 1 ∨ k = 2 ∨ k = 3) with rfl | rfl | rfl | rfl <;> decide)
    unfold qb_law_wide_1
    walk_at "go"
    rw [e6]
    walk_at "go"
    refine law_draw_q hp (by omega) (by decide) (by decide) _ fun r xs r0 r1 hp => ?_
    walk_at "q"
    refine hnx _ ⟨xs, _, rfl, by omega, ?_, hp.mono (by omega)⟩
    rcases (by omega : k = 0 ∨ k = 1 ∨ k = 2 ∨ k = 3) with rfl | rfl | rfl | rfl <;> simp at v1 ⊢ <;> omega
  · subst e
    walk_at "q"
    exact ⟨m0, h _ _ (Int.emod_nonneg _ (by omega)) (Int.emod_lt_of_pos _ m0) (hp.mono (by omega))⟩
/-! ### a log's told place at a moment, as rational numbers -/
def Plc (rs : List Rw) (t : Rat) (d : PyData) : Prop := ∃ N D N' D' : Int, 0 < D ∧ 0 < D' ∧ (Bd 80 N ∧ Bd 80 D ∧ Bd 80 N' ∧ Bd 80 D') ∧ (N : Rat) / D = posF Rw.x rs t ∧ (N' : Rat) / D' = posF Rw.y rs t ∧ d = .tuple [lowD N D, lowD N' D']
def AlikeP (a b : List Rw) (t : Rat) : Prop := posF Rw.x a t = posF Rw.x b t ∧ posF Rw.y a t = posF Rw.y b t
theorem AlikeP.symm {a b : List Rw} {t : Rat} (h : AlikeP a b t) : AlikeP b a t := ⟨h.1.symm, h.2.symm⟩
noncomputable def alikeB (a b : List Rw) (t : Int) : Bool := @decide (AlikeP a b t) (Classical.propDecidable _)
theorem alikeB_iff {a b : List Rw} {t : Int} : alikeB a b t = true ↔ AlikeP a b t := by
  unfold alikeB
  exact @decide_eq_true_iff _ (Classical.propDecidable _)
theorem alikeB_of {a b : List Rw} {t : Int} {c : Bool} (h : c = true ↔ AlikeP a b t) : c = alikeB a b t := by
  rw [Bool.eq_iff_iff, h, alikeB_iff]
theorem low_inj {p q p' q' : Int} (h : 0 < q) (h' : 0 < q') : lowD p q = lowD p' q' ↔ (p : Rat) / q = (p' : Rat) / q' := by
  refine ⟨fun e => ?_, fun e => low_same h h' e⟩
  have e1 : lowN p q = lowN p' q' ∧ lowB p q = lowB p' q' := by
    unfold lowD at e
    simpa using e
  rw [← low_rat p h, ← low_rat p' h', e1.1, e1.2]
theorem eqP_lows {p q r s : Int} : eqP (.tuple [.int p, .int q]) r s = true ↔ PyData.tuple [.int p, .int q] = .tuple [.int r, .int s] := by
  simp only [eqP, eqI, Bool.and_eq_true, decide_eq_true_eq]
  simp
theorem plc_eq {a b : List Rw} {t : Rat} {d e : PyData} (ha : Plc a t d) (hb : Plc b t e) (K : PyData → Prop) (h : ∀ c : Bool, (c = true ↔ AlikeP a b t) → K (.bool c)) : oEq d e K := by
  obtain ⟨N, D, N', D', d0, d0', _, e1, e2, rfl⟩ := ha
  obtain ⟨M, E, M', E', c0, c0', _, f1, f2, rfl⟩ := hb
  unfold oEq
  refine ⟨⟨rfl, rfl⟩, ?_⟩
  rw [eqD_pairs]
  refine h _ ?_
  simp only [eqQ, Bool.and_eq_true]
  unfold AlikeP
  rw [← e1, ← e2, ← f1, ← f2, ← low_inj d0 c0, ← low_inj d0' c0']
  exact and_congr eqP_lows eqP_lows
theorem plc_cases {rs : List Rw} (hr : LogOk rs) {p q : Int} (q0 : 0 < q) (bp : Bd 64 p) (bq : Bd 64 q) (K : PyData → Prop) (h0 : ¬ WithR rs ((p : Rat) / q) → K .none) (h1 : WithR rs ((p : Rat) / q) → ∀ d, Plc rs ((p : Rat) / q) d → K d) :
    (∀ a c, rs[0]? = some a → rs[rs.length - 1]? = some c → p < a.h * q ∨ c.h * q < p → K .none) ∧
    (∀ (i : Nat) a c, rs[i]? = some a → rs[i + 1]? = some c → a.h * q ≤ p → p ≤ c.h * q → (0 < i → a.h * q < p) → K (placeD a c p q)) ∧
    (∀ a, rs = [a] → p = a.h * q → K (pairD a)) := by
  have rq := rlt.mpr q0
  have ep : (p : Rat) / q * q = p := by grind
  obtain ⟨fa, ea, ma, _⟩ := LogOk.first hr.n0
  obtain ⟨lc, ec, mc, _⟩ := LogOk.last hr.n0
  have wi : ∀ {a c : Rw} {i j : Nat}, rs[i]? = some a → rs[j]? = some c → a.h * q ≤ p → p ≤ c.h * q → WithR rs ((p : Rat) / q) := fun {a c i j} e1 e2 l1 l2 => by
    refine ⟨(rdiv_le q0).mpr ?_, (rdiv_ge q0).mpr ?_⟩
    · rw [fH_get ea]
      have := hr.up.le ea e1 (by omega)
      have := Int.mul_le_mul_of_nonneg_right this (Int.le_of_lt q0)
      omega
    · rw [lH_get ec]
      have hj := (List.getElem?_eq_some_iff.mp e2).1
      have := hr.up.le e2 ec (by omega)
      have := Int.mul_le_mul_of_nonneg_right this (Int.le_of_lt q0)
      omega
  refine ⟨fun a c e1 e2 o => h0 fun w => ?_, fun i a c e1 e2 l1 l2 _ => ?_, fun a ea' e => ?_⟩
  · have w0 := (rdiv_le q0).mp w.lo
    have w1 := (rdiv_ge q0).mp w.hi
    rw [fH_get e1] at w0
    rw [lH_get e2] at w1
    omega
  · have l := hr.up.lt e1 e2 (by omega)
    have g0 : 0 < (c.h - a.h) * q := Int.mul_pos (by omega) q0
    have r1 : (a.h : Rat) ≤ (p : Rat) / q := (rdiv_le q0).mpr l1
    have r2 : (p : Rat) / q ≤ (c.h : Rat) := (rdiv_ge q0).mpr l2
    have rl := rlt.mpr l
    have rg := rlt.mpr g0
    have za := hr.ok a (List.mem_of_getElem? e1)
    have zc := hr.ok c (List.mem_of_getElem? e2)
    have bah : Bd 5 a.h := bd5 (by have := za.h0; omega) za.h1
    have bg' : Bd 5 (c.h - a.h) := bd5 (by have := za.h0; omega) (by have := za.h0; have := zc.h1; omega)
    have bG : Bd 69 ((c.h - a.h) * q) := bg'.mul bq
    have bo : Bd 70 (p - a.h * q) := (bp.sub (bah.mul bq)).mono (by decide)
    have bN : ∀ x z : Int, Bd 4 x → Bd 4 z → Bd 80 (mixN x z ((c.h - a.h) * q) (p - a.h * q)) := fun x z bx bz => ((bx.mul bG).add ((bz.sub bx).mul bo)).mono (by decide)
    refine h1 (wi e1 e2 l1 l2) _ ⟨_, _, _, _, g0, g0, ⟨bN _ _ (bd4 za.x0 za.x1) (bd4 zc.x0 zc.x1), bG.mono (by decide), bN _ _ (bd4 za.y0 za.y1) (bd4 zc.y0 zc.y1), bG.mono (by decide)⟩, ?_, ?_, rfl⟩
    · rw [pos_mid hr.up e1 e2 r1 r2]
      unfold mixN
      simp only [Rat.intCast_add, Rat.intCast_mul, Rat.intCast_sub] at rg ⊢
      generalize (p : Rat) / q = t at *
      rw [← ep]
      grind
    · rw [pos_mid hr.up e1 e2 r1 r2]
      unfold mixN
      simp only [Rat.intCast_add, Rat.intCast_mul, Rat.intCast_sub] at rg ⊢
      generalize (p : Rat) / q = t at *
      rw [← ep]
      grind
  · subst ea'
    have et : (p : Rat) / q = (a.h : Rat) := by
      rw [e, Rat.intCast_mul]
      grind
    have za := hr.ok a (by simp)
    refine h1 ?_ _ ⟨a.x, 1, a.y, 1, by decide, by decide, ⟨(bd4 za.x0 za.x1).mono (by decide), bd1.mono (by decide), (bd4 za.y0 za.y1).mono (by decide), bd1.mono (by decide)⟩, ?_, ?_, ?_⟩
    · exact wi (i := 0) (j := 0) rfl rfl (by omega) (by omega)
    · rw [int_rat, posF]
    · rw [int_rat, posF]
    · unfold pairD
      rw [low_one, low_one]
theorem placeR_q {rs : List Rw} (hr : LogOk rs) {p q : Int} (z : BotOk p q) (K : PyData → Prop) (h0 : ¬ WithR rs ((p : Rat) / q) → K .none) (h1 : WithR rs ((p : Rat) / q) → ∀ d, Plc rs ((p : Rat) / q) d → K d) : q_place_of (logD rs) (.tuple [.int p, .int q]) K := by
  have bq : Bd 7 q := bdI (B := 10 ^ 7) (by have := z.q0; omega) z.q1 (by decide)
  have bp : Bd 20 p := bdI (B := 10 ^ 20) z.p0 z.p1 (by decide)
  obtain ⟨c1, c2, c3⟩ := plc_cases hr z.q0 (bp.mono (by decide)) (bq.mono (by decide)) K h0 h1
  exact place_of_q hr z K c1 c2 c3
theorem alike_q {a b : List Rw} (ha : LogOk a) (hb : LogOk b) {t : Int} (wa : Within a t) (wb : Within b t) (t0 : 0 ≤ t) (t1 : t ≤ 100000) (K : PyData → Prop) (h : K (.bool (alikeB a b t))) : q_alike_at (logD a) (logD b) (.int t) K := by
  unfold q_alike_at
  have z : BotOk t 1 := ⟨by decide, by decide, by omega, by omega⟩
  have wr : ∀ {rs : List Rw}, LogOk rs → Within rs t → WithR rs ((t : Rat) / ((1 : Int) : Rat)) := fun {rs} hr w => by
    obtain ⟨x, ex, _, _⟩ := LogOk.first hr.n0
    obtain ⟨y, ey, _, _⟩ := LogOk.last hr.n0
    rw [int_rat]
    exact ⟨rle.mpr (by rw [fH_get ex]; exact w.lo x ex), rle.mpr (by rw [lH_get ey]; exact w.hi y ey)⟩
  refine placeR_q ha z _ (fun e => absurd (wr ha wa) e) fun _ d hd => ?_
  refine placeR_q hb z _ (fun e => absurd (wr hb wb) e) fun _ e he => ?_
  refine plc_eq hd he _ fun c hc => ?_
  rw [int_rat] at hc
  rw [alikeB_of hc]
  exact h
structure BotW (p q : Int) : Prop where
  q0 : 0 < q
  bp : Bd 64 p
  bq : Bd 64 q
theorem lowestW_low {p q : Int} {n : Nat} (hn : n ≤ 900) (hq : 0 < q) (h1 : Bd n q) (K : PyData → Prop) (h : K (lowD p q)) : q_lowest (.int p) (.int q) K := by
  unfold q_lowest
  refine divisor_of_q p q _ ?_
  walk_at "q"
  have l := low_of p hq
  have g0 := l.g0
  have g1 := l.g1
  have bg : Bd n (Int.gcd p q : Int) := bd_of_le (by omega) g1 h1
  refine bIf_d (fun hn => ?_) fun _ => ?_
  · omega
  · exact ⟨⟨g0, sz_bd bg hn⟩, ⟨g0, sz_bd bg hn⟩, h⟩
theorem place_betweenW {a c : Rw} (za : RowOk a) (zc : RowOk c) (hac : a.h < c.h) {p q : Int} (z : BotW p q) (K : PyData → Prop) (h : K (placeD a c p q)) : q_place_between (rowD a) (rowD c) (.int p) (.int q) K := by
  unfold q_place_between
  simp only [rowD]
  have q0 := z.q0
  have bp := z.bp
  have bq := z.bq
  have a0 := za.h0
  have a1 := za.h1
  have c0 := zc.h0
  have c1 := zc.h1
  have g0 : 0 < (c.h - a.h) * q := Int.mul_pos (by omega) (by omega)
  have bah : Bd 5 a.h := bd5 (by omega) a1
  have bg' : Bd 5 (c.h - a.h) := bd5 (by omega) (by omega)
  have bG : Bd 69 ((c.h - a.h) * q) := bg'.mul bq
  have bM : Bd 69 (a.h * q) := bah.mul bq
  have bo : Bd 70 (p - a.h * q) := (bp.sub bM).mono (by decide)
  have b4 : ∀ {x : Int}, -10000 ≤ x → x ≤ 10000 → Bd 4 x := fun h0 h1 => bd4 h0 h1
  have ax := b4 za.x0 za.x1
  have ay := b4 za.y0 za.y1
  have cx := b4 zc.x0 zc.x1
  have cy := b4 zc.y0 zc.y1
  unfold placeD at h
  generalize hG : (c.h - a.h) * q = G at *
  generalize hm : a.h * q = M at *
  walk_at "q"
  refine ⟨⟨sz_bd bg' (by decide), sz_bd bq (by decide)⟩, ⟨sz_bd bah (by decide), sz_bd bq (by decide)⟩, ?_⟩
  simp only [cut1, hG, hm]
  walk_at "q"
  have fin : ∀ x z : Int, Bd 4 x → Bd 4 z → ∀ (K : PyData → Prop), K (lowD (mixN x z G (p - M)) G) → (Sz x ∧ Sz G) ∧ (Sz (z - x) ∧ Sz (p - M)) ∧ q_lowest (.int (x * G + (z - x) * (p - M))) (.int G) K := fun x z bx bz K h =>
    ⟨⟨sz_bd bx (by decide), sz_bd bG (by decide)⟩, ⟨sz_bd (bz.sub bx) (by decide), sz_bd bo (by decide)⟩, lowestW_low (n := 69) (by decide) g0 bG _ h⟩
  refine qLc_map (fun d => match d with | .tuple [.int u, .int v] => lowD (mixN u v G (p - M)) G | _ => .none) (by simp [zipD]) (fun d hd sk yd hy => ?_) ?_
  · simp only [zipD, List.mem_cons, List.not_mem_nil, or_false] at hd
    unfold qb_place_between_1
    rcases hd with rfl | rfl
    · walk_at "q"
      exact fin _ _ ax cx _ hy
    · walk_at "q"
      exact fin _ _ ay cy _ hy
  · simp only [zipD, List.map_cons, List.map_nil]
    walk_at "q"
    exact h
theorem place_ofW {rs : List Rw} (hr : LogOk rs) {p q : Int} (z : BotW p q) (K : PyData → Prop)
    (h1 : ∀ a c, rs[0]? = some a → rs[rs.length - 1]? = some c → p < a.h * q ∨ c.h * q < p → K .none)
    (h2 : ∀ (i : Nat) a c, rs[i]? = some a → rs[i + 1]? = some c → a.h * q ≤ p → p ≤ c.h * q → (0 < i → a.h * q < p) → K (placeD a c p q))
    (h3 : ∀ a, rs = [a] → p = a.h * q → K (pairD a)) : q_place_of (logD rs) (.tuple [.int p, .int q]) K := by
  unfold q_place_of
  obtain ⟨a, ea, ma, pa⟩ := LogOk.first hr.n0
  obtain ⟨c, ec, mc, pc⟩ := LogOk.last hr.n0
  have za := hr.ok a ma
  have zc := hr.ok c mc
  have q0 := z.q0
  have sb : Sz q := sz_bd z.bq (by decide)
  have sh : ∀ r, RowOk r → Sz r.h := fun r z => sz_of (by have := z.h0; omega) (by have := z.h1; omega)
  have sa := sh a za
  have sc := sh c zc
  walk_at "q"
  simp only [pa, pc]
  walk_at "go"
  refine ⟨fun _ => ⟨sc, sb⟩, ?_⟩
  refine bIf_of (fun e => ?_) fun e => ?_
  · rw [Bool.or_eq_true, decide_eq_true_eq, decide_eq_true_eq] at e
    exact h1 a c ea ec e
  · rw [Bool.or_eq_false_iff, decide_eq_false_iff_not, decide_eq_false_iff_not] at e
    obtain ⟨ca, cc⟩ := e
    obtain ⟨r0, rest, rfl⟩ : ∃ r0 rest, rs = r0 :: rest := by
      cases rs with
      | nil => simp at ea
      | cons r rs => exact ⟨r, rs, rfl⟩
    simp only [List.map_cons, cut1]
    walk_at "q"
    have hlen : (zipD (rowD r0 :: rest.map rowD) (rest.map rowD)).length = rest.length := by rw [zipD_length]; simp
    refine qFor_ind (fun k _ => ∀ r, (r0 :: rest)[k]? = some r → r.h * q ≤ p ∧ (0 < k → r.h * q < p)) (fun r z => ?_) (fun k d s nx hd hi hnx => ?_) fun s hi => ?_
    · simp at z ea
      subst z
      subst ea
      exact ⟨by omega, fun z => by omega⟩
    · obtain ⟨x, y, e1, e2, rfl⟩ := zipD_get hd
      rw [← List.map_cons] at e1
      obtain ⟨u, eu, rfl⟩ := row_get e1
      obtain ⟨v, ev, rfl⟩ := row_get e2
      have ev2 : (r0 :: rest)[k + 1]? = some v := by simpa using ev
      have zu := hr.ok u (List.mem_of_getElem? eu)
      have zv := hr.ok v (List.mem_of_getElem? ev2)
      have sv := sh v zv
      have huv := hr.up.lt eu ev2 (Nat.lt_succ_self k)
      obtain ⟨i1, i2⟩ := hi u eu
      unfold qb_place_of_1
      have er : rowD v = .tuple [.int v.h, .int v.x, .int v.y] := rfl
      rw [er]
      walk_at "go"
      refine bIf_d (fun e => ?_) fun e => ?_
      · rw [← er]
        exact place_betweenW zu zv huv z _ (h2 k u v eu ev2 i1 e i2)
      · refine hnx _ fun r z => ?_
        have : v = r := by rw [ev2] at z; exact Option.some.inj z
        subst this
        exact ⟨by omega, fun _ => by omega⟩
    · rw [hlen] at hi
      have ec' : (r0 :: rest)[rest.length]? = some c := by simpa using ec
      obtain ⟨i1, i2⟩ := hi c ec'
      have hz : rest.length = 0 := by
        rcases Nat.eq_zero_or_pos rest.length with z | z
        · exact z
        · have := i2 z
          omega
      have : rest = [] := List.eq_nil_of_length_eq_zero hz
      subst this
      simp at ea ec'
      subst ea
      subst ec'
      refine qLc_map (fun d => .tuple [d, .int 1]) (by simp) (fun d hd sk yd hy => ?_) ?_
      · exact hy
      · walk_at "q"
        exact h3 r0 rfl (by omega)
theorem placeRW_q {rs : List Rw} (hr : LogOk rs) {p q : Int} (z : BotW p q) (K : PyData → Prop) (h0 : ¬ WithR rs ((p : Rat) / q) → K .none) (h1 : WithR rs ((p : Rat) / q) → ∀ d, Plc rs ((p : Rat) / q) d → K d) : q_place_of (logD rs) (.tuple [.int p, .int q]) K := by
  obtain ⟨c1, c2, c3⟩ := plc_cases hr z.q0 z.bp z.bq K h0 h1
  exact place_ofW hr z K c1 c2 c3
theorem placeAtR_q {rs : List Rw} (hr : LogOk rs) {p q : Int} (z : BotW p q) (K : PyData → Prop) (h0 : ¬ WithR rs ((p : Rat) / q) → K .none) (h1 : WithR rs ((p : Rat) / q) → ∀ d, Plc rs ((p : Rat) / q) d → K d) : q_place_at (logD rs) (.tuple [.int p, .int q]) K := by
  unfold q_place_at
  exact need_log_q hr _ (placeRW_q hr z _ h0 h1)
/-! ### where two logs part -/
def partF (al : Int → Bool) : Int → List Int → Option Int
  | _, [] => none
  | a, h :: r => if al h = true then partF al h r else some a
def optD : Option Int → PyData
  | none => .none
  | some i => .int i
/-- what a told parting is -/
theorem part_none {al : Int → Bool} : ∀ {ms : List Int} {a : Int}, partF al a ms = none → ms.filter (fun h => !al h) = []
  | [], _, _ => rfl
  | h :: r, a, e => by
    unfold partF at e
    split at e
    · rename_i z
      rw [List.filter_cons, z]
      exact part_none e
    · cases e
theorem part_some {al : Int → Bool} : ∀ {ms : List Int} {a x : Int}, partF al a ms = some x → ∃ pre h post, ms = pre ++ h :: post ∧ al h = false ∧ (∀ z ∈ pre, al z = true) ∧ x = (pre.getLast?).getD a
  | [], _, _, e => by cases e
  | h :: r, a, x, e => by
    unfold partF at e
    split at e
    · rename_i z
      obtain ⟨pre, h', post, rfl, e1, e2, e3⟩ := part_some e
      refine ⟨h :: pre, h', post, rfl, e1, fun y hy => ?_, ?_⟩
      · rcases List.mem_cons.mp hy with rfl | hy
        · exact z
        · exact e2 y hy
      · rw [e3]
        cases pre with
        | nil => rfl
        | cons p ps => simp [List.getLast?_cons]
    · rename_i z
      cases e
      exact ⟨[], h, r, rfl, by simpa using z, by simp, rfl⟩
theorem part_loop {a b : List Rw} (ha : LogOk a) (hb : LogOk b) (K : PyData → Prop) : ∀ (ms : List Int) (s : Int), (∀ t ∈ ms, Within a t ∧ Within b t ∧ 0 ≤ t ∧ t ≤ 100000) → K (optD (partF (alikeB a b) s ms)) → qFor (qb_part_at_1 K) (logD a, logD b) (ms.map .int) (.int s) fun _ => K .none
  | [], s, _, h => h
  | t :: r, s, hw, h => by
    obtain ⟨w1, w2, w3, w4⟩ := hw t (by simp)
    have ih := part_loop ha hb K r t fun x hx => hw x (List.mem_cons_of_mem _ hx)
    rw [List.map_cons]
    unfold qFor
    generalize e : (fun s => qFor (qb_part_at_1 K) (logD a, logD b) (r.map PyData.int) s fun _ => K .none) = G
    unfold qb_part_at_1
    refine alike_q ha hb w1 w2 w3 w4 _ ?_
    walk_at "q"
    unfold partF at h
    cases c : alikeB a b t with
    | true =>
      rw [if_pos c] at h
      walk_at "q"
      subst e
      exact ih h
    | false =>
      rw [if_neg (by rw [c]; decide)] at h
      walk_at "q"
      exact h
/-- the marks at which two logs may turn -/
structure Turns (a b : List Rw) (ms : List Int) : Prop where
  up : ms.Pairwise (· < ·)
  mem : ∀ k, k ∈ ms ↔ k ∈ mkH a b (bE a b 0) (eE a b 100000)
  le : bE a b 0 ≤ eE a b 100000
theorem Turns.bd {a b : List Rw} {ms : List Int} (T : Turns a b ms) : ∀ t ∈ ms, Within a t ∧ Within b t ∧ 0 ≤ t ∧ t ≤ 100000 := fun t ht => by
  obtain ⟨i1, i2⟩ := mk_in T.le ((T.mem t).mp ht)
  exact within_of i1 i2
theorem Turns.head {a b : List Rw} {ms : List Int} (T : Turns a b ms) : ∃ r, ms = bE a b 0 :: r := by
  have hB : bE a b 0 ∈ ms := (T.mem _).mpr (by unfold mkH; simp)
  cases ms with
  | nil => exact absurd hB (by simp)
  | cons m r =>
    have i1 := (mk_in T.le ((T.mem m).mp (by simp))).1
    rcases List.mem_cons.mp hB with e | e
    · exact ⟨r, by rw [e]⟩
    · have := (List.pairwise_cons.mp T.up).1 _ e
      omega
def partD (a b : List Rw) (d : PyData) : Prop := (eE a b 100000 < bE a b 0 ∧ d = .none) ∨ ∃ ms, Turns a b ms ∧ d = optD (partF (alikeB a b) (bE a b 0) ms)
theorem part_q {a b : List Rw} (ha : LogOk a) (hb : LogOk b) (K : PyData → Prop) (h : ∀ d, partD a b d → K d) : q_part_at (logD a) (logD b) K := by
  unfold q_part_at
  refine need_log_q ha _ (need_log_q hb _ ?_)
  refine hours_q ha hb _ (fun e => ?_) fun e => ?_
  · walk_at "q"
    exact h _ (.inl ⟨e, rfl⟩)
  · walk_at "q"
    refine marks_q ha hb _ fun ms m1 m2 => ?_
    walk_at "q"
    have T : Turns a b ms := ⟨m1, m2, e⟩
    exact part_loop ha hb K ms _ T.bd (h _ (.inr ⟨ms, T, rfl⟩))
theorem less3_q {p q p' q' : Int} {n : Nat} (hn : n ≤ 900) (q0 : 0 < q) (q0' : 0 < q') (b1 : Bd n p) (b2 : Bd n q) (b3 : Bd n p') (b4 : Bd n q') (K : PyData → Prop) (h : ∀ t : Bool, (t = true ↔ (p : Rat) / q < (p' : Rat) / q') → K (.bool t)) : q_law_less (.tuple [.int p, .int q]) (.tuple [.int p', .int q']) K := by
  unfold q_law_less
  walk_at "q"
  refine ⟨⟨sz_bd b1 hn, sz_bd b4 hn⟩, ⟨sz_bd b3 hn, sz_bd b2 hn⟩, h _ ?_⟩
  rw [decide_eq_true_eq]
  exact rat_lt q0 q0'
/-- what is told of the whole is the first of what is told of the parts -/
theorem first2_q {a b : List Rw} {lo m hi : Int} (h1 : lo ≤ m) (h2 : m ≤ hi) {d d1 d2' : PyData} (R : Res a b lo hi d) (R1 : Res a b lo m d1) (R2 : Res a b m hi d2') (N1 : ResN d1) (N2 : ResN d2') (K : PyData → Prop) (k : K d) : q_law_first d1 d2' K := by
  obtain ⟨s1, s2, s3, s4⟩ := split_ends (a := a) (b := b) h1 h2
  unfold q_law_first
  rcases R1 with ⟨e1, rfl⟩ | ⟨e1, p, q, r, s, q0, s0, b1, b2, B1, rfl⟩
  · rcases R2 with ⟨e2, rfl⟩ | ⟨e2, p', q', r', s', q0', s0', b1', b2', B2, rfl⟩
    · have e := s4 e1 e2
      have : d = .none := by
        rcases R with ⟨_, rfl⟩ | ⟨e', _⟩
        · rfl
        · omega
      subst this
      walk_at "q"
      exact k
    · have e := s3 e1 e2
      have e3 : bE a b lo ≤ eE a b hi := by rw [← e]; exact e2
      rw [e] at B2
      have : d = .tuple [lowD p' q', lowD r' s'] := (Res.uniq (.inr ⟨e3, p', q', r', s', q0', s0', b1', b2', B2, rfl⟩) R rfl rfl fun _ _ _ => rfl)
      subst this
      walk_at "q"
      exact k
  · rcases R2 with ⟨e2, rfl⟩ | ⟨e2, p', q', r', s', q0', s0', b1', b2', B2, rfl⟩
    · have e := s2 e1 e2
      rw [e] at B1
      have e3 : bE a b lo ≤ eE a b hi := by rw [← e]; exact e1
      have : d = .tuple [lowD p q, lowD r s] := (Res.uniq (.inr ⟨e3, p, q, r, s, q0, s0, b1, b2, B1, rfl⟩) R rfl rfl fun _ _ _ => rfl)
      subst this
      walk_at "q"
      exact k
    · obtain ⟨f1, f2, f3, f4⟩ := s1 e1 e2
      rw [f2] at B1
      rw [f1] at B2
      obtain ⟨z1, z2, z3, _⟩ := N1.bd _ _ _ _ rfl
      obtain ⟨y1, y2, y3, _⟩ := N2.bd _ _ _ _ rfl
      have more := B1.more B2 (rle.mpr f3) (rle.mpr f4)
      walk_at "q"
      refine less_q y3 z3 y1 y2 z1 z2 _ fun t ht => ?_
      rw [low_rat p' q0', low_rat p q0] at ht
      walk_at "q"
      have e3 : bE a b lo ≤ eE a b hi := by omega
      cases t with
      | true =>
        have : d = .tuple [lowD p' q', lowD r' s'] := (Res.uniq (.inr ⟨e3, p', q', r', s', q0', s0', b1', b2', more.1 (ht.mp rfl), rfl⟩) R rfl rfl fun _ _ _ => rfl)
        subst this
        exact k
      | false =>
        have hn : (p : Rat) / q ≤ (p' : Rat) / q' := by
          have := fun z => ht.mpr z
          grind
        have : d = .tuple [lowD p q, lowD r s] := (Res.uniq (.inr ⟨e3, p, q, r, s, q0, s0, b1, b2, more.2 hn, rfl⟩) R rfl rfl fun _ _ _ => rfl)
        subst this
        exact k
theorem gap_q {N D M E : Int} {n : Nat} (hn : n ≤ 200) (bN : Bd n N) (bD : Bd n D) (bM : Bd n M) (bE' : Bd n E) (K : PyData → Prop) (h : K (.tuple [.int (N * E - M * D), .int (D * E)])) : q_law_gap (.tuple [.int N, .int D]) (.tuple [.int M, .int E]) K := by
  unfold q_law_gap
  walk_at "q"
  exact ⟨⟨sz_bd bN (by omega), sz_bd bE' (by omega)⟩, ⟨sz_bd bM (by omega), sz_bd bD (by omega)⟩, ⟨sz_bd bD (by omega), sz_bd bE' (by omega)⟩, h⟩
theorem gap_rat {N D M E : Int} (d0 : 0 < D) (e0 : 0 < E) : ((N * E - M * D : Int) : Rat) / ((D * E : Int) : Rat) = (N : Rat) / D - (M : Rat) / E := by
  have r1 := rlt.mpr d0
  have r2 := rlt.mpr e0
  simp only [Rat.intCast_sub, Rat.intCast_mul]
  grind
theorem apart2_q {a b : List Rw} {t : Rat} {d e : PyData} (ha : Plc a t d) (hb : Plc b t e) (K : PyData → Prop) (h : ∀ P Q : Int, 0 < Q → Bd 850 P → Bd 850 Q → (P : Rat) / Q = d2 a b t → K (lowD P Q)) : q_law_apart d e K := by
  obtain ⟨N, D, N', D', d0, d0', ⟨bN, bD, bN', bD'⟩, e1, e2, rfl⟩ := ha
  obtain ⟨M, E, M', E', c0, c0', ⟨bM, bE', bM', bE''⟩, f1, f2, rfl⟩ := hb
  have l1 := low_of N d0
  have l2 := low_of N' d0'
  have l3 := low_of M c0
  have l4 := low_of M' c0'
  unfold q_law_apart
  walk_at "q"
  refine gap_q (n := 80) (by decide) (low_bd d0 bN) (low_bdB d0 bD) (low_bd c0 bM) (low_bdB c0 bE') _ ?_
  walk_at "q"
  refine gap_q (n := 80) (by decide) (low_bd d0' bN') (low_bdB d0' bD') (low_bd c0' bM') (low_bdB c0' bE'') _ ?_
  have x1 : Bd 161 (lowN N D * lowB M E - lowN M E * lowB N D) := ((low_bd d0 bN).mul (low_bdB c0 bE')).sub ((low_bd c0 bM).mul (low_bdB d0 bD))
  have x2 : Bd 160 (lowB N D * lowB M E) := (low_bdB d0 bD).mul (low_bdB c0 bE')
  have y1 : Bd 161 (lowN N' D' * lowB M' E' - lowN M' E' * lowB N' D') := ((low_bd d0' bN').mul (low_bdB c0' bE'')).sub ((low_bd c0' bM').mul (low_bdB d0' bD'))
  have y2 : Bd 160 (lowB N' D' * lowB M' E') := (low_bdB d0' bD').mul (low_bdB c0' bE'')
  have g1 := gap_rat (N := lowN N D) (M := lowN M E) l1.b0 l3.b0
  have g2 := gap_rat (N := lowN N' D') (M := lowN M' E') l2.b0 l4.b0
  rw [low_rat N d0, low_rat M c0, e1, f1] at g1
  rw [low_rat N' d0', low_rat M' c0', e2, f2] at g2
  have p1 : 0 < lowB N D * lowB M E := Int.mul_pos l1.b0 l3.b0
  have p2 : 0 < lowB N' D' * lowB M' E' := Int.mul_pos l2.b0 l4.b0
  generalize lowN N D * lowB M E - lowN M E * lowB N D = A at x1 g1 ⊢
  generalize lowB N D * lowB M E = B at x2 g1 p1 ⊢
  generalize lowN N' D' * lowB M' E' - lowN M' E' * lowB N' D' = A' at y1 g2 ⊢
  generalize lowB N' D' * lowB M' E' = B' at y2 g2 p2 ⊢
  have z1 : Bd 322 (A * A) := x1.mul x1
  have z2 : Bd 482 (A * A * B') := z1.mul y2
  have z3 : Bd 642 (A * A * B' * B') := z2.mul y2
  have z4 : Bd 322 (A' * A') := y1.mul y1
  have z5 : Bd 482 (A' * A' * B) := z4.mul x2
  have z6 : Bd 642 (A' * A' * B * B) := z5.mul x2
  have z7 : Bd 643 (A * A * B' * B' + A' * A' * B * B) := z3.add z6
  have z8 : Bd 320 (B * B') := x2.mul y2
  have z9 : Bd 640 (B * B' * (B * B')) := z8.mul z8
  have q0 : 0 < B * B' * (B * B') := Int.mul_pos (Int.mul_pos p1 p2) (Int.mul_pos p1 p2)
  have sz : ∀ {n : Nat} {i : Int}, Bd n i → n ≤ 900 → Sz i := fun h1 h2 => sz_bd h1 h2
  walk_at "q"
  refine ⟨⟨sz x1 (by decide), sz x1 (by decide)⟩, ⟨sz z1 (by decide), sz y2 (by decide)⟩, ⟨sz z2 (by decide), sz y2 (by decide)⟩, ⟨sz y1 (by decide), sz y1 (by decide)⟩, ⟨sz z4 (by decide), sz x2 (by decide)⟩, ⟨sz z5 (by decide), sz x2 (by decide)⟩, ⟨sz x2 (by decide), sz y2 (by decide)⟩, ⟨sz z8 (by decide), sz z8 (by decide)⟩, ?_⟩
  refine law_termsW _ q0 z9 (by decide) _ (h _ _ q0 (z7.mono (by decide)) (z9.mono (by decide)) ?_)
  have r1 := rlt.mpr p1
  have r2 := rlt.mpr p2
  unfold d2
  rw [← g1, ← g2]
  simp only [Rat.intCast_add, Rat.intCast_mul]
  grind
theorem within_both {a b : List Rw} {lo hi : Int} {t : Rat} (wa : WithR a t) (wb : WithR b t) (h1 : (lo : Rat) ≤ t) (h2 : t ≤ (hi : Rat)) : (bE a b lo : Rat) ≤ t ∧ t ≤ (eE a b hi : Rat) := by
  have e1 : bE a b lo = fH a ∨ bE a b lo = fH b ∨ bE a b lo = lo := by unfold bE max3; omega
  have e2 : eE a b hi = lH a ∨ eE a b hi = lH b ∨ eE a b hi = hi := by unfold eE min3; omega
  constructor
  · rcases e1 with e | e | e <;> rw [e]
    · exact wa.lo
    · exact wb.lo
    · exact h1
  · rcases e2 with e | e | e <;> rw [e]
    · exact wa.hi
    · exact wb.hi
    · exact h2
theorem none_nearer_q {n : Int} {xs : List PyData} (hp : DrawOk n xs) (hn : n ≤ 9000) {a b : List Rw} (ha : LogOk a) (hb : LogOk b) {lo hi : Int} (l0 : 0 ≤ lo) (lh : lo ≤ hi) (h1 : hi ≤ 100000) {told : PyData} (R : Res a b lo hi told) (N : ResN told) (K : PyData → List PyData → Prop) (k : ∀ xs', DrawOk (n + 40) xs' → K (.bool true) xs') : q_law_none_nearer xs (logD a) (logD b) (.int lo) (.int hi) told K := by
  unfold q_law_none_nearer
  refine law_draw_q hp (by omega) (by decide) (by decide) _ fun y xs y0 y1 hp => ?_
  walk_at "q"
  refine ⟨by decide, ?_⟩
  refine qFor_range (fun j s => DrawOk (n + 1 + 4 * j) s) (by simpa using hp) (fun j s nx hj hp hnx => ?_) fun s hp => ?_
  · have hj : j < 6 := hj
    have by0 : 0 < 1 + y := by omega
    have bby : Bd 5 (1 + y) := bd5 (by omega) (by omega)
    have blo : Bd 5 lo := bd5 (by omega) (by omega)
    have bhl : Bd 5 (hi - lo) := bd5 (by omega) (by omega)
    have m0 : 0 ≤ (hi - lo) * (1 + y) := Int.mul_nonneg (by omega) (by omega)
    have m1 : (hi - lo) * (1 + y) ≤ 100000 * 1000 := Int.mul_le_mul (by omega) (by omega) (by omega) (by decide)
    unfold qb_law_none_nearer_1
    walk_at "q"
    refine ⟨⟨sz_bd blo (by decide), sz_bd bby (by decide)⟩, ⟨sz_bd bhl (by decide), sz_bd bby (by decide)⟩, ?_⟩
    refine wide_q hp (by omega) (by omega) (by omega) _ fun v xs v0 v1 hp => ?_
    walk_at "q"
    refine law_termsW (n := 5) _ by0 bby (by decide) _ ?_
    have bv : Bd 8 v := bdI (B := 10 ^ 8) (by omega) (by omega) (by decide)
    have bP : Bd 11 (lo * (1 + y) + v) := ((blo.mul bby).add bv).mono (by decide)
    have l := low_of (lo * (1 + y) + v) by0
    have hv := low_rat (lo * (1 + y) + v) by0
    have z : BotW (lowN (lo * (1 + y) + v) (1 + y)) (lowB (lo * (1 + y) + v) (1 + y)) := ⟨l.b0, (low_bd by0 bP).mono (by decide), (low_bdB by0 bby).mono (by decide)⟩
    have rby := rlt.mpr by0
    have t1 : (lo : Rat) ≤ ((lo * (1 + y) + v : Int) : Rat) / ((1 + y : Int) : Rat) := (rdiv_le by0).mpr (by omega)
    have t2 : ((lo * (1 + y) + v : Int) : Rat) / ((1 + y : Int) : Rat) ≤ (hi : Rat) := (rdiv_ge by0).mpr (by
      have : (hi - lo) * (1 + y) = hi * (1 + y) - lo * (1 + y) := Int.sub_mul ..
      omega)
    rw [← hv] at t1 t2
    have hnx := hnx xs (hp.mono (by omega))
    refine placeAtR_q ha z _ (fun _ => ?_) fun wa d hd => ?_
    · refine placeAtR_q hb z _ (fun _ => ?_) fun _ e he => ?_
      · walk_at "q"
        exact hnx
      · walk_at "q"
        exact hnx
    · have dn : ∃ ds, d = .tuple ds := by obtain ⟨_, _, _, _, _, _, _, _, _, rfl⟩ := hd; exact ⟨_, rfl⟩
      refine placeAtR_q hb z _ (fun _ => ?_) fun wb e he => ?_
      · obtain ⟨ds, rfl⟩ := dn
        walk_at "q"
        exact hnx
      · have en : ∃ es, e = .tuple es := by obtain ⟨_, _, _, _, _, _, _, _, _, rfl⟩ := he; exact ⟨_, rfl⟩
        obtain ⟨w1, w2⟩ := within_both wa wb t1 t2
        obtain ⟨ds, rfl⟩ := dn
        obtain ⟨es, rfl⟩ := en
        walk_at "q"
        rcases R with ⟨e1, _⟩ | ⟨e1, p, q, r, s, q0, s0, b1, b2, B, rfl⟩
        · have := rle.mp (Rat.le_trans w1 w2)
          omega
        · obtain ⟨n1, n2, n3, _⟩ := N.bd _ _ _ _ rfl
          walk_at "q"
          refine apart2_q hd he _ fun P Q Q0 bP bQ ePQ => ?_
          walk_at "q"
          have lP := low_of P Q0
          refine less3_q (n := 850) (by decide) lP.b0 n3 (low_bd Q0 bP) (low_bdB Q0 bQ) (n1.mono (by decide)) (n2.mono (by decide)) _ fun t ht => ?_
          rw [low_rat P Q0, low_rat p q0, ePQ] at ht
          have hle := B.le _ w1 w2
          cases t with
          | true =>
            have := ht.mp rfl
            grind
          | false =>
            walk_at "q"
            exact hnx
  · have hp : DrawOk (n + 40) s := hp.mono (by
      have : (Int.toNat 6 : Nat) = 6 := rfl
      omega)
    rcases R with ⟨e1, rfl⟩ | ⟨e1, p, q, r, s', q0, s0, b1, b2, B, rfl⟩
    · walk_at "q"
      exact k s hp
    · obtain ⟨n1, n2, n3, n4, n5, n6⟩ := N.bd _ _ _ _ rfl
      have hv := low_rat r s0
      have z : BotW (lowN r s') (lowB r s') := ⟨n6, n4, n5⟩
      have l1 := B.lo
      have l2 := B.hi
      rw [← hv] at l1 l2
      obtain ⟨wa, wb⟩ := within_rat l1 l2
      walk_at "q"
      refine placeAtR_q ha z _ (fun w => absurd wa w) fun _ d hd => ?_
      walk_at "q"
      refine placeAtR_q hb z _ (fun w => absurd wb w) fun _ e he => ?_
      refine apart2_q hd he _ fun P Q Q0 bP bQ ePQ => ?_
      walk_at "q"
      rw [hv, B.at_] at ePQ
      refine eq_same (low_same Q0 q0 ePQ) rfl ?_ (k s hp)
      simp [PyData.eqv, PyData.eqvAll]
def hoursD (a b : List Rw) (lo hi : Int) : PyData := if eE a b hi < bE a b lo then .none else .tuple [.int (bE a b lo), .int (eE a b hi)]
theorem bothH_q {a b : List Rw} (ha : LogOk a) (hb : LogOk b) {lo hi : Int} (l0 : 0 ≤ lo) (lh : lo ≤ hi) (h1 : hi ≤ 100000) (K : PyData → Prop) (k : K (hoursD a b lo hi)) : q_both_tell (logD a) (logD b) (.int lo) (.int hi) K := by
  unfold q_both_tell
  refine need_log_q ha _ (need_log_q hb _ (need_chase_q l0 lh h1 _ ?_))
  unfold hoursD at k
  refine hours_q ha hb _ (fun e => ?_) fun e => ?_
  · rw [if_pos e] at k
    exact k
  · rw [if_neg (by omega)] at k
    exact k
theorem together_q {a b : List Rw} {lo m hi : Int} (h1 : lo ≤ m) (h2 : m ≤ hi) (K : PyData → Prop) (k : K (hoursD a b lo hi)) : q_law_together (hoursD a b lo m) (hoursD a b m hi) K := by
  obtain ⟨s1, s2, s3, s4⟩ := split_ends (a := a) (b := b) h1 h2
  unfold q_law_together
  unfold hoursD at k ⊢
  by_cases c1 : eE a b m < bE a b lo
  · rw [if_pos c1]
    by_cases c2 : eE a b hi < bE a b m
    · rw [if_pos c2]
      rw [if_pos (s4 c1 c2)] at k
      walk_at "q"
      exact k
    · have e := s3 c1 (by omega)
      rw [if_neg c2]
      rw [if_neg (by omega)] at k
      walk_at "q"
      rw [e]
      exact k
  · rw [if_neg c1]
    by_cases c2 : eE a b hi < bE a b m
    · have e := s2 (by omega) c2
      rw [if_pos c2]
      rw [if_neg (by omega)] at k
      walk_at "q"
      rw [e]
      exact k
    · obtain ⟨f1, f2, f3, f4⟩ := s1 (by omega) (by omega)
      rw [if_neg c2]
      rw [if_neg (by omega)] at k
      walk_at "q"
      exact k
/-- alike at all marks up to x: alike between -/
theorem alike_marks {a b : List Rw} (ha : LogOk a) (hb : LogOk b) {ms : List Int} (T : Turns a b ms) {x : Int} (hx : x ∈ ms) (al : ∀ z ∈ ms, z ≤ x → alikeB a b z = true) {t : Rat} (t0 : (bE a b 0 : Rat) ≤ t) (t1 : t ≤ (x : Rat)) : AlikeP a b t := by
  have go : ∀ (k : Nat) (c : Int), ms[k]? = some c → c ≤ x → ∀ t : Rat, (bE a b 0 : Rat) ≤ t → t ≤ (c : Rat) → AlikeP a b t := by
    intro k
    induction k with
    | zero =>
      intro c hc cx t t0 t1
      obtain ⟨r, er⟩ := T.head
      rw [er] at hc
      simp at hc
      subst hc
      have : t = (bE a b 0 : Rat) := by grind
      rw [this]
      exact alikeB_iff.mp (al _ (by rw [er]; simp) cx)
    | succ k ih =>
      intro c hc cx t t0 t1
      obtain ⟨hk, ec⟩ := List.getElem?_eq_some_iff.mp hc
      have hd : ms[k]? = some ms[k] := List.getElem?_eq_getElem (by omega)
      have hlt : ms[k] < c := by
        rw [← ec]
        exact List.pairwise_iff_getElem.mp T.up k (k + 1) (by omega) hk (by omega)
      by_cases z : t ≤ (ms[k] : Rat)
      · exact ih _ hd (by omega) t t0 z
      · have mk : ms[k] ∈ ms := List.getElem_mem _
        have mc : c ∈ ms := List.mem_of_getElem? hc
        obtain ⟨w1, w2, _, _⟩ := T.bd _ mk
        obtain ⟨v1, v2, _, _⟩ := T.bd _ mc
        have A1 := alikeB_iff.mp (al _ mk (by omega))
        have A2 := alikeB_iff.mp (al _ mc cx)
        have in1 := mk_in T.le ((T.mem _).mp mk)
        have in2 := mk_in T.le ((T.mem _).mp mc)
        have clear : ∀ r ∈ a ++ b, ¬ (ms[k] < r.h ∧ r.h < c) := fun r hr z => by
          refine rise_next T.up hd hc ((T.mem r.h).mpr ?_) z
          unfold mkH
          refine List.mem_cons_of_mem _ (List.mem_cons_of_mem _ (List.mem_map.mpr ⟨r, List.mem_filter.mpr ⟨hr, ?_⟩, rfl⟩))
          simp only [Bool.and_eq_true, decide_eq_true_eq]
          omega
        obtain ⟨u, u0, u1, eu, _⟩ := part_of (rlt.mpr hlt) (by grind : (ms[k] : Rat) ≤ t) t1
        have na : a ≠ [] := fun e => by have := ha.n0; rw [e] at this; simp at this
        have nb : b ≠ [] := fun e => by have := hb.n0; rw [e] at this; simp at this
        have ca := fun r hr => clear r (List.mem_append_left _ hr)
        have cb := fun r hr => clear r (List.mem_append_right _ hr)
        rw [eu]
        unfold AlikeP
        rw [pos_line hlt ha.up ca w1 v1 na u0 u1, pos_line hlt ha.up ca w1 v1 na u0 u1, pos_line hlt hb.up cb w2 v2 nb u0 u1, pos_line hlt hb.up cb w2 v2 nb u0 u1, A1.1, A1.2, A2.1, A2.2]
        exact ⟨rfl, rfl⟩
  obtain ⟨k, hk⟩ := List.mem_iff_getElem?.mp hx
  exact go k x hk (Int.le_refl _) t t0 t1
theorem alike_zero {a b : List Rw} {t : Rat} (h : AlikeP a b t) : d2 a b t = 0 := by
  unfold d2
  rw [h.1, h.2]
  grind
/-- no distance on a stretch -/
theorem res_zero {a b : List Rw} {lo hi : Int} (e : bE a b lo ≤ eE a b hi) (b0 : 0 ≤ bE a b lo) (b1 : bE a b lo ≤ 100000) (h : ∀ t : Rat, (bE a b lo : Rat) ≤ t → t ≤ (eE a b hi : Rat) → d2 a b t = 0) : Res a b lo hi (.tuple [.tuple [.int 0, .int 1], .tuple [.int (bE a b lo), .int 1]]) := by
  have c0 : ((0 : Int) : Rat) = 0 := rfl
  have hz := h _ Rat.le_refl (rle.mpr e)
  refine res_of e (by decide) (by decide) ((bd5 (by omega) b1).mono (by decide)) (bd1.mono (by decide)) ?_ (by decide) (by simp)
  rw [int_rat, int_rat, c0]
  exact ⟨Rat.le_refl, rle.mpr e, hz, fun s h1 h2 => by rw [h s h1 h2]; exact Rat.le_refl, fun s h1 h2 => by grind⟩
theorem eq_told {d d' : PyData} (e : d = d') (h : ∃ p q r s : Int, d' = .tuple [.tuple [.int p, .int q], .tuple [.int r, .int s]]) {K : PyData → Prop} (k : K (.bool true)) : oEq d d' K := by
  subst e
  obtain ⟨p, q, r, s, rfl⟩ := h
  exact eq_same rfl rfl (by simp [PyData.eqv, PyData.eqvAll]) k
theorem ne_told {d d' : PyData} (e : d = d') (h : ∃ p q r s : Int, d' = .tuple [.tuple [.int p, .int q], .tuple [.int r, .int s]]) {K : PyData → Prop} (k : K (.bool false)) : oNe d d' K := by
  subst e
  obtain ⟨p, q, r, s, rfl⟩ := h
  exact ne_same rfl rfl (by simp [PyData.eqv, PyData.eqvAll]) k
theorem parting_q {a b : List Rw} (ha : LogOk a) (hb : LogOk b) {x y : PyData} (K : PyData → Prop) (k : K (.bool true)) : q_law_parting_right (logD a) (logD b) x y K := by
  unfold q_law_parting_right
  have z := sz_of (i := 10) (by decide) (by decide)
  have e5 : (10 : Int) ^ Int.toNat 5 = 100000 := by decide
  refine part_q ha hb _ fun d hd => ?_
  walk_at "q"
  refine ⟨⟨z, by decide, by decide⟩, ?_⟩
  rw [e5]
  refine bothH_q ha hb (by decide) (by decide) (by decide) _ ?_
  unfold hoursD
  rcases hd with ⟨e, rfl⟩ | ⟨ms, T, rfl⟩
  · rw [if_pos e]
    walk_at "q"
    exact k
  · have le := T.le
    rw [if_neg (by omega)]
    walk_at "q"
    obtain ⟨r, er⟩ := T.head
    have hB : bE a b 0 ∈ ms := by rw [er]; simp
    obtain ⟨_, _, bb0, bb1⟩ := T.bd _ hB
    have hE : eE a b 100000 ∈ ms := (T.mem _).mpr (by unfold mkH; simp)
    cases e : partF (alikeB a b) (bE a b 0) ms with
    | none =>
      have all : ∀ z ∈ ms, alikeB a b z = true := fun z hz => by
        have := List.filter_eq_nil_iff.mp (part_none e) z hz
        simpa using this
      unfold optD
      walk_at "q"
      refine ⟨⟨z, by decide, by decide⟩, ?_⟩
      refine nearest_res ha hb (by decide) (by decide) (by decide) _ fun d R => ?_
      have R0 := res_zero le bb0 bb1 fun t h1 h2 => alike_zero (alike_marks ha hb T hE (fun z hz _ => all z hz) h1 h2)
      walk_at "q"
      exact eq_told (R0.uniq R rfl rfl fun _ _ _ => rfl) ⟨_, _, _, _, rfl⟩ k
    | some x =>
      obtain ⟨pre, h, post, rfl, e1, e2, e3⟩ := part_some e
      unfold optD
      walk_at "q"
      by_cases c : bE a b 0 < x
      · have hxp : x ∈ pre := by
          cases pre with
          | nil =>
            have : x = bE a b 0 := e3
            omega
          | cons p ps =>
            rw [e3, List.getLast?_eq_some_getLast (by simp)]
            exact List.getLast_mem _
        have hx : x ∈ pre ++ h :: post := List.mem_append_left _ hxp
        have up := List.pairwise_append.mp T.up
        have al : ∀ z ∈ pre ++ h :: post, z ≤ x → alikeB a b z = true := fun z hz zx => by
          rcases List.mem_append.mp hz with hz | hz
          · exact e2 z hz
          · exfalso
            have h1 := up.2.2 x hxp h (by simp)
            rcases List.mem_cons.mp hz with rfl | hz
            · omega
            · have := (List.pairwise_cons.mp up.2.1).1 z hz
              omega
        obtain ⟨i1, i2⟩ := mk_in T.le ((T.mem _).mp hx)
        obtain ⟨_, _, x0, x1⟩ := T.bd _ hx
        have eb : bE a b (bE a b 0) = bE a b 0 := by unfold bE max3; omega
        have ee : eE a b x = x := by unfold eE min3 at i2 ⊢; omega
        have R0 : Res a b (bE a b 0) x (.tuple [.tuple [.int 0, .int 1], .tuple [.int (bE a b 0), .int 1]]) := by
          have := res_zero (a := a) (b := b) (lo := bE a b 0) (hi := x) (by omega) (by omega) (by omega) fun t h1 h2 => by
            rw [eb] at h1
            rw [ee] at h2
            exact alike_zero (alike_marks ha hb T hx al h1 h2)
          rw [eb] at this
          exact this
        rw [decide_eq_true c]
        walk_at "q"
        refine nearest_res ha hb bb0 (by omega) x1 _ fun d R => ?_
        walk_at "q"
        refine ne_told (R0.uniq R rfl rfl fun _ _ _ => rfl) ⟨_, _, _, _, rfl⟩ ?_
        walk_at "q"
        rw [decide_eq_false (show ¬ x = bE a b 0 by omega)]
        walk_at "q"
        refine arenearR_q ha hb bb0 (by omega) x1 (by decide) (by decide) _ fun t ht => ?_
        have nr : NearR a b (bE a b 0) x 0 := by
          refine ⟨by omega, (bE a b 0 : Rat), by rw [eb]; exact Rat.le_refl, by rw [ee]; exact rle.mpr i1, ?_⟩
          rw [alike_zero (alike_marks ha hb T hx al Rat.le_refl (rle.mpr i1))]
          have c0 : ((0 : Int) : Rat) = 0 := rfl
          rw [c0]
          grind
        rw [ht.mpr nr]
        walk_at "q"
        exact k
      · have hx0 : x = bE a b 0 := by
          cases pre with
          | nil => exact e3
          | cons p ps =>
            have hxp : x ∈ p :: ps := by
              rw [e3, List.getLast?_eq_some_getLast (by simp)]
              exact List.getLast_mem _
            have := (mk_in T.le ((T.mem x).mp (List.mem_append_left _ hxp))).1
            omega
        subst hx0
        rw [decide_eq_false c]
        walk_at "q"
        exact k
theorem near_wider {a b : List Rw} {lo m hi M : Int} (h : m ≤ hi) (n : NearR a b lo m M) : NearR a b lo hi M := by
  obtain ⟨e, t, h1, h2, h3⟩ := n
  have le : eE a b m ≤ eE a b hi := by unfold eE min3; omega
  have := rle.mpr le
  exact ⟨by omega, t, h1, by grind, h3⟩
theorem ne_hours {a b : List Rw} {lo hi : Int} {K : PyData → Prop} (k : K (.bool false)) : oNe (hoursD a b lo hi) (hoursD a b lo hi) K := by
  unfold hoursD
  split
  · exact ne_same rfl rfl (by simp [PyData.eqv]) k
  · exact ne_same rfl rfl (by simp [PyData.eqv, PyData.eqvAll]) k
theorem the_law (ns : List Int) (hn : ns.length ≤ 63) (K : PyData → Prop) (hK : K (.bool true)) : q_law (.list (ns.map .int)) K := by
  unfold q_law
  refine law_pot_of_q ns _ fun xs hp => ?_
  walk_at "q"
  have many : ∀ i : Int, i ≤ 100 → -1000000 ≤ (if (if i < 10 then i else 10) > 1 then (if i < 10 then i else 10) else 1) ∧ (if (if i < 10 then i else 10) > 1 then (if i < 10 then i else 10) else 1) ≤ 10 := fun i _ => by
    split <;> split <;> omega
  obtain ⟨m0, m1⟩ := many ns.length (by omega)
  refine ⟨⟨m0, by omega⟩, ?_⟩
  refine qFor_range (fun k s => DrawOk (260 * k) s) (by simpa using hp) (fun k s nx hk hp hnx => ?_) fun _ _ => hK
  have hk : k < 10 := by omega
  unfold qb_law_1
  refine law_log_q hp (by omega) (by decide) (by decide) _ fun r0 xs hr0 hp => ?_
  refine law_twin_q hp (by omega) hr0 _ fun r1 xs hr1 hp => ?_
  refine law_chase_q hp (by omega) hr0 hr1 _ fun l g xs l0 lg g1 hp => ?_
  walk_at "q"
  refine law_draw_q hp (by omega) (by omega) (by omega) _ fun w xs w0 w1 hp => ?_
  walk_at "q"
  have a0 : l ≤ l + w := by omega
  have a1 : l + w ≤ g := by omega
  refine nearest_resN hr0 hr1 l0 lg g1 _ fun d R N => ?_
  refine nearest_resN hr0 hr1 l0 a0 (by omega) _ fun d1 R1 N1 => ?_
  refine nearest_resN hr0 hr1 (by omega) a1 g1 _ fun d2' R2 N2 => ?_
  refine first2_q a0 a1 R R1 R2 N1 N2 _ ?_
  refine res_ne R rfl ?_
  walk_at "q"
  refine none_nearer_q hp (by omega) hr0 hr1 l0 lg g1 R N _ fun xs hp => ?_
  walk_at "q"
  refine bothH_q hr0 hr1 l0 a0 (by omega) _ ?_
  refine bothH_q hr0 hr1 (by omega) a1 g1 _ ?_
  refine together_q a0 a1 _ ?_
  refine bothH_q hr0 hr1 l0 lg g1 _ ?_
  refine ne_hours ?_
  walk_at "q"
  refine parting_q hr0 hr1 _ ?_
  walk_at "q"
  refine law_draw_q hp (by omega) (by decide) (by decide) _ fun m xs m0 m1 hp => ?_
  have fin := hnx xs (hp.mono (by omega))
  refine arenearR_q hr0 hr1 l0 a0 (by omega) m0 (by omega) _ fun t ht => ?_
  walk_at "q"
  cases t with
  | false =>
    walk_at "q"
    exact fin
  | true =>
    walk_at "q"
    refine arenearR_q hr0 hr1 l0 lg g1 m0 (by omega) _ fun u hu => ?_
    rw [hu.mpr (near_wider a1 (ht.mp rfl))]
    walk_at "q"
    exact fin
abbrev prg : Program := PySem.Challenge.pw_prizelog_k17_whole_chases_parted
def top (i : Nat) : Stmt := prg.main.body.getD i (.Pass ⟨0, 0, 0, 0⟩)
def fa : List He.Fa := [.free "isinstance", .free "int", .free "bool", .free "abs", .free "tuple", .free "len", .free "all", .free "zip", .free "max", .free "min", .free "sorted", .free "set", .free "list", .free "str", .free "range", .free "enumerate", .int "MOST_ROWS" 20, .int "LAST_HOUR" 100000, .int "FARTHEST" 10000, .int "MOST_MILES" 100000, .glo "is_whole", .glo "divisor_of", .glo "lowest", .glo "is_hour", .glo "is_log_row", .glo "is_log", .glo "need_log", .glo "need_chase", .glo "place_between", .glo "place_of", .glo "place_at", .glo "hours_of_both", .glo "both_tell", .glo "marks_between", .glo "alike_at", .glo "part_at", .glo "whole_place", .glo "apart_at", .glo "least_between", .glo "nearest_of", .glo "need_both", .glo "nearest", .glo "are_near_by", .glo "are_near", .glo "_law_pot_of", .glo "_law_mixed", .glo "_law_draw", .glo "_law_wide", .glo "_law_common", .glo "_law_terms", .glo "_law_log", .glo "_law_plain", .glo "_law_is_log", .glo "_law_spot", .glo "_law_twin", .glo "_law_more_rows", .glo "_law_chase", .glo "_law_less", .glo "_law_first", .glo "_law_together", .glo "_law_gap", .glo "_law_apart", .glo "_law_none_nearer", .glo "_law_parting_right", .glo "law", .keep "is_whole", .keep "divisor_of", .keep "lowest", .keep "is_hour", .keep "is_log_row", .keep "is_log", .keep "need_log", .keep "need_chase", .keep "place_between", .keep "place_of", .keep "place_at", .keep "hours_of_both", .keep "both_tell", .keep "marks_between", .keep "alike_at", .keep "part_at", .keep "whole_place", .keep "apart_at", .keep "least_between", .keep "nearest_of", .keep "need_both", .keep "nearest", .keep "are_near_by", .keep "are_near", .keep "_law_pot_of", .keep "_law_mixed", .keep "_law_draw", .keep "_law_wide", .keep "_law_common", .keep "_law_terms", .keep "_law_log", .keep "_law_plain", .keep "_law_is_log", .keep "_law_spot", .keep "_law_twin", .keep "_law_more_rows", .keep "_law_chase", .keep "_law_less", .keep "_law_first", .keep "_law_together", .keep "_law_gap", .keep "_law_apart", .keep "_law_none_nearer", .keep "_law_parting_right", .keep "law"]
def dD (x : Str) (i : Nat) : He.FnD := ⟨(x, none), x, x, defArgs (top i), defBody (top i), defScope (top i)⟩
def fn : List He.FnD := [dD "is_whole" 1, dD "divisor_of" 2, dD "lowest" 3, dD "is_hour" 13, dD "is_log_row" 14, dD "is_log" 15, dD "need_log" 16, dD "need_chase" 17, dD "place_between" 18, dD "place_of" 19, dD "place_at" 20, dD "hours_of_both" 21, dD "both_tell" 22, dD "marks_between" 23, dD "alike_at" 24, dD "part_at" 25, dD "whole_place" 28, dD "apart_at" 29, dD "least_between" 30, dD "nearest_of" 31, dD "need_both" 32, dD "nearest" 33, dD "are_near_by" 34, dD "are_near" 35, dD "_law_pot_of" 37, dD "_law_mixed" 38, dD "_law_draw" 39, dD "_law_wide" 40, dD "_law_common" 41, dD "_law_terms" 42, dD "_law_log" 43, dD "_law_plain" 44, dD "_law_is_log" 45, dD "_law_spot" 46, dD "_law_twin" 47, dD "_law_more_rows" 48, dD "_law_chase" 49, dD "_law_less" 50, dD "_law_first" 51, dD "_law_together" 52, dD "_law_gap" 53, dD "_law_apart" 54, dD "_law_none_nearer" 55, dD "_law_parting_right" 56, dD "law" 57]
def fx : List Fx := []
abbrev Tp (K : PySem.W.Frag) (mg : Str → Option Value) : Prop := TopX fa fn fx K mg
section
variable {K : PySem.W.Frag} {mg : Str → Option Value}
theorem m_isinstance (T : Tp K mg) : mg "isinstance" = none := T.free "isinstance" 0
theorem m_int (T : Tp K mg) : mg "int" = none := T.free "int" 1
theorem m_bool (T : Tp K mg) : mg "bool" = none := T.free "bool" 2
theorem m_abs (T : Tp K mg) : mg "abs" = none := T.free "abs" 3
theorem m_tuple (T : Tp K mg) : mg "tuple" = none := T.free "tuple" 4
theorem m_len (T : Tp K mg) : mg "len" = none := T.free "len" 5
theorem m_all (T : Tp K mg) : mg "all" = none := T.free "all" 6
theorem m_zip (T : Tp K mg) : mg "zip" = none := T.free "zip" 7
theorem m_max (T : Tp K mg) : mg "max" = none := T.free "max" 8
theorem m_min (T : Tp K mg) : mg "min" = none := T.free "min" 9
theorem m_sorted (T : Tp K mg) : mg "sorted" = none := T.free "sorted" 10
theorem m_set (T : Tp K mg) : mg "set" = none := T.free "set" 11
theorem m_list (T : Tp K mg) : mg "list" = none := T.free "list" 12
theorem m_str (T : Tp K mg) : mg "str" = none := T.free "str" 13
theorem m_range (T : Tp K mg) : mg "range" = none := T.free "range" 14
theorem m_enumerate (T : Tp K mg) : mg "enumerate" = none := T.free "enumerate" 15
theorem c_MOST_ROWS (T : Tp K mg) : ∃ t, mg "MOST_ROWS" = some (.int 20 t) := T.int "MOST_ROWS" 20 16
theorem c_LAST_HOUR (T : Tp K mg) : ∃ t, mg "LAST_HOUR" = some (.int 100000 t) := T.int "LAST_HOUR" 100000 17
theorem c_FARTHEST (T : Tp K mg) : ∃ t, mg "FARTHEST" = some (.int 10000 t) := T.int "FARTHEST" 10000 18
theorem c_MOST_MILES (T : Tp K mg) : ∃ t, mg "MOST_MILES" = some (.int 100000 t) := T.int "MOST_MILES" 100000 19
end
section
variable {P : Program} {w : World} {K : PySem.W.Frag} {mg : Str → Option Value} {base : Heap} [SysB base]
def kk_is_whole : RT → (PyData → Prop) := fun R v => R (.dat v) []
def S_is_whole : DSp := fun as Q => match as with
  | [.dat x0] => q_is_whole x0 (kk_is_whole Q)
  | _ => False
theorem len_is_whole (as : List SD) (Q : SD → List SD → Prop) (h : S_is_whole as Q) : as.length = 1 := by
  unfold S_is_whole at h
  split at h
  · rfl
  · exact h.elim
theorem cels_is_whole : CelsIn 0 S_is_whole := by
  intro as Q h i p xs e
  unfold S_is_whole at h
  split at h
  · exact absurd e (no_cel (ds := [_]) i p xs)
  · exact h.elim
def N_is_whole : List Str := ["thing"]
theorem sc_is_whole : FnScope N_is_whole ["thing"] (defScope (top 1)) := ⟨rfl, rfl, rfl, by decide +kernel, rfl, by decide +kernel, by decide +kernel⟩
theorem fg_is_whole (T : Tp K mg)  {fd : FuncData} (Fn : Fun K "is_whole" "is_whole" (top 1) (He.ga K "is_whole") fd) : FnG P w K mg base 1 (He.ga K "is_whole") fd ["thing"] S_is_whole := by
  refine dfn 0 Fn sc_is_whole len_is_whole cels_is_whole fun cdv A outer s H hr hA => ⟨_, (sone (sret (m := 0) (dx (dandV (disi "int" "int" (m_isinstance T) (m_int T) (by decide +kernel) (by decide +kernel) (dv 0)) (done (dnotV (disi "bool" "bool" (m_isinstance T) (m_bool T) (by decide +kernel) (by decide +kernel) (dv 0)))))))), fun as Q h => ?_⟩
  unfold S_is_whole at h
  split at h
  · unfold q_is_whole at h
    rename_i x0
    refine at_env (b := [.dat x0]) rfl ?_
    exact Eq.mp (by kernel_rfl) h
  · exact h.elim
theorem ok_is_whole (T : Tp K mg)  : Dn P w K mg base "is_whole" 1 ["thing"] S_is_whole := by
  obtain ⟨kV, doc, pm, an, cdv, ct, Fn⟩ := T.fun_ "is_whole" (top 1) 0 65
  exact ⟨⟨_, fg_is_whole T  Fn, Fn.binds (ps := ["thing"]) fun _ _ _ _ _ _ us hl => match us, hl with | [_], _ => rfl⟩, T.glo "is_whole" 20, T.keep "is_whole" 65⟩
def kk_divisor_of : RT → (PyData → Prop) := fun R v => R (.dat v) []
def em_divisor_of_1 (i : Unit) (s : PyData × PyData) : List SD := [.dat s.1, .dat s.2]
def de_divisor_of_1 : List SD → Option ((Unit) × (PyData × PyData))
  | [.dat x0, .dat x1] => some ((), (x0, x1))
  | _ => none
theorem hde_divisor_of_1 : ∀ env i s, de_divisor_of_1 env = some (i, s) → env = em_divisor_of_1 i s := by
  intro env i s h
  unfold de_divisor_of_1 at h
  split at h
  · cases h; rfl
  · cases h
def S_divisor_of : DSp := fun as Q => match as with
  | [.dat x0, .dat x1] => q_divisor_of x0 x1 (kk_divisor_of Q)
  | _ => False
theorem len_divisor_of (as : List SD) (Q : SD → List SD → Prop) (h : S_divisor_of as Q) : as.length = 2 := by
  unfold S_divisor_of at h
  split at h
  · rfl
  · exact h.elim
theorem cels_divisor_of : CelsIn 0 S_divisor_of := by
  intro as Q h i p xs e
  unfold S_divisor_of at h
  split at h
  · exact absurd e (no_cel (ds := [_, _]) i p xs)
  · exact h.elim
def N_divisor_of : List Str := ["one", "other"]
theorem sc_divisor_of : FnScope N_divisor_of ["one", "other"] (defScope (top 2)) := ⟨rfl, rfl, rfl, by decide +kernel, rfl, by decide +kernel, by decide +kernel⟩
theorem fg_divisor_of (T : Tp K mg)  {fd : FuncData} (Fn : Fun K "divisor_of" "divisor_of" (top 2) (He.ga K "divisor_of") fd) : FnG P w K mg base 1 (He.ga K "divisor_of") fd ["one", "other"] S_divisor_of := by
  refine dfn 0 Fn sc_divisor_of len_divisor_of cels_divisor_of fun cdv A outer s H hr hA => ⟨_, (scons (spar 0 1 rfl sc_divisor_of.nd (acons (dabs (m_abs T) (acons (dv 0) anil)) (acons (dabs (m_abs T) (acons (dv 1) anil)) anil))) (scons (swhileQ [] de_divisor_of_1 em_divisor_of_1 kk_divisor_of qb_divisor_of_1 hde_divisor_of_1 PassesOwn.never (dcmpT op_gt opr_gt (dv 1) di (nomark _)) (sone (spar 0 1 rfl sc_divisor_of.nd (acons (dv 1) (acons (dmod (dv 0) (dv 1)) anil)))) (fun R i s nx bk h => Eq.mp (by kernel_rfl) h)) (sone (sret (m := 0) (dx (dv 0)))))), fun as Q h => ?_⟩
  unfold S_divisor_of at h
  split at h
  · unfold q_divisor_of at h
    rename_i x0 x1
    refine at_env (b := [.dat x0, .dat x1]) rfl ?_
    exact Eq.mp (by kernel_rfl) h
  · exact h.elim
theorem ok_divisor_of (T : Tp K mg)  : Dn P w K mg base "divisor_of" 1 ["one", "other"] S_divisor_of := by
  obtain ⟨kV, doc, pm, an, cdv, ct, Fn⟩ := T.fun_ "divisor_of" (top 2) 1 66
  exact ⟨⟨_, fg_divisor_of T  Fn, Fn.binds (ps := ["one", "other"]) fun _ _ _ _ _ _ us hl => match us, hl with | [_, _], _ => rfl⟩, T.glo "divisor_of" 21, T.keep "divisor_of" 66⟩
def kk_lowest : RT → (PyData → Prop) := fun R v => R (.dat v) []
def S_lowest : DSp := fun as Q => match as with
  | [.dat x0, .dat x1] => q_lowest x0 x1 (kk_lowest Q)
  | _ => False
theorem len_lowest (as : List SD) (Q : SD → List SD → Prop) (h : S_lowest as Q) : as.length = 2 := by
  unfold S_lowest at h
  split at h
  · rfl
  · exact h.elim
theorem cels_lowest : CelsIn 0 S_lowest := by
  intro as Q h i p xs e
  unfold S_lowest at h
  split at h
  · exact absurd e (no_cel (ds := [_, _]) i p xs)
  · exact h.elim
def N_lowest : List Str := ["p", "q", "by"]
theorem sc_lowest : FnScope N_lowest ["p", "q"] (defScope (top 3)) := ⟨rfl, rfl, rfl, by decide +kernel, rfl, by decide +kernel, by decide +kernel⟩
theorem fg_lowest (T : Tp K mg) (D_divisor_of : Dn P w K mg base "divisor_of" 1 ["one", "other"] S_divisor_of) {fd : FuncData} (Fn : Fun K "lowest" "lowest" (top 3) (He.ga K "lowest") fd) : FnG P w K mg base 2 (He.ga K "lowest") fd ["p", "q"] S_lowest := by
  refine dfn 0 Fn sc_lowest len_lowest cels_lowest fun cdv A outer s H hr hA => ⟨_, (scons (sset 2 sc_lowest.nd (dcn D_divisor_of (hr.mono (by decide)) hA (acons (dv 0) (acons (dv 1) anil)))) (scons (sif (dcmpT op_lt opr_lt (dv 1) di (nomark _)) (sone (sset 2 sc_lowest.nd (dx (dsub di (dv 2))))) snil) (sone (sret (m := 0) (dx (dtup (acons (dfd (dv 0) (dv 2)) (acons (dfd (dv 1) (dv 2)) anil)))))))), fun as Q h => ?_⟩
  unfold S_lowest at h
  split at h
  · unfold q_lowest at h
    rename_i x0 x1
    refine at_env (b := [.dat x0, .dat x1, .un]) rfl ?_
    exact Eq.mp (by kernel_rfl) h
  · exact h.elim
theorem ok_lowest (T : Tp K mg) (D_divisor_of : Dn P w K mg base "divisor_of" 1 ["one", "other"] S_divisor_of) : Dn P w K mg base "lowest" 2 ["p", "q"] S_lowest := by
  obtain ⟨kV, doc, pm, an, cdv, ct, Fn⟩ := T.fun_ "lowest" (top 3) 2 67
  exact ⟨⟨_, fg_lowest T D_divisor_of Fn, Fn.binds (ps := ["p", "q"]) fun _ _ _ _ _ _ us hl => match us, hl with | [_, _], _ => rfl⟩, T.glo "lowest" 22, T.keep "lowest" 67⟩
def kk_is_hour : RT → (PyData → Prop) := fun R v => R (.dat v) []
def S_is_hour : DSp := fun as Q => match as with
  | [.dat x0] => q_is_hour x0 (kk_is_hour Q)
  | _ => False
theorem len_is_hour (as : List SD) (Q : SD → List SD → Prop) (h : S_is_hour as Q) : as.length = 1 := by
  unfold S_is_hour at h
  split at h
  · rfl
  · exact h.elim
theorem cels_is_hour : CelsIn 0 S_is_hour := by
  intro as Q h i p xs e
  unfold S_is_hour at h
  split at h
  · exact absurd e (no_cel (ds := [_]) i p xs)
  · exact h.elim
def N_is_hour : List Str := ["thing"]
theorem sc_is_hour : FnScope N_is_hour ["thing"] (defScope (top 13)) := ⟨rfl, rfl, rfl, by decide +kernel, rfl, by decide +kernel, by decide +kernel⟩
theorem fg_is_hour (T : Tp K mg) (D_is_whole : Dn P w K mg base "is_whole" 1 ["thing"] S_is_whole) {fd : FuncData} (Fn : Fun K "is_hour" "is_hour" (top 13) (He.ga K "is_hour") fd) : FnG P w K mg base 2 (He.ga K "is_hour") fd ["thing"] S_is_hour := by
  refine dfn 0 Fn sc_is_hour len_is_hour cels_is_hour fun cdv A outer s H hr hA => ⟨_, (sone (sret (m := 0) (dx (dandV (dfrz (dcn D_is_whole (hr.mono (by decide)) hA (acons (dv 0) anil))) (done (dchain op_le op_le opr_le opr_le di (dv 0) (dnum (c_LAST_HOUR T)))))))), fun as Q h => ?_⟩
  unfold S_is_hour at h
  split at h
  · unfold q_is_hour at h
    rename_i x0
    refine at_env (b := [.dat x0]) rfl ?_
    exact Eq.mp (by kernel_rfl) h
  · exact h.elim
theorem ok_is_hour (T : Tp K mg) (D_is_whole : Dn P w K mg base "is_whole" 1 ["thing"] S_is_whole) : Dn P w K mg base "is_hour" 2 ["thing"] S_is_hour := by
  obtain ⟨kV, doc, pm, an, cdv, ct, Fn⟩ := T.fun_ "is_hour" (top 13) 3 68
  exact ⟨⟨_, fg_is_hour T D_is_whole Fn, Fn.binds (ps := ["thing"]) fun _ _ _ _ _ _ us hl => match us, hl with | [_], _ => rfl⟩, T.glo "is_hour" 23, T.keep "is_hour" 68⟩
def kk_is_log_row : RT → (PyData → Prop) := fun R v => R (.dat v) []
def em_is_log_row_1 (i : PyData) (s : Unit) : List SD := [.dat i, .un]
def de_is_log_row_1 : List SD → Option ((PyData) × (Unit))
  | [.dat x0, .un] => some (x0, ())
  | _ => none
theorem hde_is_log_row_1 : ∀ env i s, de_is_log_row_1 env = some (i, s) → env = em_is_log_row_1 i s := by
  intro env i s h
  unfold de_is_log_row_1 at h
  split at h
  · cases h; rfl
  · cases h
def S_is_log_row : DSp := fun as Q => match as with
  | [.dat x0] => q_is_log_row x0 (kk_is_log_row Q)
  | _ => False
theorem len_is_log_row (as : List SD) (Q : SD → List SD → Prop) (h : S_is_log_row as Q) : as.length = 1 := by
  unfold S_is_log_row at h
  split at h
  · rfl
  · exact h.elim
theorem cels_is_log_row : CelsIn 0 S_is_log_row := by
  intro as Q h i p xs e
  unfold S_is_log_row at h
  split at h
  · exact absurd e (no_cel (ds := [_]) i p xs)
  · exact h.elim
def N_is_log_row : List Str := ["thing", "number"]
theorem sc_is_log_row : FnScope N_is_log_row ["thing"] (defScope (top 14)) := ⟨rfl, rfl, rfl, by decide +kernel, rfl, by decide +kernel, by decide +kernel⟩
theorem fg_is_log_row (T : Tp K mg) (D_is_hour : Dn P w K mg base "is_hour" 2 ["thing"] S_is_hour) (D_is_whole : Dn P w K mg base "is_whole" 1 ["thing"] S_is_whole) {fd : FuncData} (Fn : Fun K "is_log_row" "is_log_row" (top 14) (He.ga K "is_log_row") fd) : FnG P w K mg base 3 (He.ga K "is_log_row") fd ["thing"] S_is_log_row := by
  refine dfn 0 Fn sc_is_log_row len_is_log_row cels_is_log_row fun cdv A outer s H hr hA => ⟨_, (scons (sif (tor (tnot (dtest (disi "tuple" "tuple" (m_isinstance T) (m_tuple T) (by decide +kernel) (by decide +kernel) (dv 0)))) (tor (dcmpT (op_neE hr.units) opd_ne (dlen (m_len T) (acons (dv 0) anil)) di (nomark _)) (tor1 (tnot (dtest (dfrz (dcn D_is_hour (hr.mono (by decide)) hA (acons (dixP (dv 0) di) anil)))))))).pt (sone (sret (m := 0) (dx db))) snil) (sone (sret (m := 0) (dx (dall (m_all T) rfl (acons (dfrz (dlc (dec := de_is_log_row_1) (emb := em_is_log_row_1) (qb := qb_is_log_row_1) [("number", 1)] (.one 1) hde_is_log_row_1 rfl sc_is_log_row.nd (iseq (dsl (dv 0) (so_some di) so_none)) (blkOk_by (own := [("number", 1)]) (N := N_is_log_row) (sc := defScope (top 14)) (by decide +kernel)) (fun _ _ _ _ _ => pg_name (i := 1) sc_is_log_row.nd rfl (Or.inl rfl)) (fun _ _ _ _ _ => tyes) (fun _ _ _ _ _ => (dandV (dfrz (dcn D_is_whole (hr.mono (by decide)) hA (acons (dv 1) anil))) (done (dcmp op_le opr_le (dabs (m_abs T) (acons (dv 1) anil)) (dnum (c_FARTHEST T)) (nomark _))))) (fun d i s sk yd h => Eq.mp (by kernel_rfl) h))) anil)))))), fun as Q h => ?_⟩
  unfold S_is_log_row at h
  split at h
  · unfold q_is_log_row at h
    rename_i x0
    refine at_env (b := [.dat x0, .un]) rfl ?_
    exact Eq.mp (by kernel_rfl) h
  · exact h.elim
theorem ok_is_log_row (T : Tp K mg) (D_is_hour : Dn P w K mg base "is_hour" 2 ["thing"] S_is_hour) (D_is_whole : Dn P w K mg base "is_whole" 1 ["thing"] S_is_whole) : Dn P w K mg base "is_log_row" 3 ["thing"] S_is_log_row := by
  obtain ⟨kV, doc, pm, an, cdv, ct, Fn⟩ := T.fun_ "is_log_row" (top 14) 4 69
  exact ⟨⟨_, fg_is_log_row T D_is_hour D_is_whole Fn, Fn.binds (ps := ["thing"]) fun _ _ _ _ _ _ us hl => match us, hl with | [_], _ => rfl⟩, T.glo "is_log_row" 24, T.keep "is_log_row" 69⟩
def kk_is_log : RT → (PyData → Prop) := fun R v => R (.dat v) []
def em_is_log_1 (i : PyData) (s : Unit) : List SD := [.dat i, .un, .un, .un]
def de_is_log_1 : List SD → Option ((PyData) × (Unit))
  | [.dat x0, .un, .un, .un] => some (x0, ())
  | _ => none
theorem hde_is_log_1 : ∀ env i s, de_is_log_1 env = some (i, s) → env = em_is_log_1 i s := by
  intro env i s h
  unfold de_is_log_1 at h
  split at h
  · cases h; rfl
  · cases h
def em_is_log_2 (i : PyData) (s : Unit) : List SD := [.dat i, .un, .un, .un]
def de_is_log_2 : List SD → Option ((PyData) × (Unit))
  | [.dat x0, .un, .un, .un] => some (x0, ())
  | _ => none
theorem hde_is_log_2 : ∀ env i s, de_is_log_2 env = some (i, s) → env = em_is_log_2 i s := by
  intro env i s h
  unfold de_is_log_2 at h
  split at h
  · cases h; rfl
  · cases h
def S_is_log : DSp := fun as Q => match as with
  | [.dat x0] => q_is_log x0 (kk_is_log Q)
  | _ => False
theorem len_is_log (as : List SD) (Q : SD → List SD → Prop) (h : S_is_log as Q) : as.length = 1 := by
  unfold S_is_log at h
  split at h
  · rfl
  · exact h.elim
theorem cels_is_log : CelsIn 0 S_is_log := by
  intro as Q h i p xs e
  unfold S_is_log at h
  split at h
  · exact absurd e (no_cel (ds := [_]) i p xs)
  · exact h.elim
def N_is_log : List Str := ["thing", "row", "one", "other"]
theorem sc_is_log : FnScope N_is_log ["thing"] (defScope (top 15)) := ⟨rfl, rfl, rfl, by decide +kernel, rfl, by decide +kernel, by decide +kernel⟩
theorem fg_is_log (T : Tp K mg) (D_is_log_row : Dn P w K mg base "is_log_row" 3 ["thing"] S_is_log_row) {fd : FuncData} (Fn : Fun K "is_log" "is_log" (top 15) (He.ga K "is_log") fd) : FnG P w K mg base 4 (He.ga K "is_log") fd ["thing"] S_is_log := by
  refine dfn 0 Fn sc_is_log len_is_log cels_is_log fun cdv A outer s H hr hA => ⟨_, (scons (sif (tor (tnot (dtest (disi "tuple" "tuple" (m_isinstance T) (m_tuple T) (by decide +kernel) (by decide +kernel) (dv 0)))) (tor (tnot (dchainT op_le op_le opr_le opr_le di (dlen (m_len T) (acons (dv 0) anil)) (dnum (c_MOST_ROWS T)))) (tor1 (tnot (dtest (dall (m_all T) rfl (acons (dfrz (dlc (dec := de_is_log_1) (emb := em_is_log_1) (qb := qb_is_log_1) [("row", 1)] (.one 1) hde_is_log_1 rfl sc_is_log.nd (iseq (dv 0)) (blkOk_by (own := [("row", 1)]) (N := N_is_log) (sc := defScope (top 15)) (by decide +kernel)) (fun _ _ _ _ _ => pg_name (i := 1) sc_is_log.nd rfl (Or.inl rfl)) (fun _ _ _ _ _ => tyes) (fun _ _ _ _ _ => (dfrz (dcn D_is_log_row (hr.mono (by decide)) hA (acons (dv 1) anil)))) (fun d i s sk yd h => Eq.mp (by kernel_rfl) h))) anil))))))).pt (sone (sret (m := 0) (dx db))) snil) (sone (sret (m := 0) (dx (dall (m_all T) rfl (acons (dfrz (dlc (dec := de_is_log_2) (emb := em_is_log_2) (qb := qb_is_log_2) [("one", 2), ("other", 3)] (.tup [2, 3]) hde_is_log_2 rfl sc_is_log.nd (izip (m_zip T) (acons (dv 0) (acons (dsl (dv 0) (so_some di) so_none) anil))) (blkOk_by (own := [("one", 2), ("other", 3)]) (N := N_is_log) (sc := defScope (top 15)) (by decide +kernel)) (fun _ _ _ _ _ => pg_tup rfl (pgs_cons (pg_name (i := 2) sc_is_log.nd rfl (Or.inl rfl)) (pgs_cons (pg_name (i := 3) sc_is_log.nd rfl (Or.inl rfl)) pgs_nil))) (fun _ _ _ _ _ => tyes) (fun _ _ _ _ _ => (dcmp op_lt opr_lt (dixP (dv 2) di) (dixP (dv 3) di) (nomark _))) (fun d i s sk yd h => Eq.mp (by kernel_rfl) h))) anil)))))), fun as Q h => ?_⟩
  unfold S_is_log at h
  split at h
  · unfold q_is_log at h
    rename_i x0
    refine at_env (b := [.dat x0, .un, .un, .un]) rfl ?_
    exact Eq.mp (by kernel_rfl) h
  · exact h.elim
theorem ok_is_log (T : Tp K mg) (D_is_log_row : Dn P w K mg base "is_log_row" 3 ["thing"] S_is_log_row) : Dn P w K mg base "is_log" 4 ["thing"] S_is_log := by
  obtain ⟨kV, doc, pm, an, cdv, ct, Fn⟩ := T.fun_ "is_log" (top 15) 5 70
  exact ⟨⟨_, fg_is_log T D_is_log_row Fn, Fn.binds (ps := ["thing"]) fun _ _ _ _ _ _ us hl => match us, hl with | [_], _ => rfl⟩, T.glo "is_log" 25, T.keep "is_log" 70⟩
def kk_need_log : RT → (PyData → Prop) := fun R v => R (.dat v) []
def S_need_log : DSp := fun as Q => match as with
  | [.dat x0] => q_need_log x0 (kk_need_log Q)
  | _ => False
theorem len_need_log (as : List SD) (Q : SD → List SD → Prop) (h : S_need_log as Q) : as.length = 1 := by
  unfold S_need_log at h
  split at h
  · rfl
  · exact h.elim
theorem cels_need_log : CelsIn 0 S_need_log := by
  intro as Q h i p xs e
  unfold S_need_log at h
  split at h
  · exact absurd e (no_cel (ds := [_]) i p xs)
  · exact h.elim
def N_need_log : List Str := ["thing"]
theorem sc_need_log : FnScope N_need_log ["thing"] (defScope (top 16)) := ⟨rfl, rfl, rfl, by decide +kernel, rfl, by decide +kernel, by decide +kernel⟩
theorem fg_need_log (T : Tp K mg) (D_is_log : Dn P w K mg base "is_log" 4 ["thing"] S_is_log) {fd : FuncData} (Fn : Fun K "need_log" "need_log" (top 16) (He.ga K "need_log") fd) : FnG P w K mg base 5 (He.ga K "need_log") fd ["thing"] S_need_log := by
  refine dfn 0 Fn sc_need_log len_need_log cels_need_log fun cdv A outer s H hr hA => ⟨_, (sone (sif (tnot (dtest (dfrz (dcn D_is_log (hr.mono (by decide)) hA (acons (dv 0) anil))))) (sone snever) snil)), fun as Q h => ?_⟩
  unfold S_need_log at h
  split at h
  · unfold q_need_log at h
    rename_i x0
    refine at_env (b := [.dat x0]) rfl ?_
    exact Eq.mp (by kernel_rfl) h
  · exact h.elim
theorem ok_need_log (T : Tp K mg) (D_is_log : Dn P w K mg base "is_log" 4 ["thing"] S_is_log) : Dn P w K mg base "need_log" 5 ["thing"] S_need_log := by
  obtain ⟨kV, doc, pm, an, cdv, ct, Fn⟩ := T.fun_ "need_log" (top 16) 6 71
  exact ⟨⟨_, fg_need_log T D_is_log Fn, Fn.binds (ps := ["thing"]) fun _ _ _ _ _ _ us hl => match us, hl with | [_], _ => rfl⟩, T.glo "need_log" 26, T.keep "need_log" 71⟩
def kk_need_chase : RT → (PyData → Prop) := fun R v => R (.dat v) []
def S_need_chase : DSp := fun as Q => match as with
  | [.dat x0, .dat x1] => q_need_chase x0 x1 (kk_need_chase Q)
  | _ => False
theorem len_need_chase (as : List SD) (Q : SD → List SD → Prop) (h : S_need_chase as Q) : as.length = 2 := by
  unfold S_need_chase at h
  split at h
  · rfl
  · exact h.elim
theorem cels_need_chase : CelsIn 0 S_need_chase := by
  intro as Q h i p xs e
  unfold S_need_chase at h
  split at h
  · exact absurd e (no_cel (ds := [_, _]) i p xs)
  · exact h.elim
def N_need_chase : List Str := ["low", "high"]
theorem sc_need_chase : FnScope N_need_chase ["low", "high"] (defScope (top 17)) := ⟨rfl, rfl, rfl, by decide +kernel, rfl, by decide +kernel, by decide +kernel⟩
theorem fg_need_chase (T : Tp K mg) (D_is_hour : Dn P w K mg base "is_hour" 2 ["thing"] S_is_hour) {fd : FuncData} (Fn : Fun K "need_chase" "need_chase" (top 17) (He.ga K "need_chase") fd) : FnG P w K mg base 3 (He.ga K "need_chase") fd ["low", "high"] S_need_chase := by
  refine dfn 0 Fn sc_need_chase len_need_chase cels_need_chase fun cdv A outer s H hr hA => ⟨_, (sone (sif (tor (tnot (dtest (dfrz (dcn D_is_hour (hr.mono (by decide)) hA (acons (dv 0) anil))))) (tor (tnot (dtest (dfrz (dcn D_is_hour (hr.mono (by decide)) hA (acons (dv 1) anil))))) (tor1 (dcmpT op_gt opr_gt (dv 0) (dv 1) (nomark _))))).pt (sone snever) snil)), fun as Q h => ?_⟩
  unfold S_need_chase at h
  split at h
  · unfold q_need_chase at h
    rename_i x0 x1
    refine at_env (b := [.dat x0, .dat x1]) rfl ?_
    exact Eq.mp (by kernel_rfl) h
  · exact h.elim
theorem ok_need_chase (T : Tp K mg) (D_is_hour : Dn P w K mg base "is_hour" 2 ["thing"] S_is_hour) : Dn P w K mg base "need_chase" 3 ["low", "high"] S_need_chase := by
  obtain ⟨kV, doc, pm, an, cdv, ct, Fn⟩ := T.fun_ "need_chase" (top 17) 7 72
  exact ⟨⟨_, fg_need_chase T D_is_hour Fn, Fn.binds (ps := ["low", "high"]) fun _ _ _ _ _ _ us hl => match us, hl with | [_, _], _ => rfl⟩, T.glo "need_chase" 27, T.keep "need_chase" 72⟩
def kk_place_between : RT → (PyData → Prop) := fun R v => R (.dat v) []
def em_place_between_1 (i : PyData × PyData × PyData × PyData) (s : Unit) : List SD := [.dat i.1, .dat i.2.1, .un, .un, .dat i.2.2.1, .dat i.2.2.2, .un, .un]
def de_place_between_1 : List SD → Option ((PyData × PyData × PyData × PyData) × (Unit))
  | [.dat x0, .dat x1, .un, .un, .dat x4, .dat x5, .un, .un] => some ((x0, x1, x4, x5), ())
  | _ => none
theorem hde_place_between_1 : ∀ env i s, de_place_between_1 env = some (i, s) → env = em_place_between_1 i s := by
  intro env i s h
  unfold de_place_between_1 at h
  split at h
  · cases h; rfl
  · cases h
def S_place_between : DSp := fun as Q => match as with
  | [.dat x0, .dat x1, .dat x2, .dat x3] => q_place_between x0 x1 x2 x3 (kk_place_between Q)
  | _ => False
theorem len_place_between (as : List SD) (Q : SD → List SD → Prop) (h : S_place_between as Q) : as.length = 4 := by
  unfold S_place_between at h
  split at h
  · rfl
  · exact h.elim
theorem cels_place_between : CelsIn 0 S_place_between := by
  intro as Q h i p xs e
  unfold S_place_between at h
  split at h
  · exact absurd e (no_cel (ds := [_, _, _, _]) i p xs)
  · exact h.elim
def N_place_between : List Str := ["one", "other", "p", "q", "gap", "gone", "here", "there"]
theorem sc_place_between : FnScope N_place_between ["one", "other", "p", "q"] (defScope (top 18)) := ⟨rfl, rfl, rfl, by decide +kernel, rfl, by decide +kernel, by decide +kernel⟩
theorem fg_place_between (T : Tp K mg) (D_lowest : Dn P w K mg base "lowest" 2 ["p", "q"] S_lowest) {fd : FuncData} (Fn : Fun K "place_between" "place_between" (top 18) (He.ga K "place_between") fd) : FnG P w K mg base 3 (He.ga K "place_between") fd ["one", "other", "p", "q"] S_place_between := by
  refine dfn 0 Fn sc_place_between len_place_between cels_place_between fun cdv A outer s H hr hA => ⟨_, (scons (sset 4 sc_place_between.nd (dx (dmul (dsub (dixP (dv 1) di) (dixP (dv 0) di)) (dv 3)))) (scons (sset 5 sc_place_between.nd (dx (dsub (dv 2) (dmul (dixP (dv 0) di) (dv 3))))) (ssforget [2, 3] (sone (sret (m := 0) (dx (dtupleOf (m_tuple T) (acons (dfrz (dlc (dec := de_place_between_1) (emb := em_place_between_1) (qb := qb_place_between_1) [("here", 6), ("there", 7)] (.tup [6, 7]) hde_place_between_1 rfl sc_place_between.nd (izip (m_zip T) (acons (dsl (dv 0) (so_some di) so_none) (acons (dsl (dv 1) (so_some di) so_none) anil))) (blkOk_by (own := [("here", 6), ("there", 7)]) (N := N_place_between) (sc := defScope (top 18)) (by decide +kernel)) (fun _ _ _ _ _ => pg_tup rfl (pgs_cons (pg_name (i := 6) sc_place_between.nd rfl (Or.inl rfl)) (pgs_cons (pg_name (i := 7) sc_place_between.nd rfl (Or.inl rfl)) pgs_nil))) (fun _ _ _ _ _ => tyes) (fun _ _ _ _ _ => (dfrz (dcn D_lowest (hr.mono (by decide)) hA (acons (dadd (dmul (dv 6) (dv 4)) (dmul (dsub (dv 7) (dv 6)) (dv 5))) (acons (dv 4) anil))))) (fun d i s sk yd h => Eq.mp (by kernel_rfl) h))) anil)))))))), fun as Q h => ?_⟩
  unfold S_place_between at h
  split at h
  · unfold q_place_between at h
    rename_i x0 x1 x2 x3
    refine at_env (b := [.dat x0, .dat x1, .dat x2, .dat x3, .un, .un, .un, .un]) rfl ?_
    exact Eq.mp (by kernel_rfl) h
  · exact h.elim
theorem ok_place_between (T : Tp K mg) (D_lowest : Dn P w K mg base "lowest" 2 ["p", "q"] S_lowest) : Dn P w K mg base "place_between" 3 ["one", "other", "p", "q"] S_place_between := by
  obtain ⟨kV, doc, pm, an, cdv, ct, Fn⟩ := T.fun_ "place_between" (top 18) 8 73
  exact ⟨⟨_, fg_place_between T D_lowest Fn, Fn.binds (ps := ["one", "other", "p", "q"]) fun _ _ _ _ _ _ us hl => match us, hl with | [_, _, _, _], _ => rfl⟩, T.glo "place_between" 28, T.keep "place_between" 73⟩
def kk_place_of : RT → (PyData → Prop) := fun R v => R (.dat v) []
def em_place_of_1 (i : PyData × PyData × PyData) (s : Unit) : List SD := [.dat i.1, .un, .dat i.2.1, .dat i.2.2, .un, .un, .un]
def de_place_of_1 : List SD → Option ((PyData × PyData × PyData) × (Unit))
  | [.dat x0, .un, .dat x2, .dat x3, .un, .un, .un] => some ((x0, x2, x3), ())
  | _ => none
theorem hde_place_of_1 : ∀ env i s, de_place_of_1 env = some (i, s) → env = em_place_of_1 i s := by
  intro env i s h
  unfold de_place_of_1 at h
  split at h
  · cases h; rfl
  · cases h
def em_place_of_2 (i : PyData) (s : Unit) : List SD := [.dat i, .un, .un, .un, .un, .un, .un]
def de_place_of_2 : List SD → Option ((PyData) × (Unit))
  | [.dat x0, .un, .un, .un, .un, .un, .un] => some (x0, ())
  | _ => none
theorem hde_place_of_2 : ∀ env i s, de_place_of_2 env = some (i, s) → env = em_place_of_2 i s := by
  intro env i s h
  unfold de_place_of_2 at h
  split at h
  · cases h; rfl
  · cases h
def S_place_of : DSp := fun as Q => match as with
  | [.dat x0, .dat x1] => q_place_of x0 x1 (kk_place_of Q)
  | _ => False
theorem len_place_of (as : List SD) (Q : SD → List SD → Prop) (h : S_place_of as Q) : as.length = 2 := by
  unfold S_place_of at h
  split at h
  · rfl
  · exact h.elim
theorem cels_place_of : CelsIn 0 S_place_of := by
  intro as Q h i p xs e
  unfold S_place_of at h
  split at h
  · exact absurd e (no_cel (ds := [_, _]) i p xs)
  · exact h.elim
def N_place_of : List Str := ["log", "moment", "p", "q", "one", "other", "number"]
theorem sc_place_of : FnScope N_place_of ["log", "moment"] (defScope (top 19)) := ⟨rfl, rfl, rfl, by decide +kernel, rfl, by decide +kernel, by decide +kernel⟩
theorem fg_place_of (T : Tp K mg) (D_place_between : Dn P w K mg base "place_between" 3 ["one", "other", "p", "q"] S_place_between) {fd : FuncData} (Fn : Fun K "place_of" "place_of" (top 19) (He.ga K "place_of") fd) : FnG P w K mg base 4 (He.ga K "place_of") fd ["log", "moment"] S_place_of := by
  refine dfn 0 Fn sc_place_of len_place_of cels_place_of fun cdv A outer s H hr hA => ⟨_, (scons (sasg (dv 1) (gtup (gl_cons gok_n (gl_cons gok_n gl_nil)) rfl (gcons (gn 2 sc_place_of.nd) (gcons (gn 3 sc_place_of.nd) gnil)))) (ssforget [1] (scons (sif (tor (dcmpT op_lt opr_lt (dv 2) (dmul (dixP (dixP (dv 0) di) di) (dv 3)) (nomark _)) (tor1 (dcmpT op_gt opr_gt (dv 2) (dmul (dixP (dixP (dv 0) (dneg di)) di) (dv 3)) (nomark _)))).pt (sone (sret (m := 0) (dx dn))) snil) (scons (sforQ [4, 5] de_place_of_1 em_place_of_1 kk_place_of qb_place_of_1 hde_place_of_1 PassesOwn.never rfl (izip (m_zip T) (acons (dv 0) (acons (dsl (dv 0) (so_some di) so_none) anil))) (gtup (gl_cons gok_n (gl_cons gok_n gl_nil)) rfl (gcons (gn 4 sc_place_of.nd) (gcons (gn 5 sc_place_of.nd) gnil))) (sone (sif (dcmpT op_le opr_le (dv 2) (dmul (dixP (dv 5) di) (dv 3)) (nomark _)) (sone (sret (m := 0) (dx (dfrz (dcn D_place_between (hr.mono (by decide)) hA (acons (dv 4) (acons (dv 5) (acons (dv 2) (acons (dv 3) anil))))))))) snil)) (fun R d i s nx bk h => Eq.mp (by kernel_rfl) h)) (ssforget [2, 3] (sone (sret (m := 0) (dx (dtupleOf (m_tuple T) (acons (dfrz (dlc (dec := de_place_of_2) (emb := em_place_of_2) (qb := qb_place_of_2) [("number", 6)] (.one 6) hde_place_of_2 rfl sc_place_of.nd (iseq (dsl (dixP (dv 0) di) (so_some di) so_none)) (blkOk_by (own := [("number", 6)]) (N := N_place_of) (sc := defScope (top 19)) (by decide +kernel)) (fun _ _ _ _ _ => pg_name (i := 6) sc_place_of.nd rfl (Or.inl rfl)) (fun _ _ _ _ _ => tyes) (fun _ _ _ _ _ => (dtup (acons (dv 6) (acons di anil)))) (fun d i s sk yd h => Eq.mp (by kernel_rfl) h))) anil)))))))))), fun as Q h => ?_⟩
  unfold S_place_of at h
  split at h
  · unfold q_place_of at h
    rename_i x0 x1
    refine at_env (b := [.dat x0, .dat x1, .un, .un, .un, .un, .un]) rfl ?_
    exact Eq.mp (by kernel_rfl) h
  · exact h.elim
theorem ok_place_of (T : Tp K mg) (D_place_between : Dn P w K mg base "place_between" 3 ["one", "other", "p", "q"] S_place_between) : Dn P w K mg base "place_of" 4 ["log", "moment"] S_place_of := by
  obtain ⟨kV, doc, pm, an, cdv, ct, Fn⟩ := T.fun_ "place_of" (top 19) 9 74
  exact ⟨⟨_, fg_place_of T D_place_between Fn, Fn.binds (ps := ["log", "moment"]) fun _ _ _ _ _ _ us hl => match us, hl with | [_, _], _ => rfl⟩, T.glo "place_of" 29, T.keep "place_of" 74⟩
def kk_place_at : RT → (PyData → Prop) := fun R v => R (.dat v) []
def S_place_at : DSp := fun as Q => match as with
  | [.dat x0, .dat x1] => q_place_at x0 x1 (kk_place_at Q)
  | _ => False
theorem len_place_at (as : List SD) (Q : SD → List SD → Prop) (h : S_place_at as Q) : as.length = 2 := by
  unfold S_place_at at h
  split at h
  · rfl
  · exact h.elim
theorem cels_place_at : CelsIn 0 S_place_at := by
  intro as Q h i p xs e
  unfold S_place_at at h
  split at h
  · exact absurd e (no_cel (ds := [_, _]) i p xs)
  · exact h.elim
def N_place_at : List Str := ["log", "moment"]
theorem sc_place_at : FnScope N_place_at ["log", "moment"] (defScope (top 20)) := ⟨rfl, rfl, rfl, by decide +kernel, rfl, by decide +kernel, by decide +kernel⟩
theorem fg_place_at (T : Tp K mg) (D_need_log : Dn P w K mg base "need_log" 5 ["thing"] S_need_log) (D_place_of : Dn P w K mg base "place_of" 4 ["log", "moment"] S_place_of) {fd : FuncData} (Fn : Fun K "place_at" "place_at" (top 20) (He.ga K "place_at") fd) : FnG P w K mg base 6 (He.ga K "place_at") fd ["log", "moment"] S_place_at := by
  refine dfn 0 Fn sc_place_at len_place_at cels_place_at fun cdv A outer s H hr hA => ⟨_, (scons (sexpr (dcn D_need_log (hr.mono (by decide)) hA (acons (dv 0) anil))) (sone (sret (m := 0) (dx (dfrz (dcn D_place_of (hr.mono (by decide)) hA (acons (dv 0) (acons (dv 1) anil)))))))), fun as Q h => ?_⟩
  unfold S_place_at at h
  split at h
  · unfold q_place_at at h
    rename_i x0 x1
    refine at_env (b := [.dat x0, .dat x1]) rfl ?_
    exact Eq.mp (by kernel_rfl) h
  · exact h.elim
theorem ok_place_at (T : Tp K mg) (D_need_log : Dn P w K mg base "need_log" 5 ["thing"] S_need_log) (D_place_of : Dn P w K mg base "place_of" 4 ["log", "moment"] S_place_of) : Dn P w K mg base "place_at" 6 ["log", "moment"] S_place_at := by
  obtain ⟨kV, doc, pm, an, cdv, ct, Fn⟩ := T.fun_ "place_at" (top 20) 10 75
  exact ⟨⟨_, fg_place_at T D_need_log D_place_of Fn, Fn.binds (ps := ["log", "moment"]) fun _ _ _ _ _ _ us hl => match us, hl with | [_, _], _ => rfl⟩, T.glo "place_at" 30, T.keep "place_at" 75⟩
def kk_hours_of_both : RT → (PyData → Prop) := fun R v => R (.dat v) []
def S_hours_of_both : DSp := fun as Q => match as with
  | [.dat x0, .dat x1, .dat x2, .dat x3] => q_hours_of_both x0 x1 x2 x3 (kk_hours_of_both Q)
  | _ => False
theorem len_hours_of_both (as : List SD) (Q : SD → List SD → Prop) (h : S_hours_of_both as Q) : as.length = 4 := by
  unfold S_hours_of_both at h
  split at h
  · rfl
  · exact h.elim
theorem cels_hours_of_both : CelsIn 0 S_hours_of_both := by
  intro as Q h i p xs e
  unfold S_hours_of_both at h
  split at h
  · exact absurd e (no_cel (ds := [_, _, _, _]) i p xs)
  · exact h.elim
def N_hours_of_both : List Str := ["one", "other", "low", "high", "begin", "end"]
theorem sc_hours_of_both : FnScope N_hours_of_both ["one", "other", "low", "high"] (defScope (top 21)) := ⟨rfl, rfl, rfl, by decide +kernel, rfl, by decide +kernel, by decide +kernel⟩
theorem fg_hours_of_both (T : Tp K mg)  {fd : FuncData} (Fn : Fun K "hours_of_both" "hours_of_both" (top 21) (He.ga K "hours_of_both") fd) : FnG P w K mg base 1 (He.ga K "hours_of_both") fd ["one", "other", "low", "high"] S_hours_of_both := by
  refine dfn 0 Fn sc_hours_of_both len_hours_of_both cels_hours_of_both fun cdv A outer s H hr hA => ⟨_, (scons (sset 4 sc_hours_of_both.nd (dx (dmax3 (m_max T) rfl (acons (dixP (dixP (dv 0) di) di) (acons (dixP (dixP (dv 1) di) di) (acons (dv 2) anil)))))) (scons (sset 5 sc_hours_of_both.nd (dx (dmin3 (m_min T) rfl (acons (dixP (dixP (dv 0) (dneg di)) di) (acons (dixP (dixP (dv 1) (dneg di)) di) (acons (dv 3) anil)))))) (ssforget [0, 1, 2, 3] (scons (sif (dcmpT op_gt opr_gt (dv 4) (dv 5) (nomark _)) (sone (sret (m := 0) (dx dn))) snil) (sone (sret (m := 0) (dx (dtup (acons (dv 4) (acons (dv 5) anil)))))))))), fun as Q h => ?_⟩
  unfold S_hours_of_both at h
  split at h
  · unfold q_hours_of_both at h
    rename_i x0 x1 x2 x3
    refine at_env (b := [.dat x0, .dat x1, .dat x2, .dat x3, .un, .un]) rfl ?_
    exact Eq.mp (by kernel_rfl) h
  · exact h.elim
theorem ok_hours_of_both (T : Tp K mg)  : Dn P w K mg base "hours_of_both" 1 ["one", "other", "low", "high"] S_hours_of_both := by
  obtain ⟨kV, doc, pm, an, cdv, ct, Fn⟩ := T.fun_ "hours_of_both" (top 21) 11 76
  exact ⟨⟨_, fg_hours_of_both T  Fn, Fn.binds (ps := ["one", "other", "low", "high"]) fun _ _ _ _ _ _ us hl => match us, hl with | [_, _, _, _], _ => rfl⟩, T.glo "hours_of_both" 31, T.keep "hours_of_both" 76⟩
def kk_both_tell : RT → (PyData → Prop) := fun R v => R (.dat v) []
def S_both_tell : DSp := fun as Q => match as with
  | [.dat x0, .dat x1, .dat x2, .dat x3] => q_both_tell x0 x1 x2 x3 (kk_both_tell Q)
  | _ => False
theorem len_both_tell (as : List SD) (Q : SD → List SD → Prop) (h : S_both_tell as Q) : as.length = 4 := by
  unfold S_both_tell at h
  split at h
  · rfl
  · exact h.elim
theorem cels_both_tell : CelsIn 0 S_both_tell := by
  intro as Q h i p xs e
  unfold S_both_tell at h
  split at h
  · exact absurd e (no_cel (ds := [_, _, _, _]) i p xs)
  · exact h.elim
def N_both_tell : List Str := ["one", "other", "low", "high"]
theorem sc_both_tell : FnScope N_both_tell ["one", "other", "low", "high"] (defScope (top 22)) := ⟨rfl, rfl, rfl, by decide +kernel, rfl, by decide +kernel, by decide +kernel⟩
theorem fg_both_tell (T : Tp K mg) (D_hours_of_both : Dn P w K mg base "hours_of_both" 1 ["one", "other", "low", "high"] S_hours_of_both) (D_need_chase : Dn P w K mg base "need_chase" 3 ["low", "high"] S_need_chase) (D_need_log : Dn P w K mg base "need_log" 5 ["thing"] S_need_log) {fd : FuncData} (Fn : Fun K "both_tell" "both_tell" (top 22) (He.ga K "both_tell") fd) : FnG P w K mg base 6 (He.ga K "both_tell") fd ["one", "other", "low", "high"] S_both_tell := by
  refine dfn 0 Fn sc_both_tell len_both_tell cels_both_tell fun cdv A outer s H hr hA => ⟨_, (scons (sexpr (dcn D_need_log (hr.mono (by decide)) hA (acons (dv 0) anil))) (scons (sexpr (dcn D_need_log (hr.mono (by decide)) hA (acons (dv 1) anil))) (scons (sexpr (dcn D_need_chase (hr.mono (by decide)) hA (acons (dv 2) (acons (dv 3) anil)))) (sone (sret (m := 0) (dx (dfrz (dcn D_hours_of_both (hr.mono (by decide)) hA (acons (dv 0) (acons (dv 1) (acons (dv 2) (acons (dv 3) anil)))))))))))), fun as Q h => ?_⟩
  unfold S_both_tell at h
  split at h
  · unfold q_both_tell at h
    rename_i x0 x1 x2 x3
    refine at_env (b := [.dat x0, .dat x1, .dat x2, .dat x3]) rfl ?_
    exact Eq.mp (by kernel_rfl) h
  · exact h.elim
theorem ok_both_tell (T : Tp K mg) (D_hours_of_both : Dn P w K mg base "hours_of_both" 1 ["one", "other", "low", "high"] S_hours_of_both) (D_need_chase : Dn P w K mg base "need_chase" 3 ["low", "high"] S_need_chase) (D_need_log : Dn P w K mg base "need_log" 5 ["thing"] S_need_log) : Dn P w K mg base "both_tell" 6 ["one", "other", "low", "high"] S_both_tell := by
  obtain ⟨kV, doc, pm, an, cdv, ct, Fn⟩ := T.fun_ "both_tell" (top 22) 12 77
  exact ⟨⟨_, fg_both_tell T D_hours_of_both D_need_chase D_need_log Fn, Fn.binds (ps := ["one", "other", "low", "high"]) fun _ _ _ _ _ _ us hl => match us, hl with | [_, _, _, _], _ => rfl⟩, T.glo "both_tell" 32, T.keep "both_tell" 77⟩
def kk_marks_between : RT → (PyData → Prop) := fun R v => R (.dat v) []
def em_marks_between_1 (i : PyData × PyData × PyData × PyData) (s : Unit) : List SD := [.dat i.1, .dat i.2.1, .dat i.2.2.1, .dat i.2.2.2, .un]
def de_marks_between_1 : List SD → Option ((PyData × PyData × PyData × PyData) × (Unit))
  | [.dat x0, .dat x1, .dat x2, .dat x3, .un] => some ((x0, x1, x2, x3), ())
  | _ => none
theorem hde_marks_between_1 : ∀ env i s, de_marks_between_1 env = some (i, s) → env = em_marks_between_1 i s := by
  intro env i s h
  unfold de_marks_between_1 at h
  split at h
  · cases h; rfl
  · cases h
def S_marks_between : DSp := fun as Q => match as with
  | [.dat x0, .dat x1, .dat x2, .dat x3] => q_marks_between x0 x1 x2 x3 (kk_marks_between Q)
  | _ => False
theorem len_marks_between (as : List SD) (Q : SD → List SD → Prop) (h : S_marks_between as Q) : as.length = 4 := by
  unfold S_marks_between at h
  split at h
  · rfl
  · exact h.elim
theorem cels_marks_between : CelsIn 0 S_marks_between := by
  intro as Q h i p xs e
  unfold S_marks_between at h
  split at h
  · exact absurd e (no_cel (ds := [_, _, _, _]) i p xs)
  · exact h.elim
def N_marks_between : List Str := ["one", "other", "begin", "end", "row"]
theorem sc_marks_between : FnScope N_marks_between ["one", "other", "begin", "end"] (defScope (top 23)) := ⟨rfl, rfl, rfl, by decide +kernel, rfl, by decide +kernel, by decide +kernel⟩
theorem fg_marks_between (T : Tp K mg)  {fd : FuncData} (Fn : Fun K "marks_between" "marks_between" (top 23) (He.ga K "marks_between") fd) : FnG P w K mg base 1 (He.ga K "marks_between") fd ["one", "other", "begin", "end"] S_marks_between := by
  refine dfn 0 Fn sc_marks_between len_marks_between cels_marks_between fun cdv A outer s H hr hA => ⟨_, (sone (sret (m := 0) (dx (dfrz (dsortSet (by rfl) (m_sorted T) (m_set T) (dadd (dfrz (dlst (acons (dv 2) (acons (dv 3) anil)))) (dfrz (dlc (dec := de_marks_between_1) (emb := em_marks_between_1) (qb := qb_marks_between_1) [("row", 4)] (.one 4) hde_marks_between_1 rfl sc_marks_between.nd (iseq (dadd (dv 0) (dv 1))) (blkOk_by (own := [("row", 4)]) (N := N_marks_between) (sc := defScope (top 23)) (by decide +kernel)) (fun _ _ _ _ _ => pg_name (i := 4) sc_marks_between.nd rfl (Or.inl rfl)) (fun _ _ _ _ _ => tif1 (dchainT op_lt op_lt opr_lt opr_lt (dv 2) (dixP (dv 4) di) (dv 3))) (fun _ _ _ _ _ => (dixP (dv 4) di)) (fun d i s sk yd h => Eq.mp (by kernel_rfl) h))))))))), fun as Q h => ?_⟩
  unfold S_marks_between at h
  split at h
  · unfold q_marks_between at h
    rename_i x0 x1 x2 x3
    refine at_env (b := [.dat x0, .dat x1, .dat x2, .dat x3, .un]) rfl ?_
    exact Eq.mp (by kernel_rfl) h
  · exact h.elim
theorem ok_marks_between (T : Tp K mg)  : Dn P w K mg base "marks_between" 1 ["one", "other", "begin", "end"] S_marks_between := by
  obtain ⟨kV, doc, pm, an, cdv, ct, Fn⟩ := T.fun_ "marks_between" (top 23) 13 78
  exact ⟨⟨_, fg_marks_between T  Fn, Fn.binds (ps := ["one", "other", "begin", "end"]) fun _ _ _ _ _ _ us hl => match us, hl with | [_, _, _, _], _ => rfl⟩, T.glo "marks_between" 33, T.keep "marks_between" 78⟩
def kk_alike_at : RT → (PyData → Prop) := fun R v => R (.dat v) []
def S_alike_at : DSp := fun as Q => match as with
  | [.dat x0, .dat x1, .dat x2] => q_alike_at x0 x1 x2 (kk_alike_at Q)
  | _ => False
theorem len_alike_at (as : List SD) (Q : SD → List SD → Prop) (h : S_alike_at as Q) : as.length = 3 := by
  unfold S_alike_at at h
  split at h
  · rfl
  · exact h.elim
theorem cels_alike_at : CelsIn 0 S_alike_at := by
  intro as Q h i p xs e
  unfold S_alike_at at h
  split at h
  · exact absurd e (no_cel (ds := [_, _, _]) i p xs)
  · exact h.elim
def N_alike_at : List Str := ["one", "other", "hour"]
theorem sc_alike_at : FnScope N_alike_at ["one", "other", "hour"] (defScope (top 24)) := ⟨rfl, rfl, rfl, by decide +kernel, rfl, by decide +kernel, by decide +kernel⟩
theorem fg_alike_at (T : Tp K mg) (D_place_of : Dn P w K mg base "place_of" 4 ["log", "moment"] S_place_of) {fd : FuncData} (Fn : Fun K "alike_at" "alike_at" (top 24) (He.ga K "alike_at") fd) : FnG P w K mg base 5 (He.ga K "alike_at") fd ["one", "other", "hour"] S_alike_at := by
  refine dfn 0 Fn sc_alike_at len_alike_at cels_alike_at fun cdv A outer s H hr hA => ⟨_, (sone (sret (m := 0) (dx (dcmp (op_eqE hr.units) opd_eq (dfrz (dcn D_place_of (hr.mono (by decide)) hA (acons (dv 0) (acons (dtup (acons (dv 2) (acons di anil))) anil)))) (dfrz (dcn D_place_of (hr.mono (by decide)) hA (acons (dv 1) (acons (dtup (acons (dv 2) (acons di anil))) anil)))) (nomark _))))), fun as Q h => ?_⟩
  unfold S_alike_at at h
  split at h
  · unfold q_alike_at at h
    rename_i x0 x1 x2
    refine at_env (b := [.dat x0, .dat x1, .dat x2]) rfl ?_
    exact Eq.mp (by kernel_rfl) h
  · exact h.elim
theorem ok_alike_at (T : Tp K mg) (D_place_of : Dn P w K mg base "place_of" 4 ["log", "moment"] S_place_of) : Dn P w K mg base "alike_at" 5 ["one", "other", "hour"] S_alike_at := by
  obtain ⟨kV, doc, pm, an, cdv, ct, Fn⟩ := T.fun_ "alike_at" (top 24) 14 79
  exact ⟨⟨_, fg_alike_at T D_place_of Fn, Fn.binds (ps := ["one", "other", "hour"]) fun _ _ _ _ _ _ us hl => match us, hl with | [_, _, _], _ => rfl⟩, T.glo "alike_at" 34, T.keep "alike_at" 79⟩
def kk_part_at : RT → (PyData → Prop) := fun R v => R (.dat v) []
def em_part_at_1 (i : PyData × PyData) (s : PyData) : List SD := [.dat i.1, .dat i.2, .un, .dat s, .un]
def de_part_at_1 : List SD → Option ((PyData × PyData) × (PyData))
  | [.dat x0, .dat x1, .un, .dat x3, .un] => some ((x0, x1), x3)
  | _ => none
theorem hde_part_at_1 : ∀ env i s, de_part_at_1 env = some (i, s) → env = em_part_at_1 i s := by
  intro env i s h
  unfold de_part_at_1 at h
  split at h
  · cases h; rfl
  · cases h
def S_part_at : DSp := fun as Q => match as with
  | [.dat x0, .dat x1] => q_part_at x0 x1 (kk_part_at Q)
  | _ => False
theorem len_part_at (as : List SD) (Q : SD → List SD → Prop) (h : S_part_at as Q) : as.length = 2 := by
  unfold S_part_at at h
  split at h
  · rfl
  · exact h.elim
theorem cels_part_at : CelsIn 0 S_part_at := by
  intro as Q h i p xs e
  unfold S_part_at at h
  split at h
  · exact absurd e (no_cel (ds := [_, _]) i p xs)
  · exact h.elim
def N_part_at : List Str := ["one", "other", "hours", "ahead", "hour"]
theorem sc_part_at : FnScope N_part_at ["one", "other"] (defScope (top 25)) := ⟨rfl, rfl, rfl, by decide +kernel, rfl, by decide +kernel, by decide +kernel⟩
theorem fg_part_at (T : Tp K mg) (D_alike_at : Dn P w K mg base "alike_at" 5 ["one", "other", "hour"] S_alike_at) (D_hours_of_both : Dn P w K mg base "hours_of_both" 1 ["one", "other", "low", "high"] S_hours_of_both) (D_marks_between : Dn P w K mg base "marks_between" 1 ["one", "other", "begin", "end"] S_marks_between) (D_need_log : Dn P w K mg base "need_log" 5 ["thing"] S_need_log) {fd : FuncData} (Fn : Fun K "part_at" "part_at" (top 25) (He.ga K "part_at") fd) : FnG P w K mg base 6 (He.ga K "part_at") fd ["one", "other"] S_part_at := by
  refine dfn 0 Fn sc_part_at len_part_at cels_part_at fun cdv A outer s H hr hA => ⟨_, (scons (sexpr (dcn D_need_log (hr.mono (by decide)) hA (acons (dv 0) anil))) (scons (sexpr (dcn D_need_log (hr.mono (by decide)) hA (acons (dv 1) anil))) (scons (sset 2 sc_part_at.nd (dcn D_hours_of_both (hr.mono (by decide)) hA (acons (dv 0) (acons (dv 1) (acons di (acons (dnum (c_LAST_HOUR T)) anil)))))) (scons (sif (tisN (dv 2)) (sone (sret (m := 0) (dx dn))) snil) (scons (sset 3 sc_part_at.nd (dx (dixP (dv 2) di))) (scons (sforQ [2, 4] de_part_at_1 em_part_at_1 kk_part_at qb_part_at_1 hde_part_at_1 PassesOwn.never rfl (iseq (dfrz (dcn D_marks_between (hr.mono (by decide)) hA (acons (dv 0) (acons (dv 1) (acons (dixP (dv 2) di) (acons (dixP (dv 2) di) anil))))))) (gn 4 sc_part_at.nd) (scons (sif (tnot (dtest (dfrz (dcn D_alike_at (hr.mono (by decide)) hA (acons (dv 0) (acons (dv 1) (acons (dv 4) anil))))))) (sone (sret (m := 0) (dx (dv 3)))) snil) (sone (sset 3 sc_part_at.nd (dx (dv 4))))) (fun R d i s nx bk h => Eq.mp (by kernel_rfl) h)) (sone (sret (m := 0) (dx dn))))))))), fun as Q h => ?_⟩
  unfold S_part_at at h
  split at h
  · unfold q_part_at at h
    rename_i x0 x1
    refine at_env (b := [.dat x0, .dat x1, .un, .un, .un]) rfl ?_
    exact Eq.mp (by kernel_rfl) h
  · exact h.elim
theorem ok_part_at (T : Tp K mg) (D_alike_at : Dn P w K mg base "alike_at" 5 ["one", "other", "hour"] S_alike_at) (D_hours_of_both : Dn P w K mg base "hours_of_both" 1 ["one", "other", "low", "high"] S_hours_of_both) (D_marks_between : Dn P w K mg base "marks_between" 1 ["one", "other", "begin", "end"] S_marks_between) (D_need_log : Dn P w K mg base "need_log" 5 ["thing"] S_need_log) : Dn P w K mg base "part_at" 6 ["one", "other"] S_part_at := by
  obtain ⟨kV, doc, pm, an, cdv, ct, Fn⟩ := T.fun_ "part_at" (top 25) 15 80
  exact ⟨⟨_, fg_part_at T D_alike_at D_hours_of_both D_marks_between D_need_log Fn, Fn.binds (ps := ["one", "other"]) fun _ _ _ _ _ _ us hl => match us, hl with | [_, _], _ => rfl⟩, T.glo "part_at" 35, T.keep "part_at" 80⟩
def kk_whole_place : RT → (PyData → Prop) := fun R v => R (.dat v) []
def em_whole_place_1 (i : PyData × PyData) (s : Unit) : List SD := [.dat i.1, .dat i.2, .un, .un, .un, .un]
def de_whole_place_1 : List SD → Option ((PyData × PyData) × (Unit))
  | [.dat x0, .dat x1, .un, .un, .un, .un] => some ((x0, x1), ())
  | _ => none
theorem hde_whole_place_1 : ∀ env i s, de_whole_place_1 env = some (i, s) → env = em_whole_place_1 i s := by
  intro env i s h
  unfold de_whole_place_1 at h
  split at h
  · cases h; rfl
  · cases h
def S_whole_place : DSp := fun as Q => match as with
  | [.dat x0, .dat x1] => q_whole_place x0 x1 (kk_whole_place Q)
  | _ => False
theorem len_whole_place (as : List SD) (Q : SD → List SD → Prop) (h : S_whole_place as Q) : as.length = 2 := by
  unfold S_whole_place at h
  split at h
  · rfl
  · exact h.elim
theorem cels_whole_place : CelsIn 0 S_whole_place := by
  intro as Q h i p xs e
  unfold S_whole_place at h
  split at h
  · exact absurd e (no_cel (ds := [_, _]) i p xs)
  · exact h.elim
def N_whole_place : List Str := ["log", "hour", "one", "other", "gap", "gone"]
theorem sc_whole_place : FnScope N_whole_place ["log", "hour"] (defScope (top 28)) := ⟨rfl, rfl, rfl, by decide +kernel, rfl, by decide +kernel, by decide +kernel⟩
theorem fg_whole_place (T : Tp K mg)  {fd : FuncData} (Fn : Fun K "whole_place" "whole_place" (top 28) (He.ga K "whole_place") fd) : FnG P w K mg base 1 (He.ga K "whole_place") fd ["log", "hour"] S_whole_place := by
  refine dfn 0 Fn sc_whole_place len_whole_place cels_whole_place fun cdv A outer s H hr hA => ⟨_, (scons (sforQ [2, 3, 4, 5] de_whole_place_1 em_whole_place_1 kk_whole_place qb_whole_place_1 hde_whole_place_1 PassesOwn.never rfl (izip (m_zip T) (acons (dv 0) (acons (dsl (dv 0) (so_some di) so_none) anil))) (gtup (gl_cons gok_n (gl_cons gok_n gl_nil)) rfl (gcons (gn 2 sc_whole_place.nd) (gcons (gn 3 sc_whole_place.nd) gnil))) (sone (sif (dcmpT op_le opr_le (dv 1) (dixP (dv 3) di) (nomark _)) (scons (sset 4 sc_whole_place.nd (dx (dsub (dixP (dv 3) di) (dixP (dv 2) di)))) (scons (sset 5 sc_whole_place.nd (dx (dsub (dv 1) (dixP (dv 2) di)))) (sone (sret (m := 0) (dx (dtup (acons (dadd (dmul (dixP (dv 2) di) (dv 4)) (dmul (dsub (dixP (dv 3) di) (dixP (dv 2) di)) (dv 5))) (acons (dadd (dmul (dixP (dv 2) di) (dv 4)) (dmul (dsub (dixP (dv 3) di) (dixP (dv 2) di)) (dv 5))) (acons (dv 4) anil))))))))) snil)) (fun R d i s nx bk h => Eq.mp (by kernel_rfl) h)) (sone (sret (m := 0) (dx (dtup (acons (dixP (dixP (dv 0) di) di) (acons (dixP (dixP (dv 0) di) di) (acons di anil)))))))), fun as Q h => ?_⟩
  unfold S_whole_place at h
  split at h
  · unfold q_whole_place at h
    rename_i x0 x1
    refine at_env (b := [.dat x0, .dat x1, .un, .un, .un, .un]) rfl ?_
    exact Eq.mp (by kernel_rfl) h
  · exact h.elim
theorem ok_whole_place (T : Tp K mg)  : Dn P w K mg base "whole_place" 1 ["log", "hour"] S_whole_place := by
  obtain ⟨kV, doc, pm, an, cdv, ct, Fn⟩ := T.fun_ "whole_place" (top 28) 16 81
  exact ⟨⟨_, fg_whole_place T  Fn, Fn.binds (ps := ["log", "hour"]) fun _ _ _ _ _ _ us hl => match us, hl with | [_, _], _ => rfl⟩, T.glo "whole_place" 36, T.keep "whole_place" 81⟩
def kk_apart_at : RT → (PyData → Prop) := fun R v => R (.dat v) []
def S_apart_at : DSp := fun as Q => match as with
  | [.dat x0, .dat x1, .dat x2] => q_apart_at x0 x1 x2 (kk_apart_at Q)
  | _ => False
theorem len_apart_at (as : List SD) (Q : SD → List SD → Prop) (h : S_apart_at as Q) : as.length = 3 := by
  unfold S_apart_at at h
  split at h
  · rfl
  · exact h.elim
theorem cels_apart_at : CelsIn 0 S_apart_at := by
  intro as Q h i p xs e
  unfold S_apart_at at h
  split at h
  · exact absurd e (no_cel (ds := [_, _, _]) i p xs)
  · exact h.elim
def N_apart_at : List Str := ["one", "other", "hour", "x", "y", "by", "u", "v", "times"]
theorem sc_apart_at : FnScope N_apart_at ["one", "other", "hour"] (defScope (top 29)) := ⟨rfl, rfl, rfl, by decide +kernel, rfl, by decide +kernel, by decide +kernel⟩
theorem fg_apart_at (T : Tp K mg) (D_whole_place : Dn P w K mg base "whole_place" 1 ["log", "hour"] S_whole_place) {fd : FuncData} (Fn : Fun K "apart_at" "apart_at" (top 29) (He.ga K "apart_at") fd) : FnG P w K mg base 2 (He.ga K "apart_at") fd ["one", "other", "hour"] S_apart_at := by
  refine dfn 0 Fn sc_apart_at len_apart_at cels_apart_at fun cdv A outer s H hr hA => ⟨_, (scons (sasg (dfrz (dcn D_whole_place (hr.mono (by decide)) hA (acons (dv 0) (acons (dv 2) anil)))) (gtup (gl_cons gok_n (gl_cons gok_n (gl_cons gok_n gl_nil))) rfl (gcons (gn 3 sc_apart_at.nd) (gcons (gn 4 sc_apart_at.nd) (gcons (gn 5 sc_apart_at.nd) gnil))))) (scons (sasg (dfrz (dcn D_whole_place (hr.mono (by decide)) hA (acons (dv 1) (acons (dv 2) anil)))) (gtup (gl_cons gok_n (gl_cons gok_n (gl_cons gok_n gl_nil))) rfl (gcons (gn 6 sc_apart_at.nd) (gcons (gn 7 sc_apart_at.nd) (gcons (gn 8 sc_apart_at.nd) gnil))))) (sone (sret (m := 0) (dx (dtup (acons (dsub (dmul (dv 3) (dv 8)) (dmul (dv 6) (dv 5))) (acons (dsub (dmul (dv 4) (dv 8)) (dmul (dv 7) (dv 5))) (acons (dmul (dv 5) (dv 8)) anil))))))))), fun as Q h => ?_⟩
  unfold S_apart_at at h
  split at h
  · unfold q_apart_at at h
    rename_i x0 x1 x2
    refine at_env (b := [.dat x0, .dat x1, .dat x2, .un, .un, .un, .un, .un, .un]) rfl ?_
    exact Eq.mp (by kernel_rfl) h
  · exact h.elim
theorem ok_apart_at (T : Tp K mg) (D_whole_place : Dn P w K mg base "whole_place" 1 ["log", "hour"] S_whole_place) : Dn P w K mg base "apart_at" 2 ["one", "other", "hour"] S_apart_at := by
  obtain ⟨kV, doc, pm, an, cdv, ct, Fn⟩ := T.fun_ "apart_at" (top 29) 17 82
  exact ⟨⟨_, fg_apart_at T D_whole_place Fn, Fn.binds (ps := ["one", "other", "hour"]) fun _ _ _ _ _ _ us hl => match us, hl with | [_, _, _], _ => rfl⟩, T.glo "apart_at" 37, T.keep "apart_at" 82⟩
def kk_least_between : RT → (PyData → Prop) := fun R v => R (.dat v) []
def S_least_between : DSp := fun as Q => match as with
  | [.dat x0, .dat x1, .dat x2, .dat x3] => q_least_between x0 x1 x2 x3 (kk_least_between Q)
  | _ => False
theorem len_least_between (as : List SD) (Q : SD → List SD → Prop) (h : S_least_between as Q) : as.length = 4 := by
  unfold S_least_between at h
  split at h
  · rfl
  · exact h.elim
theorem cels_least_between : CelsIn 0 S_least_between := by
  intro as Q h i p xs e
  unfold S_least_between at h
  split at h
  · exact absurd e (no_cel (ds := [_, _, _, _]) i p xs)
  · exact h.elim
def N_least_between : List Str := ["one", "other", "begin", "end", "x", "y", "by", "u", "v", "times", "bottom", "along", "swift", "across"]
theorem sc_least_between : FnScope N_least_between ["one", "other", "begin", "end"] (defScope (top 30)) := ⟨rfl, rfl, rfl, by decide +kernel, rfl, by decide +kernel, by decide +kernel⟩
theorem fg_least_between (T : Tp K mg) (D_apart_at : Dn P w K mg base "apart_at" 2 ["one", "other", "hour"] S_apart_at) (D_lowest : Dn P w K mg base "lowest" 2 ["p", "q"] S_lowest) {fd : FuncData} (Fn : Fun K "least_between" "least_between" (top 30) (He.ga K "least_between") fd) : FnG P w K mg base 3 (He.ga K "least_between") fd ["one", "other", "begin", "end"] S_least_between := by
  refine dfn 0 Fn sc_least_between len_least_between cels_least_between fun cdv A outer s H hr hA => ⟨_, (scons (sasg (dfrz (dcn D_apart_at (hr.mono (by decide)) hA (acons (dv 0) (acons (dv 1) (acons (dv 2) anil))))) (gtup (gl_cons gok_n (gl_cons gok_n (gl_cons gok_n gl_nil))) rfl (gcons (gn 4 sc_least_between.nd) (gcons (gn 5 sc_least_between.nd) (gcons (gn 6 sc_least_between.nd) gnil))))) (scons (sasg (dfrz (dcn D_apart_at (hr.mono (by decide)) hA (acons (dv 0) (acons (dv 1) (acons (dv 3) anil))))) (gtup (gl_cons gok_n (gl_cons gok_n (gl_cons gok_n gl_nil))) rfl (gcons (gn 7 sc_least_between.nd) (gcons (gn 8 sc_least_between.nd) (gcons (gn 9 sc_least_between.nd) gnil))))) (scons (sasg (dtup (acons (dmul (dv 4) (dv 9)) (acons (dmul (dv 5) (dv 9)) (acons (dsub (dmul (dv 7) (dv 6)) (dmul (dv 4) (dv 9))) (acons (dsub (dmul (dv 8) (dv 6)) (dmul (dv 5) (dv 9))) anil))))) (gtup (gl_cons gok_n (gl_cons gok_n (gl_cons gok_n (gl_cons gok_n gl_nil)))) rfl (gcons (gn 4 sc_least_between.nd) (gcons (gn 5 sc_least_between.nd) (gcons (gn 7 sc_least_between.nd) (gcons (gn 8 sc_least_between.nd) gnil)))))) (scons (sset 10 sc_least_between.nd (dx (dmul (dmul (dmul (dv 6) (dv 6)) (dv 9)) (dv 9)))) (scons (sset 11 sc_least_between.nd (dx (dadd (dmul (dv 4) (dv 7)) (dmul (dv 5) (dv 8))))) (scons (sset 12 sc_least_between.nd (dx (dadd (dmul (dv 7) (dv 7)) (dmul (dv 8) (dv 8))))) (ssforget [0, 1, 6, 9] (scons (sif (dcmpT op_ge opr_ge (dv 11) di (nomark _)) (sone (sret (m := 0) (dx (dtup (acons (dfrz (dcn D_lowest (hr.mono (by decide)) hA (acons (dadd (dmul (dv 4) (dv 4)) (dmul (dv 5) (dv 5))) (acons (dv 10) anil)))) (acons (dtup (acons (dv 2) (acons di anil))) anil)))))) snil) (scons (sif (dcmpT op_le opr_le (dadd (dv 11) (dv 12)) di (nomark _)) (sone (sret (m := 0) (dx (dtup (acons (dfrz (dcn D_lowest (hr.mono (by decide)) hA (acons (dadd (dmul (dadd (dv 4) (dv 7)) (dadd (dv 4) (dv 7))) (dmul (dadd (dv 5) (dv 8)) (dadd (dv 5) (dv 8)))) (acons (dv 10) anil)))) (acons (dtup (acons (dv 3) (acons di anil))) anil)))))) snil) (scons (sset 13 sc_least_between.nd (dx (dsub (dmul (dv 4) (dv 8)) (dmul (dv 5) (dv 7))))) (sone (sret (m := 0) (dx (dtup (acons (dfrz (dcn D_lowest (hr.mono (by decide)) hA (acons (dmul (dv 13) (dv 13)) (acons (dmul (dv 12) (dv 10)) anil)))) (acons (dfrz (dcn D_lowest (hr.mono (by decide)) hA (acons (dsub (dmul (dv 2) (dv 12)) (dmul (dv 11) (dsub (dv 3) (dv 2)))) (acons (dv 12) anil)))) anil)))))))))))))))), fun as Q h => ?_⟩
  unfold S_least_between at h
  split at h
  · unfold q_least_between at h
    rename_i x0 x1 x2 x3
    refine at_env (b := [.dat x0, .dat x1, .dat x2, .dat x3, .un, .un, .un, .un, .un, .un, .un, .un, .un, .un]) rfl ?_
    exact Eq.mp (by kernel_rfl) h
  · exact h.elim
theorem ok_least_between (T : Tp K mg) (D_apart_at : Dn P w K mg base "apart_at" 2 ["one", "other", "hour"] S_apart_at) (D_lowest : Dn P w K mg base "lowest" 2 ["p", "q"] S_lowest) : Dn P w K mg base "least_between" 3 ["one", "other", "begin", "end"] S_least_between := by
  obtain ⟨kV, doc, pm, an, cdv, ct, Fn⟩ := T.fun_ "least_between" (top 30) 18 83
  exact ⟨⟨_, fg_least_between T D_apart_at D_lowest Fn, Fn.binds (ps := ["one", "other", "begin", "end"]) fun _ _ _ _ _ _ us hl => match us, hl with | [_, _, _, _], _ => rfl⟩, T.glo "least_between" 38, T.keep "least_between" 83⟩
def kk_nearest_of : RT → (PyData → Prop) := fun R v => R (.dat v) []
def em_nearest_of_1 (i : PyData × PyData) (s : PyData) : List SD := [.dat i.1, .dat i.2, .un, .un, .un, .un, .dat s, .un, .un, .un]
def de_nearest_of_1 : List SD → Option ((PyData × PyData) × (PyData))
  | [.dat x0, .dat x1, .un, .un, .un, .un, .dat x6, .un, .un, .un] => some ((x0, x1), x6)
  | _ => none
theorem hde_nearest_of_1 : ∀ env i s, de_nearest_of_1 env = some (i, s) → env = em_nearest_of_1 i s := by
  intro env i s h
  unfold de_nearest_of_1 at h
  split at h
  · cases h; rfl
  · cases h
def S_nearest_of : DSp := fun as Q => match as with
  | [.dat x0, .dat x1, .dat x2, .dat x3] => q_nearest_of x0 x1 x2 x3 (kk_nearest_of Q)
  | _ => False
theorem len_nearest_of (as : List SD) (Q : SD → List SD → Prop) (h : S_nearest_of as Q) : as.length = 4 := by
  unfold S_nearest_of at h
  split at h
  · rfl
  · exact h.elim
theorem cels_nearest_of : CelsIn 0 S_nearest_of := by
  intro as Q h i p xs e
  unfold S_nearest_of at h
  split at h
  · exact absurd e (no_cel (ds := [_, _, _, _]) i p xs)
  · exact h.elim
def N_nearest_of : List Str := ["one", "other", "low", "high", "hours", "marks", "found", "begin", "end", "here"]
theorem sc_nearest_of : FnScope N_nearest_of ["one", "other", "low", "high"] (defScope (top 31)) := ⟨rfl, rfl, rfl, by decide +kernel, rfl, by decide +kernel, by decide +kernel⟩
theorem fg_nearest_of (T : Tp K mg) (D_hours_of_both : Dn P w K mg base "hours_of_both" 1 ["one", "other", "low", "high"] S_hours_of_both) (D_least_between : Dn P w K mg base "least_between" 3 ["one", "other", "begin", "end"] S_least_between) (D_marks_between : Dn P w K mg base "marks_between" 1 ["one", "other", "begin", "end"] S_marks_between) {fd : FuncData} (Fn : Fun K "nearest_of" "nearest_of" (top 31) (He.ga K "nearest_of") fd) : FnG P w K mg base 4 (He.ga K "nearest_of") fd ["one", "other", "low", "high"] S_nearest_of := by
  refine dfn 0 Fn sc_nearest_of len_nearest_of cels_nearest_of fun cdv A outer s H hr hA => ⟨_, (scons (sset 4 sc_nearest_of.nd (dcn D_hours_of_both (hr.mono (by decide)) hA (acons (dv 0) (acons (dv 1) (acons (dv 2) (acons (dv 3) anil)))))) (ssforget [2, 3] (scons (sif (tisN (dv 4)) (sone (sret (m := 0) (dx dn))) snil) (scons (sset 5 sc_nearest_of.nd (dcn D_marks_between (hr.mono (by decide)) hA (acons (dv 0) (acons (dv 1) (acons (dixP (dv 4) di) (acons (dixP (dv 4) di) anil)))))) (scons (sset 6 sc_nearest_of.nd (dcn D_least_between (hr.mono (by decide)) hA (acons (dv 0) (acons (dv 1) (acons (dixP (dv 5) di) (acons (dixP (dv 5) di) anil)))))) (ssforget [4] (scons (sforQ [5, 7, 8, 9] de_nearest_of_1 em_nearest_of_1 kk_nearest_of qb_nearest_of_1 hde_nearest_of_1 PassesOwn.never rfl (izip (m_zip T) (acons (dv 5) (acons (dsl (dv 5) (so_some di) so_none) anil))) (gtup (gl_cons gok_n (gl_cons gok_n gl_nil)) rfl (gcons (gn 7 sc_nearest_of.nd) (gcons (gn 8 sc_nearest_of.nd) gnil))) (scons (sset 9 sc_nearest_of.nd (dcn D_least_between (hr.mono (by decide)) hA (acons (dv 0) (acons (dv 1) (acons (dv 7) (acons (dv 8) anil)))))) (ssforget [7, 8] (sone (sif (dcmpT op_lt opr_lt (dmul (dixP (dixP (dv 9) di) di) (dixP (dixP (dv 6) di) di)) (dmul (dixP (dixP (dv 6) di) di) (dixP (dixP (dv 9) di) di)) (nomark _)) (sone (sset 6 sc_nearest_of.nd (dx (dv 9)))) snil)))) (fun R d i s nx bk h => Eq.mp (by kernel_rfl) h)) (sone (sret (m := 0) (dx (dv 6))))))))))), fun as Q h => ?_⟩
  unfold S_nearest_of at h
  split at h
  · unfold q_nearest_of at h
    rename_i x0 x1 x2 x3
    refine at_env (b := [.dat x0, .dat x1, .dat x2, .dat x3, .un, .un, .un, .un, .un, .un]) rfl ?_
    exact Eq.mp (by kernel_rfl) h
  · exact h.elim
theorem ok_nearest_of (T : Tp K mg) (D_hours_of_both : Dn P w K mg base "hours_of_both" 1 ["one", "other", "low", "high"] S_hours_of_both) (D_least_between : Dn P w K mg base "least_between" 3 ["one", "other", "begin", "end"] S_least_between) (D_marks_between : Dn P w K mg base "marks_between" 1 ["one", "other", "begin", "end"] S_marks_between) : Dn P w K mg base "nearest_of" 4 ["one", "other", "low", "high"] S_nearest_of := by
  obtain ⟨kV, doc, pm, an, cdv, ct, Fn⟩ := T.fun_ "nearest_of" (top 31) 19 84
  exact ⟨⟨_, fg_nearest_of T D_hours_of_both D_least_between D_marks_between Fn, Fn.binds (ps := ["one", "other", "low", "high"]) fun _ _ _ _ _ _ us hl => match us, hl with | [_, _, _, _], _ => rfl⟩, T.glo "nearest_of" 39, T.keep "nearest_of" 84⟩
def kk_need_both : RT → (PyData → Prop) := fun R v => R (.dat v) []
def S_need_both : DSp := fun as Q => match as with
  | [.dat x0, .dat x1, .dat x2, .dat x3] => q_need_both x0 x1 x2 x3 (kk_need_both Q)
  | _ => False
theorem len_need_both (as : List SD) (Q : SD → List SD → Prop) (h : S_need_both as Q) : as.length = 4 := by
  unfold S_need_both at h
  split at h
  · rfl
  · exact h.elim
theorem cels_need_both : CelsIn 0 S_need_both := by
  intro as Q h i p xs e
  unfold S_need_both at h
  split at h
  · exact absurd e (no_cel (ds := [_, _, _, _]) i p xs)
  · exact h.elim
def N_need_both : List Str := ["one", "other", "low", "high"]
theorem sc_need_both : FnScope N_need_both ["one", "other", "low", "high"] (defScope (top 32)) := ⟨rfl, rfl, rfl, by decide +kernel, rfl, by decide +kernel, by decide +kernel⟩
theorem fg_need_both (T : Tp K mg) (D_need_chase : Dn P w K mg base "need_chase" 3 ["low", "high"] S_need_chase) (D_need_log : Dn P w K mg base "need_log" 5 ["thing"] S_need_log) {fd : FuncData} (Fn : Fun K "need_both" "need_both" (top 32) (He.ga K "need_both") fd) : FnG P w K mg base 6 (He.ga K "need_both") fd ["one", "other", "low", "high"] S_need_both := by
  refine dfn 0 Fn sc_need_both len_need_both cels_need_both fun cdv A outer s H hr hA => ⟨_, (scons (sexpr (dcn D_need_log (hr.mono (by decide)) hA (acons (dv 0) anil))) (scons (sexpr (dcn D_need_log (hr.mono (by decide)) hA (acons (dv 1) anil))) (sone (sexpr (dcn D_need_chase (hr.mono (by decide)) hA (acons (dv 2) (acons (dv 3) anil))))))), fun as Q h => ?_⟩
  unfold S_need_both at h
  split at h
  · unfold q_need_both at h
    rename_i x0 x1 x2 x3
    refine at_env (b := [.dat x0, .dat x1, .dat x2, .dat x3]) rfl ?_
    exact Eq.mp (by kernel_rfl) h
  · exact h.elim
theorem ok_need_both (T : Tp K mg) (D_need_chase : Dn P w K mg base "need_chase" 3 ["low", "high"] S_need_chase) (D_need_log : Dn P w K mg base "need_log" 5 ["thing"] S_need_log) : Dn P w K mg base "need_both" 6 ["one", "other", "low", "high"] S_need_both := by
  obtain ⟨kV, doc, pm, an, cdv, ct, Fn⟩ := T.fun_ "need_both" (top 32) 20 85
  exact ⟨⟨_, fg_need_both T D_need_chase D_need_log Fn, Fn.binds (ps := ["one", "other", "low", "high"]) fun _ _ _ _ _ _ us hl => match us, hl with | [_, _, _, _], _ => rfl⟩, T.glo "need_both" 40, T.keep "need_both" 85⟩
def kk_nearest : RT → (PyData → Prop) := fun R v => R (.dat v) []
def S_nearest : DSp := fun as Q => match as with
  | [.dat x0, .dat x1, .dat x2, .dat x3] => q_nearest x0 x1 x2 x3 (kk_nearest Q)
  | _ => False
theorem len_nearest (as : List SD) (Q : SD → List SD → Prop) (h : S_nearest as Q) : as.length = 4 := by
  unfold S_nearest at h
  split at h
  · rfl
  · exact h.elim
theorem cels_nearest : CelsIn 0 S_nearest := by
  intro as Q h i p xs e
  unfold S_nearest at h
  split at h
  · exact absurd e (no_cel (ds := [_, _, _, _]) i p xs)
  · exact h.elim
def N_nearest : List Str := ["one", "other", "low", "high"]
theorem sc_nearest : FnScope N_nearest ["one", "other", "low", "high"] (defScope (top 33)) := ⟨rfl, rfl, rfl, by decide +kernel, rfl, by decide +kernel, by decide +kernel⟩
theorem fg_nearest (T : Tp K mg) (D_nearest_of : Dn P w K mg base "nearest_of" 4 ["one", "other", "low", "high"] S_nearest_of) (D_need_both : Dn P w K mg base "need_both" 6 ["one", "other", "low", "high"] S_need_both) {fd : FuncData} (Fn : Fun K "nearest" "nearest" (top 33) (He.ga K "nearest") fd) : FnG P w K mg base 7 (He.ga K "nearest") fd ["one", "other", "low", "high"] S_nearest := by
  refine dfn 0 Fn sc_nearest len_nearest cels_nearest fun cdv A outer s H hr hA => ⟨_, (scons (sexpr (dcn D_need_both (hr.mono (by decide)) hA (acons (dv 0) (acons (dv 1) (acons (dv 2) (acons (dv 3) anil)))))) (sone (sret (m := 0) (dx (dfrz (dcn D_nearest_of (hr.mono (by decide)) hA (acons (dv 0) (acons (dv 1) (acons (dv 2) (acons (dv 3) anil)))))))))), fun as Q h => ?_⟩
  unfold S_nearest at h
  split at h
  · unfold q_nearest at h
    rename_i x0 x1 x2 x3
    refine at_env (b := [.dat x0, .dat x1, .dat x2, .dat x3]) rfl ?_
    exact Eq.mp (by kernel_rfl) h
  · exact h.elim
theorem ok_nearest (T : Tp K mg) (D_nearest_of : Dn P w K mg base "nearest_of" 4 ["one", "other", "low", "high"] S_nearest_of) (D_need_both : Dn P w K mg base "need_both" 6 ["one", "other", "low", "high"] S_need_both) : Dn P w K mg base "nearest" 7 ["one", "other", "low", "high"] S_nearest := by
  obtain ⟨kV, doc, pm, an, cdv, ct, Fn⟩ := T.fun_ "nearest" (top 33) 21 86
  exact ⟨⟨_, fg_nearest T D_nearest_of D_need_both Fn, Fn.binds (ps := ["one", "other", "low", "high"]) fun _ _ _ _ _ _ us hl => match us, hl with | [_, _, _, _], _ => rfl⟩, T.glo "nearest" 41, T.keep "nearest" 86⟩
def kk_are_near_by : RT → (PyData → Prop) := fun R v => R (.dat v) []
def S_are_near_by : DSp := fun as Q => match as with
  | [.dat x0, .dat x1, .dat x2, .dat x3, .dat x4] => q_are_near_by x0 x1 x2 x3 x4 (kk_are_near_by Q)
  | _ => False
theorem len_are_near_by (as : List SD) (Q : SD → List SD → Prop) (h : S_are_near_by as Q) : as.length = 5 := by
  unfold S_are_near_by at h
  split at h
  · rfl
  · exact h.elim
theorem cels_are_near_by : CelsIn 0 S_are_near_by := by
  intro as Q h i p xs e
  unfold S_are_near_by at h
  split at h
  · exact absurd e (no_cel (ds := [_, _, _, _, _]) i p xs)
  · exact h.elim
def N_are_near_by : List Str := ["one", "other", "low", "high", "miles", "found"]
theorem sc_are_near_by : FnScope N_are_near_by ["one", "other", "low", "high", "miles"] (defScope (top 34)) := ⟨rfl, rfl, rfl, by decide +kernel, rfl, by decide +kernel, by decide +kernel⟩
theorem fg_are_near_by (T : Tp K mg) (D_nearest_of : Dn P w K mg base "nearest_of" 4 ["one", "other", "low", "high"] S_nearest_of) {fd : FuncData} (Fn : Fun K "are_near_by" "are_near_by" (top 34) (He.ga K "are_near_by") fd) : FnG P w K mg base 5 (He.ga K "are_near_by") fd ["one", "other", "low", "high", "miles"] S_are_near_by := by
  refine dfn 0 Fn sc_are_near_by len_are_near_by cels_are_near_by fun cdv A outer s H hr hA => ⟨_, (scons (sset 5 sc_are_near_by.nd (dcn D_nearest_of (hr.mono (by decide)) hA (acons (dv 0) (acons (dv 1) (acons (dv 2) (acons (dv 3) anil)))))) (sone (sret (m := 0) (dx (dandV (dnotN (dv 5)) (done (dcmp op_le opr_le (dixP (dixP (dv 5) di) di) (dmul (dmul (dv 4) (dv 4)) (dixP (dixP (dv 5) di) di)) (nomark _)))))))), fun as Q h => ?_⟩
  unfold S_are_near_by at h
  split at h
  · unfold q_are_near_by at h
    rename_i x0 x1 x2 x3 x4
    refine at_env (b := [.dat x0, .dat x1, .dat x2, .dat x3, .dat x4, .un]) rfl ?_
    exact Eq.mp (by kernel_rfl) h
  · exact h.elim
theorem ok_are_near_by (T : Tp K mg) (D_nearest_of : Dn P w K mg base "nearest_of" 4 ["one", "other", "low", "high"] S_nearest_of) : Dn P w K mg base "are_near_by" 5 ["one", "other", "low", "high", "miles"] S_are_near_by := by
  obtain ⟨kV, doc, pm, an, cdv, ct, Fn⟩ := T.fun_ "are_near_by" (top 34) 22 87
  exact ⟨⟨_, fg_are_near_by T D_nearest_of Fn, Fn.binds (ps := ["one", "other", "low", "high", "miles"]) fun _ _ _ _ _ _ us hl => match us, hl with | [_, _, _, _, _], _ => rfl⟩, T.glo "are_near_by" 42, T.keep "are_near_by" 87⟩
def kk_are_near : RT → (PyData → Prop) := fun R v => R (.dat v) []
def S_are_near : DSp := fun as Q => match as with
  | [.dat x0, .dat x1, .dat x2, .dat x3, .dat x4] => q_are_near x0 x1 x2 x3 x4 (kk_are_near Q)
  | _ => False
theorem len_are_near (as : List SD) (Q : SD → List SD → Prop) (h : S_are_near as Q) : as.length = 5 := by
  unfold S_are_near at h
  split at h
  · rfl
  · exact h.elim
theorem cels_are_near : CelsIn 0 S_are_near := by
  intro as Q h i p xs e
  unfold S_are_near at h
  split at h
  · exact absurd e (no_cel (ds := [_, _, _, _, _]) i p xs)
  · exact h.elim
def N_are_near : List Str := ["one", "other", "low", "high", "miles"]
theorem sc_are_near : FnScope N_are_near ["one", "other", "low", "high", "miles"] (defScope (top 35)) := ⟨rfl, rfl, rfl, by decide +kernel, rfl, by decide +kernel, by decide +kernel⟩
theorem fg_are_near (T : Tp K mg) (D_are_near_by : Dn P w K mg base "are_near_by" 5 ["one", "other", "low", "high", "miles"] S_are_near_by) (D_is_whole : Dn P w K mg base "is_whole" 1 ["thing"] S_is_whole) (D_need_both : Dn P w K mg base "need_both" 6 ["one", "other", "low", "high"] S_need_both) {fd : FuncData} (Fn : Fun K "are_near" "are_near" (top 35) (He.ga K "are_near") fd) : FnG P w K mg base 7 (He.ga K "are_near") fd ["one", "other", "low", "high", "miles"] S_are_near := by
  refine dfn 0 Fn sc_are_near len_are_near cels_are_near fun cdv A outer s H hr hA => ⟨_, (scons (sexpr (dcn D_need_both (hr.mono (by decide)) hA (acons (dv 0) (acons (dv 1) (acons (dv 2) (acons (dv 3) anil)))))) (scons (sif (tor (tnot (dtest (dfrz (dcn D_is_whole (hr.mono (by decide)) hA (acons (dv 4) anil))))) (tor1 (tnot (dchainT op_le op_le opr_le opr_le di (dv 4) (dnum (c_MOST_MILES T)))))).pt (sone snever) snil) (sone (sret (m := 0) (dx (dfrz (dcn D_are_near_by (hr.mono (by decide)) hA (acons (dv 0) (acons (dv 1) (acons (dv 2) (acons (dv 3) (acons (dv 4) anil)))))))))))), fun as Q h => ?_⟩
  unfold S_are_near at h
  split at h
  · unfold q_are_near at h
    rename_i x0 x1 x2 x3 x4
    refine at_env (b := [.dat x0, .dat x1, .dat x2, .dat x3, .dat x4]) rfl ?_
    exact Eq.mp (by kernel_rfl) h
  · exact h.elim
theorem ok_are_near (T : Tp K mg) (D_are_near_by : Dn P w K mg base "are_near_by" 5 ["one", "other", "low", "high", "miles"] S_are_near_by) (D_is_whole : Dn P w K mg base "is_whole" 1 ["thing"] S_is_whole) (D_need_both : Dn P w K mg base "need_both" 6 ["one", "other", "low", "high"] S_need_both) : Dn P w K mg base "are_near" 7 ["one", "other", "low", "high", "miles"] S_are_near := by
  obtain ⟨kV, doc, pm, an, cdv, ct, Fn⟩ := T.fun_ "are_near" (top 35) 23 88
  exact ⟨⟨_, fg_are_near T D_are_near_by D_is_whole D_need_both Fn, Fn.binds (ps := ["one", "other", "low", "high", "miles"]) fun _ _ _ _ _ _ us hl => match us, hl with | [_, _, _, _, _], _ => rfl⟩, T.glo "are_near" 43, T.keep "are_near" 88⟩
def kk_law_pot_of : RT → (List PyData → Prop) := fun R v => R (.cel false v) []
def S_law_pot_of : DSp := fun as Q => match as with
  | [.dat x0] => q_law_pot_of x0 (kk_law_pot_of Q)
  | _ => False
theorem len_law_pot_of (as : List SD) (Q : SD → List SD → Prop) (h : S_law_pot_of as Q) : as.length = 1 := by
  unfold S_law_pot_of at h
  split at h
  · rfl
  · exact h.elim
theorem cels_law_pot_of : CelsIn 0 S_law_pot_of := by
  intro as Q h i p xs e
  unfold S_law_pot_of at h
  split at h
  · exact absurd e (no_cel (ds := [_]) i p xs)
  · exact h.elim
def N_law_pot_of : List Str := ["_law_script"]
theorem sc_law_pot_of : FnScope N_law_pot_of ["_law_script"] (defScope (top 37)) := ⟨rfl, rfl, rfl, by decide +kernel, rfl, by decide +kernel, by decide +kernel⟩
theorem fg_law_pot_of (T : Tp K mg)  {fd : FuncData} (Fn : Fun K "_law_pot_of" "_law_pot_of" (top 37) (He.ga K "_law_pot_of") fd) : FnG P w K mg base 1 (He.ga K "_law_pot_of") fd ["_law_script"] S_law_pot_of := by
  refine dfn 0 Fn sc_law_pot_of len_law_pot_of cels_law_pot_of fun cdv A outer s H hr hA => ⟨_, (sone (sret (m := 0) (dlst (acons (dfrz (dlistOf (m_list T) (acons (dsl (dv 0) so_none (so_some di)) anil))) (acons di (acons di (acons di (acons di anil)))))))), fun as Q h => ?_⟩
  unfold S_law_pot_of at h
  split at h
  · unfold q_law_pot_of at h
    rename_i x0
    refine at_env (b := [.dat x0]) rfl ?_
    exact Eq.mp (by kernel_rfl) h
  · exact h.elim
theorem ok_law_pot_of (T : Tp K mg)  : Dn P w K mg base "_law_pot_of" 1 ["_law_script"] S_law_pot_of := by
  obtain ⟨kV, doc, pm, an, cdv, ct, Fn⟩ := T.fun_ "_law_pot_of" (top 37) 24 89
  exact ⟨⟨_, fg_law_pot_of T  Fn, Fn.binds (ps := ["_law_script"]) fun _ _ _ _ _ _ us hl => match us, hl with | [_], _ => rfl⟩, T.glo "_law_pot_of" 44, T.keep "_law_pot_of" 89⟩
def kk_law_mixed : RT → (PyData → Prop) := fun R v => R (.dat v) []
def S_law_mixed : DSp := fun as Q => match as with
  | [.dat x0, .dat x1] => q_law_mixed x0 x1 (kk_law_mixed Q)
  | _ => False
theorem len_law_mixed (as : List SD) (Q : SD → List SD → Prop) (h : S_law_mixed as Q) : as.length = 2 := by
  unfold S_law_mixed at h
  split at h
  · rfl
  · exact h.elim
theorem cels_law_mixed : CelsIn 0 S_law_mixed := by
  intro as Q h i p xs e
  unfold S_law_mixed at h
  split at h
  · exact absurd e (no_cel (ds := [_, _]) i p xs)
  · exact h.elim
def N_law_mixed : List Str := ["_law_seed", "_law_turn", "_law_primes", "_law_one", "_law_two"]
theorem sc_law_mixed : FnScope N_law_mixed ["_law_seed", "_law_turn"] (defScope (top 38)) := ⟨rfl, rfl, rfl, by decide +kernel, rfl, by decide +kernel, by decide +kernel⟩
theorem fg_law_mixed (T : Tp K mg)  {fd : FuncData} (Fn : Fun K "_law_mixed" "_law_mixed" (top 38) (He.ga K "_law_mixed") fd) : FnG P w K mg base 1 (He.ga K "_law_mixed") fd ["_law_seed", "_law_turn"] S_law_mixed := by
  refine dfn 0 Fn sc_law_mixed len_law_mixed cels_law_mixed fun cdv A outer s H hr hA => ⟨_, (scons (sset 2 sc_law_mixed.nd (dx (dfrz (dlst (acons di (acons di (acons di (acons di anil)))))))) (scons (sset 2 sc_law_mixed.nd (dx (dadd (dv 2) (dfrz (dlst (acons di (acons di (acons di anil)))))))) (scons (sset 3 sc_law_mixed.nd (dx (dmod (dpow (dadd (dadd (dv 0) (dmul di (dv 1))) di) di) (dixP (dv 2) (dmod (dv 1) di))))) (scons (sset 4 sc_law_mixed.nd (dx (dadd (dadd (dadd (dmul (dv 3) di) (dmul (dmul di (dv 1)) (dv 1))) (dmod (dv 0) di)) di))) (scons (sset 4 sc_law_mixed.nd (dx (dmod (dpow (dv 4) di) (dixP (dv 2) (dmod (dadd (dv 1) di) di))))) (sone (sret (m := 0) (dx (ddiv (dmod (dadd (dmul (dv 4) (dv 4)) (dv 3)) (dixP (dv 2) (dmod (dadd (dv 1) di) di))) di))))))))), fun as Q h => ?_⟩
  unfold S_law_mixed at h
  split at h
  · unfold q_law_mixed at h
    rename_i x0 x1
    refine at_env (b := [.dat x0, .dat x1, .un, .un, .un]) rfl ?_
    exact Eq.mp (by kernel_rfl) h
  · exact h.elim
theorem ok_law_mixed (T : Tp K mg)  : Dn P w K mg base "_law_mixed" 1 ["_law_seed", "_law_turn"] S_law_mixed := by
  obtain ⟨kV, doc, pm, an, cdv, ct, Fn⟩ := T.fun_ "_law_mixed" (top 38) 25 90
  exact ⟨⟨_, fg_law_mixed T  Fn, Fn.binds (ps := ["_law_seed", "_law_turn"]) fun _ _ _ _ _ _ us hl => match us, hl with | [_, _], _ => rfl⟩, T.glo "_law_mixed" 45, T.keep "_law_mixed" 90⟩
def kk_law_draw : RT → (PyData → List PyData → Prop) := fun R v c => R (.dat v) [.cel true c]
def S_law_draw : DSp := fun as Q => match as with
  | [.cel true x0, .dat x1] => q_law_draw x0 x1 (kk_law_draw Q)
  | _ => False
theorem len_law_draw (as : List SD) (Q : SD → List SD → Prop) (h : S_law_draw as Q) : as.length = 2 := by
  unfold S_law_draw at h
  split at h
  · rfl
  · exact h.elim
theorem cels_law_draw : CelsIn 1 S_law_draw := by
  intro as Q h i p xs e
  unfold S_law_draw at h
  split at h
  · exact cels1 (ds := [_]) e
  · exact h.elim
def N_law_draw : List Str := ["_law_pot", "_law_many", "_law_cell", "_law_digit"]
theorem sc_law_draw : FnScope N_law_draw ["_law_pot", "_law_many"] (defScope (top 39)) := ⟨rfl, rfl, rfl, by decide +kernel, rfl, by decide +kernel, by decide +kernel⟩
theorem fg_law_draw (T : Tp K mg) (D_law_mixed : Dn P w K mg base "_law_mixed" 1 ["_law_seed", "_law_turn"] S_law_mixed) {fd : FuncData} (Fn : Fun K "_law_draw" "_law_draw" (top 39) (He.ga K "_law_draw") fd) : FnG P w K mg base 2 (He.ga K "_law_draw") fd ["_law_pot", "_law_many"] S_law_draw := by
  refine dfn 1 Fn sc_law_draw len_law_draw cels_law_draw fun cdv A outer s H hr hA => ⟨_, (scons (sif (tand (dcmpT (op_eqE hr.units) opd_eq (dixC 0 di) di (nomark _)) (tand1 (dcmpT op_lt opr_lt (dixC 0 di) (dlen (m_len T) (acons (dixC 0 di) anil)) (nomark _)))).pt (scons (sset 2 sc_law_draw.nd (dx (dixP (dixC 0 di) (dixC 0 di)))) (scons (ssetC 0 (dadd (dixC 0 di) di) di) (scons (ssetC 0 (dmod (dadd (dmul (dixC 0 di) di) (dv 2)) di) di) (sone (sif (dcmpT op_ge opr_ge (dv 2) (dpow di di) (nomark _)) (sone (ssetC 0 (dv 2) di)) snil))))) snil) (ssforget [2] (scons (sif (dcmpT op_gt opr_gt (dixC 0 di) di (nomark _)) (scons (sset 3 sc_law_draw.nd (dx (dmod (dixC 0 di) (dv 1)))) (scons (ssetC 0 (ddiv (dixC 0 di) (dv 1)) di) (sone (sret (m := 1) (dx (dv 3)))))) snil) (scons (ssetC 0 (dadd (dixC 0 di) di) di) (sone (sret (m := 1) (dx (dmod (dfrz (dcn D_law_mixed (hr.mono (by decide)) hA (acons (dixC 0 di) (acons (dixC 0 di) anil)))) (dv 1))))))))), fun as Q h => ?_⟩
  unfold S_law_draw at h
  split at h
  · unfold q_law_draw at h
    rename_i x0 x1
    refine at_env (b := [.cel true x0, .dat x1, .un, .un]) rfl ?_
    exact Eq.mp (by kernel_rfl) h
  · exact h.elim
theorem ok_law_draw (T : Tp K mg) (D_law_mixed : Dn P w K mg base "_law_mixed" 1 ["_law_seed", "_law_turn"] S_law_mixed) : Dn P w K mg base "_law_draw" 2 ["_law_pot", "_law_many"] S_law_draw := by
  obtain ⟨kV, doc, pm, an, cdv, ct, Fn⟩ := T.fun_ "_law_draw" (top 39) 26 91
  exact ⟨⟨_, fg_law_draw T D_law_mixed Fn, Fn.binds (ps := ["_law_pot", "_law_many"]) fun _ _ _ _ _ _ us hl => match us, hl with | [_, _], _ => rfl⟩, T.glo "_law_draw" 46, T.keep "_law_draw" 91⟩
def kk_law_wide : RT → (PyData → List PyData → Prop) := fun R v c => R (.dat v) [.cel true c]
def em_law_wide_1 (i : PyData) (s : List PyData × PyData) : List SD := [.cel true s.1, .dat i, .dat s.2, .un]
def de_law_wide_1 : List SD → Option ((PyData) × (List PyData × PyData))
  | [.cel true x0, .dat x1, .dat x2, .un] => some (x1, (x0, x2))
  | _ => none
theorem hde_law_wide_1 : ∀ env i s, de_law_wide_1 env = some (i, s) → env = em_law_wide_1 i s := by
  intro env i s h
  unfold de_law_wide_1 at h
  split at h
  · cases h; rfl
  · cases h
def S_law_wide : DSp := fun as Q => match as with
  | [.cel true x0, .dat x1] => q_law_wide x0 x1 (kk_law_wide Q)
  | _ => False
theorem len_law_wide (as : List SD) (Q : SD → List SD → Prop) (h : S_law_wide as Q) : as.length = 2 := by
  unfold S_law_wide at h
  split at h
  · rfl
  · exact h.elim
theorem cels_law_wide : CelsIn 1 S_law_wide := by
  intro as Q h i p xs e
  unfold S_law_wide at h
  split at h
  · exact cels1 (ds := [_]) e
  · exact h.elim
def N_law_wide : List Str := ["_law_pot", "_law_many", "_law_number", "_law_turn"]
theorem sc_law_wide : FnScope N_law_wide ["_law_pot", "_law_many"] (defScope (top 40)) := ⟨rfl, rfl, rfl, by decide +kernel, rfl, by decide +kernel, by decide +kernel⟩
theorem fg_law_wide (T : Tp K mg) (D_law_draw : Dn P w K mg base "_law_draw" 2 ["_law_pot", "_law_many"] S_law_draw) {fd : FuncData} (Fn : Fun K "_law_wide" "_law_wide" (top 40) (He.ga K "_law_wide") fd) : FnG P w K mg base 3 (He.ga K "_law_wide") fd ["_law_pot", "_law_many"] S_law_wide := by
  refine dfn 1 Fn sc_law_wide len_law_wide cels_law_wide fun cdv A outer s H hr hA => ⟨_, (scons (sset 2 sc_law_wide.nd (dx di)) (scons (sforQ [3] de_law_wide_1 em_law_wide_1 kk_law_wide qb_law_wide_1 hde_law_wide_1 PassesOwn.never rfl (irange1 (m_range T) (acons (dadd di (ddiv (dlen (m_len T) (acons (dstrOf (m_str T) (acons (dv 1) anil)) anil)) di)) anil)) (gn 3 sc_law_wide.nd) (sone (sset 2 sc_law_wide.nd (dx (dadd (dmul (dv 2) (dpow di di)) (dfrz (dcnC 0 D_law_draw (hr.mono (by decide)) hA (acons (dpow di di) anil))))))) (fun R d i s nx bk h => Eq.mp (by kernel_rfl) h)) (sone (sret (m := 1) (dx (dmod (dv 2) (dv 1))))))), fun as Q h => ?_⟩
  unfold S_law_wide at h
  split at h
  · unfold q_law_wide at h
    rename_i x0 x1
    refine at_env (b := [.cel true x0, .dat x1, .un, .un]) rfl ?_
    exact Eq.mp (by kernel_rfl) h
  · exact h.elim
theorem ok_law_wide (T : Tp K mg) (D_law_draw : Dn P w K mg base "_law_draw" 2 ["_law_pot", "_law_many"] S_law_draw) : Dn P w K mg base "_law_wide" 3 ["_law_pot", "_law_many"] S_law_wide := by
  obtain ⟨kV, doc, pm, an, cdv, ct, Fn⟩ := T.fun_ "_law_wide" (top 40) 27 92
  exact ⟨⟨_, fg_law_wide T D_law_draw Fn, Fn.binds (ps := ["_law_pot", "_law_many"]) fun _ _ _ _ _ _ us hl => match us, hl with | [_, _], _ => rfl⟩, T.glo "_law_wide" 47, T.keep "_law_wide" 92⟩
def kk_law_common : RT → (PyData → Prop) := fun R v => R (.dat v) []
def em_law_common_1 (i : Unit) (s : PyData × PyData) : List SD := [.dat s.1, .dat s.2]
def de_law_common_1 : List SD → Option ((Unit) × (PyData × PyData))
  | [.dat x0, .dat x1] => some ((), (x0, x1))
  | _ => none
theorem hde_law_common_1 : ∀ env i s, de_law_common_1 env = some (i, s) → env = em_law_common_1 i s := by
  intro env i s h
  unfold de_law_common_1 at h
  split at h
  · cases h; rfl
  · cases h
def S_law_common : DSp := fun as Q => match as with
  | [.dat x0, .dat x1] => q_law_common x0 x1 (kk_law_common Q)
  | _ => False
theorem len_law_common (as : List SD) (Q : SD → List SD → Prop) (h : S_law_common as Q) : as.length = 2 := by
  unfold S_law_common at h
  split at h
  · rfl
  · exact h.elim
theorem cels_law_common : CelsIn 0 S_law_common := by
  intro as Q h i p xs e
  unfold S_law_common at h
  split at h
  · exact absurd e (no_cel (ds := [_, _]) i p xs)
  · exact h.elim
def N_law_common : List Str := ["_law_one", "_law_other"]
theorem sc_law_common : FnScope N_law_common ["_law_one", "_law_other"] (defScope (top 41)) := ⟨rfl, rfl, rfl, by decide +kernel, rfl, by decide +kernel, by decide +kernel⟩
theorem fg_law_common (T : Tp K mg)  {fd : FuncData} (Fn : Fun K "_law_common" "_law_common" (top 41) (He.ga K "_law_common") fd) : FnG P w K mg base 1 (He.ga K "_law_common") fd ["_law_one", "_law_other"] S_law_common := by
  refine dfn 0 Fn sc_law_common len_law_common cels_law_common fun cdv A outer s H hr hA => ⟨_, (scons (swhileQ [] de_law_common_1 em_law_common_1 kk_law_common qb_law_common_1 hde_law_common_1 PassesOwn.never (dcmpT (op_neE hr.units) opd_ne (dv 1) di (nomark _)) (sone (spar 0 1 rfl sc_law_common.nd (acons (dv 1) (acons (dmod (dv 0) (dv 1)) anil)))) (fun R i s nx bk h => Eq.mp (by kernel_rfl) h)) (sone (sret (m := 0) (dx (dabs (m_abs T) (acons (dv 0) anil)))))), fun as Q h => ?_⟩
  unfold S_law_common at h
  split at h
  · unfold q_law_common at h
    rename_i x0 x1
    refine at_env (b := [.dat x0, .dat x1]) rfl ?_
    exact Eq.mp (by kernel_rfl) h
  · exact h.elim
theorem ok_law_common (T : Tp K mg)  : Dn P w K mg base "_law_common" 1 ["_law_one", "_law_other"] S_law_common := by
  obtain ⟨kV, doc, pm, an, cdv, ct, Fn⟩ := T.fun_ "_law_common" (top 41) 28 93
  exact ⟨⟨_, fg_law_common T  Fn, Fn.binds (ps := ["_law_one", "_law_other"]) fun _ _ _ _ _ _ us hl => match us, hl with | [_, _], _ => rfl⟩, T.glo "_law_common" 48, T.keep "_law_common" 93⟩
def kk_law_terms : RT → (PyData → Prop) := fun R v => R (.dat v) []
def S_law_terms : DSp := fun as Q => match as with
  | [.dat x0, .dat x1] => q_law_terms x0 x1 (kk_law_terms Q)
  | _ => False
theorem len_law_terms (as : List SD) (Q : SD → List SD → Prop) (h : S_law_terms as Q) : as.length = 2 := by
  unfold S_law_terms at h
  split at h
  · rfl
  · exact h.elim
theorem cels_law_terms : CelsIn 0 S_law_terms := by
  intro as Q h i p xs e
  unfold S_law_terms at h
  split at h
  · exact absurd e (no_cel (ds := [_, _]) i p xs)
  · exact h.elim
def N_law_terms : List Str := ["_law_top", "_law_bottom", "_law_by"]
theorem sc_law_terms : FnScope N_law_terms ["_law_top", "_law_bottom"] (defScope (top 42)) := ⟨rfl, rfl, rfl, by decide +kernel, rfl, by decide +kernel, by decide +kernel⟩
theorem fg_law_terms (T : Tp K mg) (D_law_common : Dn P w K mg base "_law_common" 1 ["_law_one", "_law_other"] S_law_common) {fd : FuncData} (Fn : Fun K "_law_terms" "_law_terms" (top 42) (He.ga K "_law_terms") fd) : FnG P w K mg base 2 (He.ga K "_law_terms") fd ["_law_top", "_law_bottom"] S_law_terms := by
  refine dfn 0 Fn sc_law_terms len_law_terms cels_law_terms fun cdv A outer s H hr hA => ⟨_, (scons (sset 2 sc_law_terms.nd (dx (dmul (dfrz (dcn D_law_common (hr.mono (by decide)) hA (acons (dv 0) (acons (dv 1) anil)))) (dixP (dfrz (dlst (acons di (acons (dneg di) anil)))) (dintOf (m_int T) (acons (dcmp op_lt opr_lt (dv 1) di (nomark _)) anil)))))) (sone (sret (m := 0) (dx (dtup (acons (ddiv (dv 0) (dv 2)) (acons (ddiv (dv 1) (dv 2)) anil))))))), fun as Q h => ?_⟩
  unfold S_law_terms at h
  split at h
  · unfold q_law_terms at h
    rename_i x0 x1
    refine at_env (b := [.dat x0, .dat x1, .un]) rfl ?_
    exact Eq.mp (by kernel_rfl) h
  · exact h.elim
theorem ok_law_terms (T : Tp K mg) (D_law_common : Dn P w K mg base "_law_common" 1 ["_law_one", "_law_other"] S_law_common) : Dn P w K mg base "_law_terms" 2 ["_law_top", "_law_bottom"] S_law_terms := by
  obtain ⟨kV, doc, pm, an, cdv, ct, Fn⟩ := T.fun_ "_law_terms" (top 42) 29 94
  exact ⟨⟨_, fg_law_terms T D_law_common Fn, Fn.binds (ps := ["_law_top", "_law_bottom"]) fun _ _ _ _ _ _ us hl => match us, hl with | [_, _], _ => rfl⟩, T.glo "_law_terms" 49, T.keep "_law_terms" 94⟩
def kk_law_log : RT → (PyData → List PyData → Prop) := fun R v c => R (.dat v) [.cel true c]
def em_law_log_1 (i : PyData × PyData) (s : List PyData × PyData × List PyData) : List SD := [.cel true s.1, .un, .un, .dat i.1, .dat i.2, .dat s.2.1, .cel false s.2.2, .un]
def de_law_log_1 : List SD → Option ((PyData × PyData) × (List PyData × PyData × List PyData))
  | [.cel true x0, .un, .un, .dat x3, .dat x4, .dat x5, .cel false x6, .un] => some ((x3, x4), (x0, x5, x6))
  | _ => none
theorem hde_law_log_1 : ∀ env i s, de_law_log_1 env = some (i, s) → env = em_law_log_1 i s := by
  intro env i s h
  unfold de_law_log_1 at h
  split at h
  · cases h; rfl
  · cases h
def S_law_log : DSp := fun as Q => match as with
  | [.cel true x0, .dat x1] => q_law_log x0 x1 (kk_law_log Q)
  | _ => False
theorem len_law_log (as : List SD) (Q : SD → List SD → Prop) (h : S_law_log as Q) : as.length = 2 := by
  unfold S_law_log at h
  split at h
  · rfl
  · exact h.elim
theorem cels_law_log : CelsIn 1 S_law_log := by
  intro as Q h i p xs e
  unfold S_law_log at h
  split at h
  · exact cels1 (ds := [_]) e
  · exact h.elim
def N_law_log : List Str := ["_law_pot", "_law_most", "_law_many", "_law_gap_here", "_law_far", "_law_hour", "_law_rows", "_law_turn"]
theorem sc_law_log : FnScope N_law_log ["_law_pot", "_law_most"] (defScope (top 43)) := ⟨rfl, rfl, rfl, by decide +kernel, rfl, by decide +kernel, by decide +kernel⟩
theorem fg_law_log (T : Tp K mg) (D_law_draw : Dn P w K mg base "_law_draw" 2 ["_law_pot", "_law_many"] S_law_draw) {fd : FuncData} (Fn : Fun K "_law_log" "_law_log" (top 43) (He.ga K "_law_log") fd) : FnG P w K mg base 3 (He.ga K "_law_log") fd ["_law_pot", "_law_most"] S_law_log := by
  refine dfn 1 Fn sc_law_log len_law_log cels_law_log fun cdv A outer s H hr hA => ⟨_, (scons (sset 2 sc_law_log.nd (dx (dixP (dfrz (dlst (acons di (acons di (acons (dadd di (dfrz (dcnC 0 D_law_draw (hr.mono (by decide)) hA (acons (dv 1) anil)))) (acons (dv 1) anil)))))) (dfrz (dcnC 0 D_law_draw (hr.mono (by decide)) hA (acons di anil)))))) (scons (sset 3 sc_law_log.nd (dx (dixP (dfrz (dlst (acons di (acons di (acons di (acons di anil)))))) (dfrz (dcnC 0 D_law_draw (hr.mono (by decide)) hA (acons di anil)))))) (scons (sset 4 sc_law_log.nd (dx (dixP (dfrz (dlst (acons di (acons di (acons (dpow di di) anil))))) (dfrz (dcnC 0 D_law_draw (hr.mono (by decide)) hA (acons di anil)))))) (scons (sset 5 sc_law_log.nd (dx (dixP (dfrz (dlst (acons di (acons (dfrz (dcnC 0 D_law_draw (hr.mono (by decide)) hA (acons di anil))) (acons (dfrz (dcnC 0 D_law_draw (hr.mono (by decide)) hA (acons (dadd (dsub (dpow di di) (dmul (dv 2) (dv 3))) di) anil))) anil))))) (dfrz (dcnC 0 D_law_draw (hr.mono (by decide)) hA (acons di anil)))))) (scons (sset 6 sc_law_log.nd (dlst anil)) (ssforget [1] (scons (sforQ [2, 7] de_law_log_1 em_law_log_1 kk_law_log qb_law_log_1 hde_law_log_1 PassesOwn.never rfl (irange1 (m_range T) (acons (dv 2) anil)) (gn 7 sc_law_log.nd) (scons (sapp 6 (dtup (acons (dv 5) (acons (dsub (dfrz (dcnC 0 D_law_draw (hr.mono (by decide)) hA (acons (dadd (dmul di (dv 4)) di) anil))) (dv 4)) (acons (dsub (dfrz (dcnC 0 D_law_draw (hr.mono (by decide)) hA (acons (dadd (dmul di (dv 4)) di) anil))) (dv 4)) anil))))) (sone (sset 5 sc_law_log.nd (dx (dadd (dadd (dv 5) di) (dfrz (dcnC 0 D_law_draw (hr.mono (by decide)) hA (acons (dv 3) anil)))))))) (fun R d i s nx bk h => Eq.mp (by kernel_rfl) h)) (sone (sret (m := 1) (dx (dtupC 6 (m_tuple T)))))))))))), fun as Q h => ?_⟩
  unfold S_law_log at h
  split at h
  · unfold q_law_log at h
    rename_i x0 x1
    refine at_env (b := [.cel true x0, .dat x1, .un, .un, .un, .un, .un, .un]) rfl ?_
    exact Eq.mp (by kernel_rfl) h
  · exact h.elim
theorem ok_law_log (T : Tp K mg) (D_law_draw : Dn P w K mg base "_law_draw" 2 ["_law_pot", "_law_many"] S_law_draw) : Dn P w K mg base "_law_log" 3 ["_law_pot", "_law_most"] S_law_log := by
  obtain ⟨kV, doc, pm, an, cdv, ct, Fn⟩ := T.fun_ "_law_log" (top 43) 30 95
  exact ⟨⟨_, fg_law_log T D_law_draw Fn, Fn.binds (ps := ["_law_pot", "_law_most"]) fun _ _ _ _ _ _ us hl => match us, hl with | [_, _], _ => rfl⟩, T.glo "_law_log" 50, T.keep "_law_log" 95⟩
def kk_law_plain : RT → (PyData → Prop) := fun R v => R (.dat v) []
def S_law_plain : DSp := fun as Q => match as with
  | [.dat x0] => q_law_plain x0 (kk_law_plain Q)
  | _ => False
theorem len_law_plain (as : List SD) (Q : SD → List SD → Prop) (h : S_law_plain as Q) : as.length = 1 := by
  unfold S_law_plain at h
  split at h
  · rfl
  · exact h.elim
theorem cels_law_plain : CelsIn 0 S_law_plain := by
  intro as Q h i p xs e
  unfold S_law_plain at h
  split at h
  · exact absurd e (no_cel (ds := [_]) i p xs)
  · exact h.elim
def N_law_plain : List Str := ["_law_number"]
theorem sc_law_plain : FnScope N_law_plain ["_law_number"] (defScope (top 44)) := ⟨rfl, rfl, rfl, by decide +kernel, rfl, by decide +kernel, by decide +kernel⟩
theorem fg_law_plain (T : Tp K mg)  {fd : FuncData} (Fn : Fun K "_law_plain" "_law_plain" (top 44) (He.ga K "_law_plain") fd) : FnG P w K mg base 1 (He.ga K "_law_plain") fd ["_law_number"] S_law_plain := by
  refine dfn 0 Fn sc_law_plain len_law_plain cels_law_plain fun cdv A outer s H hr hA => ⟨_, (sone (sret (m := 0) (dx (dandV (disi "int" "int" (m_isinstance T) (m_int T) (by decide +kernel) (by decide +kernel) (dv 0)) (done (dnotV (disi "bool" "bool" (m_isinstance T) (m_bool T) (by decide +kernel) (by decide +kernel) (dv 0)))))))), fun as Q h => ?_⟩
  unfold S_law_plain at h
  split at h
  · unfold q_law_plain at h
    rename_i x0
    refine at_env (b := [.dat x0]) rfl ?_
    exact Eq.mp (by kernel_rfl) h
  · exact h.elim
theorem ok_law_plain (T : Tp K mg)  : Dn P w K mg base "_law_plain" 1 ["_law_number"] S_law_plain := by
  obtain ⟨kV, doc, pm, an, cdv, ct, Fn⟩ := T.fun_ "_law_plain" (top 44) 31 96
  exact ⟨⟨_, fg_law_plain T  Fn, Fn.binds (ps := ["_law_number"]) fun _ _ _ _ _ _ us hl => match us, hl with | [_], _ => rfl⟩, T.glo "_law_plain" 51, T.keep "_law_plain" 96⟩
def kk_law_is_log : RT → (PyData → Prop) := fun R v => R (.dat v) []
def em_law_is_log_1 (i : Unit) (s : PyData) : List SD := [.un, .dat s, .un, .un]
def de_law_is_log_1 : List SD → Option ((Unit) × (PyData))
  | [.un, .dat x1, .un, .un] => some ((), x1)
  | _ => none
theorem hde_law_is_log_1 : ∀ env i s, de_law_is_log_1 env = some (i, s) → env = em_law_is_log_1 i s := by
  intro env i s h
  unfold de_law_is_log_1 at h
  split at h
  · cases h; rfl
  · cases h
def em_law_is_log_2 (i : PyData × PyData) (s : Unit) : List SD := [.un, .dat i.1, .dat i.2, .un]
def de_law_is_log_2 : List SD → Option ((PyData × PyData) × (Unit))
  | [.un, .dat x1, .dat x2, .un] => some ((x1, x2), ())
  | _ => none
theorem hde_law_is_log_2 : ∀ env i s, de_law_is_log_2 env = some (i, s) → env = em_law_is_log_2 i s := by
  intro env i s h
  unfold de_law_is_log_2 at h
  split at h
  · cases h; rfl
  · cases h
def S_law_is_log : DSp := fun as Q => match as with
  | [.dat x0] => q_law_is_log x0 (kk_law_is_log Q)
  | _ => False
theorem len_law_is_log (as : List SD) (Q : SD → List SD → Prop) (h : S_law_is_log as Q) : as.length = 1 := by
  unfold S_law_is_log at h
  split at h
  · rfl
  · exact h.elim
theorem cels_law_is_log : CelsIn 0 S_law_is_log := by
  intro as Q h i p xs e
  unfold S_law_is_log at h
  split at h
  · exact absurd e (no_cel (ds := [_]) i p xs)
  · exact h.elim
def N_law_is_log : List Str := ["_law_thing", "_law_last", "_law_row", "_law_one"]
theorem sc_law_is_log : FnScope N_law_is_log ["_law_thing"] (defScope (top 45)) := ⟨rfl, rfl, rfl, by decide +kernel, rfl, by decide +kernel, by decide +kernel⟩
theorem fg_law_is_log (T : Tp K mg) (D_law_plain : Dn P w K mg base "_law_plain" 1 ["_law_number"] S_law_plain) {fd : FuncData} (Fn : Fun K "_law_is_log" "_law_is_log" (top 45) (He.ga K "_law_is_log") fd) : FnG P w K mg base 2 (He.ga K "_law_is_log") fd ["_law_thing"] S_law_is_log := by
  refine dfn 0 Fn sc_law_is_log len_law_is_log cels_law_is_log fun cdv A outer s H hr hA => ⟨_, (scons (sif (tor (tnot (dtest (disi "tuple" "tuple" (m_isinstance T) (m_tuple T) (by decide +kernel) (by decide +kernel) (dv 0)))) (tor1 (tnot (dchainT op_le op_le opr_le opr_le di (dlen (m_len T) (acons (dv 0) anil)) di)))).pt (sone (sret (m := 0) (dx db))) snil) (scons (sset 1 sc_law_is_log.nd (dx (dneg di))) (scons (sforQ [0, 2] de_law_is_log_1 em_law_is_log_1 kk_law_is_log qb_law_is_log_1 hde_law_is_log_1 PassesOwn.never rfl (iseq (dv 0)) (gn 2 sc_law_is_log.nd) (scons (sif (tor (tnot (dtest (disi "tuple" "tuple" (m_isinstance T) (m_tuple T) (by decide +kernel) (by decide +kernel) (dv 2)))) (tor (dcmpT (op_neE hr.units) opd_ne (dlen (m_len T) (acons (dv 2) anil)) di (nomark _)) (tor1 (dcmpT (op_empN hr.units) opd_emp (dfrz (dlc (dec := de_law_is_log_2) (emb := em_law_is_log_2) (qb := qb_law_is_log_2) [("_law_one", 3)] (.one 3) hde_law_is_log_2 rfl sc_law_is_log.nd (iseq (dv 2)) (blkOk_by (own := [("_law_one", 3)]) (N := N_law_is_log) (sc := defScope (top 45)) (by decide +kernel)) (fun _ _ _ _ _ => pg_name (i := 3) sc_law_is_log.nd rfl (Or.inl rfl)) (fun _ _ _ _ _ => tif1 (tnot (dtest (dfrz (dcn D_law_plain (hr.mono (by decide)) hA (acons (dv 3) anil)))))) (fun _ _ _ _ _ => (dv 3)) (fun d i s sk yd h => Eq.mp (by kernel_rfl) h))) (dfrz (dlst anil)) (nomark _))))).pt (sone (sret (m := 0) (dx db))) snil) (scons (sif (tor (tnot (dchainT op_lt op_le opr_lt opr_le (dv 1) (dixP (dv 2) di) (dpow di di))) (tor (dcmpT op_gt opr_gt (dabs (m_abs T) (acons (dixP (dv 2) di) anil)) (dpow di di) (nomark _)) (tor1 (dcmpT op_gt opr_gt (dabs (m_abs T) (acons (dixP (dv 2) di) anil)) (dpow di di) (nomark _))))).pt (sone (sret (m := 0) (dx db))) snil) (sone (sset 1 sc_law_is_log.nd (dx (dixP (dv 2) di)))))) (fun R d i s nx bk h => Eq.mp (by kernel_rfl) h)) (sone (sret (m := 0) (dx db)))))), fun as Q h => ?_⟩
  unfold S_law_is_log at h
  split at h
  · unfold q_law_is_log at h
    rename_i x0
    refine at_env (b := [.dat x0, .un, .un, .un]) rfl ?_
    exact Eq.mp (by kernel_rfl) h
  · exact h.elim
theorem ok_law_is_log (T : Tp K mg) (D_law_plain : Dn P w K mg base "_law_plain" 1 ["_law_number"] S_law_plain) : Dn P w K mg base "_law_is_log" 2 ["_law_thing"] S_law_is_log := by
  obtain ⟨kV, doc, pm, an, cdv, ct, Fn⟩ := T.fun_ "_law_is_log" (top 45) 32 97
  exact ⟨⟨_, fg_law_is_log T D_law_plain Fn, Fn.binds (ps := ["_law_thing"]) fun _ _ _ _ _ _ us hl => match us, hl with | [_], _ => rfl⟩, T.glo "_law_is_log" 52, T.keep "_law_is_log" 97⟩
def kk_law_spot : RT → (PyData → Prop) := fun R v => R (.dat v) []
def em_law_spot_1 (i : PyData × PyData × PyData) (s : Unit) : List SD := [.dat i.1, .dat i.2.1, .dat i.2.2, .un, .un, .un, .un, .un]
def de_law_spot_1 : List SD → Option ((PyData × PyData × PyData) × (Unit))
  | [.dat x0, .dat x1, .dat x2, .un, .un, .un, .un, .un] => some ((x0, x1, x2), ())
  | _ => none
theorem hde_law_spot_1 : ∀ env i s, de_law_spot_1 env = some (i, s) → env = em_law_spot_1 i s := by
  intro env i s h
  unfold de_law_spot_1 at h
  split at h
  · cases h; rfl
  · cases h
def S_law_spot : DSp := fun as Q => match as with
  | [.dat x0, .dat x1, .dat x2] => q_law_spot x0 x1 x2 (kk_law_spot Q)
  | _ => False
theorem len_law_spot (as : List SD) (Q : SD → List SD → Prop) (h : S_law_spot as Q) : as.length = 3 := by
  unfold S_law_spot at h
  split at h
  · rfl
  · exact h.elim
theorem cels_law_spot : CelsIn 0 S_law_spot := by
  intro as Q h i p xs e
  unfold S_law_spot at h
  split at h
  · exact absurd e (no_cel (ds := [_, _, _]) i p xs)
  · exact h.elim
def N_law_spot : List Str := ["_law_log_here", "_law_top", "_law_bottom", "_law_one", "_law_other", "_law_gap_here", "_law_gone", "_law_x"]
theorem sc_law_spot : FnScope N_law_spot ["_law_log_here", "_law_top", "_law_bottom"] (defScope (top 46)) := ⟨rfl, rfl, rfl, by decide +kernel, rfl, by decide +kernel, by decide +kernel⟩
theorem fg_law_spot (T : Tp K mg)  {fd : FuncData} (Fn : Fun K "_law_spot" "_law_spot" (top 46) (He.ga K "_law_spot") fd) : FnG P w K mg base 1 (He.ga K "_law_spot") fd ["_law_log_here", "_law_top", "_law_bottom"] S_law_spot := by
  refine dfn 0 Fn sc_law_spot len_law_spot cels_law_spot fun cdv A outer s H hr hA => ⟨_, (scons (sif (tor (dcmpT op_lt opr_lt (dv 1) (dmul (dixP (dixP (dv 0) di) di) (dv 2)) (nomark _)) (tor1 (dcmpT op_gt opr_gt (dv 1) (dmul (dixP (dixP (dv 0) (dneg di)) di) (dv 2)) (nomark _)))).pt (sone (sret (m := 0) (dx dn))) snil) (scons (sforQ [3, 4, 5, 6, 7] de_law_spot_1 em_law_spot_1 kk_law_spot qb_law_spot_1 hde_law_spot_1 PassesOwn.never rfl (izip (m_zip T) (acons (dv 0) (acons (dsl (dv 0) (so_some di) so_none) anil))) (gtup (gl_cons gok_n (gl_cons gok_n gl_nil)) rfl (gcons (gn 3 sc_law_spot.nd) (gcons (gn 4 sc_law_spot.nd) gnil))) (sone (sif (dchainT op_le op_le opr_le opr_le (dmul (dixP (dv 3) di) (dv 2)) (dv 1) (dmul (dixP (dv 4) di) (dv 2))) (scons (spar 5 6 rfl sc_law_spot.nd (acons (dmul (dsub (dixP (dv 4) di) (dixP (dv 3) di)) (dv 2)) (acons (dsub (dv 1) (dmul (dixP (dv 3) di) (dv 2))) anil))) (scons (sset 7 sc_law_spot.nd (dx (dadd (dmul (dixP (dv 3) di) (dv 5)) (dmul (dsub (dixP (dv 4) di) (dixP (dv 3) di)) (dv 6))))) (sone (sret (m := 0) (dx (dtup (acons (dv 7) (acons (dadd (dmul (dixP (dv 3) di) (dv 5)) (dmul (dsub (dixP (dv 4) di) (dixP (dv 3) di)) (dv 6))) (acons (dv 5) anil))))))))) snil)) (fun R d i s nx bk h => Eq.mp (by kernel_rfl) h)) (sone (sret (m := 0) (dx (dtup (acons (dixP (dixP (dv 0) di) di) (acons (dixP (dixP (dv 0) di) di) (acons di anil))))))))), fun as Q h => ?_⟩
  unfold S_law_spot at h
  split at h
  · unfold q_law_spot at h
    rename_i x0 x1 x2
    refine at_env (b := [.dat x0, .dat x1, .dat x2, .un, .un, .un, .un, .un]) rfl ?_
    exact Eq.mp (by kernel_rfl) h
  · exact h.elim
theorem ok_law_spot (T : Tp K mg)  : Dn P w K mg base "_law_spot" 1 ["_law_log_here", "_law_top", "_law_bottom"] S_law_spot := by
  obtain ⟨kV, doc, pm, an, cdv, ct, Fn⟩ := T.fun_ "_law_spot" (top 46) 33 98
  exact ⟨⟨_, fg_law_spot T  Fn, Fn.binds (ps := ["_law_log_here", "_law_top", "_law_bottom"]) fun _ _ _ _ _ _ us hl => match us, hl with | [_, _, _], _ => rfl⟩, T.glo "_law_spot" 53, T.keep "_law_spot" 98⟩
def kk_law_more_rows : RT → (PyData → Prop) := fun R v => R (.dat v) []
def em_law_more_rows_1 (i : PyData) (s : List PyData) : List SD := [.dat i, .cel false s, .un, .un, .un, .un, .un, .un]
def de_law_more_rows_1 : List SD → Option ((PyData) × (List PyData))
  | [.dat x0, .cel false x1, .un, .un, .un, .un, .un, .un] => some (x0, x1)
  | _ => none
theorem hde_law_more_rows_1 : ∀ env i s, de_law_more_rows_1 env = some (i, s) → env = em_law_more_rows_1 i s := by
  intro env i s h
  unfold de_law_more_rows_1 at h
  split at h
  · cases h; rfl
  · cases h
def em_law_more_rows_2 (i : PyData × PyData) (s : List PyData) : List SD := [.dat i.1, .cel false s, .un, .dat i.2, .un, .un, .un, .un]
def de_law_more_rows_2 : List SD → Option ((PyData × PyData) × (List PyData))
  | [.dat x0, .cel false x1, .un, .dat x3, .un, .un, .un, .un] => some ((x0, x3), x1)
  | _ => none
theorem hde_law_more_rows_2 : ∀ env i s, de_law_more_rows_2 env = some (i, s) → env = em_law_more_rows_2 i s := by
  intro env i s h
  unfold de_law_more_rows_2 at h
  split at h
  · cases h; rfl
  · cases h
def S_law_more_rows : DSp := fun as Q => match as with
  | [.dat x0] => q_law_more_rows x0 (kk_law_more_rows Q)
  | _ => False
theorem len_law_more_rows (as : List SD) (Q : SD → List SD → Prop) (h : S_law_more_rows as Q) : as.length = 1 := by
  unfold S_law_more_rows at h
  split at h
  · rfl
  · exact h.elim
theorem cels_law_more_rows : CelsIn 0 S_law_more_rows := by
  intro as Q h i p xs e
  unfold S_law_more_rows at h
  split at h
  · exact absurd e (no_cel (ds := [_]) i p xs)
  · exact h.elim
def N_law_more_rows : List Str := ["_law_log_here", "_law_rows", "_law_one", "_law_other", "_law_hour", "_law_x", "_law_y", "_law_by"]
theorem sc_law_more_rows : FnScope N_law_more_rows ["_law_log_here"] (defScope (top 48)) := ⟨rfl, rfl, rfl, by decide +kernel, rfl, by decide +kernel, by decide +kernel⟩
theorem fg_law_more_rows (T : Tp K mg) (D_law_spot : Dn P w K mg base "_law_spot" 1 ["_law_log_here", "_law_top", "_law_bottom"] S_law_spot) {fd : FuncData} (Fn : Fun K "_law_more_rows" "_law_more_rows" (top 48) (He.ga K "_law_more_rows") fd) : FnG P w K mg base 2 (He.ga K "_law_more_rows") fd ["_law_log_here"] S_law_more_rows := by
  refine dfn 0 Fn sc_law_more_rows len_law_more_rows cels_law_more_rows fun cdv A outer s H hr hA => ⟨_, (scons (sset 1 sc_law_more_rows.nd (dlst (acons (dixP (dv 0) di) anil))) (scons (sforQ [2, 3, 4, 5, 6, 7] de_law_more_rows_1 em_law_more_rows_1 kk_law_more_rows qb_law_more_rows_1 hde_law_more_rows_1 PassesOwn.never rfl (izip (m_zip T) (acons (dv 0) (acons (dsl (dv 0) (so_some di) so_none) anil))) (gtup (gl_cons gok_n (gl_cons gok_n gl_nil)) rfl (gcons (gn 2 sc_law_more_rows.nd) (gcons (gn 3 sc_law_more_rows.nd) gnil))) (scons (sforQ [2, 4, 5, 6, 7] de_law_more_rows_2 em_law_more_rows_2 kk_law_more_rows qb_law_more_rows_2 hde_law_more_rows_2 PassesOwn.never rfl (iseq (dtup (acons (dadd (dixP (dv 2) di) di) (acons (ddiv (dadd (dixP (dv 2) di) (dixP (dv 3) di)) di) anil)))) (gn 4 sc_law_more_rows.nd) (scons (sasg (dfrz (dcn D_law_spot (hr.mono (by decide)) hA (acons (dv 0) (acons (dv 4) (acons di anil))))) (gtup (gl_cons gok_n (gl_cons gok_n (gl_cons gok_n gl_nil))) rfl (gcons (gn 5 sc_law_more_rows.nd) (gcons (gn 6 sc_law_more_rows.nd) (gcons (gn 7 sc_law_more_rows.nd) gnil))))) (sone (sif (tand (dchainT op_lt op_lt opr_lt opr_lt (dixP (dixC 1 (dneg di)) di) (dv 4) (dixP (dv 3) di)) (tand (dcmpT (op_eqE hr.units) opd_eq (dmod (dv 5) (dv 7)) di (nomark _)) (tand (dcmpT (op_eqE hr.units) opd_eq (dmod (dv 6) (dv 7)) di (nomark _)) (tand1 (dcmpT op_lt opr_lt (dadd (dlenC 1 (m_len T)) (dlen (m_len T) (acons (dv 0) anil))) di (nomark _)))))).pt (sone (sapp 1 (dtup (acons (dv 4) (acons (ddiv (dv 5) (dv 7)) (acons (ddiv (dv 6) (dv 7)) anil)))))) snil))) (fun R d i s nx bk h => Eq.mp (by kernel_rfl) h)) (sone (sapp 1 (dv 3)))) (fun R d i s nx bk h => Eq.mp (by kernel_rfl) h)) (sone (sret (m := 0) (dx (dsl (dtupC 1 (m_tuple T)) so_none (so_some di))))))), fun as Q h => ?_⟩
  unfold S_law_more_rows at h
  split at h
  · unfold q_law_more_rows at h
    rename_i x0
    refine at_env (b := [.dat x0, .un, .un, .un, .un, .un, .un, .un]) rfl ?_
    exact Eq.mp (by kernel_rfl) h
  · exact h.elim
theorem ok_law_more_rows (T : Tp K mg) (D_law_spot : Dn P w K mg base "_law_spot" 1 ["_law_log_here", "_law_top", "_law_bottom"] S_law_spot) : Dn P w K mg base "_law_more_rows" 2 ["_law_log_here"] S_law_more_rows := by
  obtain ⟨kV, doc, pm, an, cdv, ct, Fn⟩ := T.fun_ "_law_more_rows" (top 48) 35 100
  exact ⟨⟨_, fg_law_more_rows T D_law_spot Fn, Fn.binds (ps := ["_law_log_here"]) fun _ _ _ _ _ _ us hl => match us, hl with | [_], _ => rfl⟩, T.glo "_law_more_rows" 55, T.keep "_law_more_rows" 100⟩
def kk_law_twin : RT → (PyData → List PyData → Prop) := fun R v c => R (.dat v) [.cel true c]
def em_law_twin_1 (i : List PyData × PyData × PyData × PyData × PyData × PyData × PyData) (s : List PyData) : List SD := [.cel true i.1, .dat i.2.1, .dat i.2.2.1, .dat i.2.2.2.1, .dat i.2.2.2.2.1, .dat i.2.2.2.2.2.1, .dat i.2.2.2.2.2.2, .cel false s, .un, .un, .un, .un, .un]
def de_law_twin_1 : List SD → Option ((List PyData × PyData × PyData × PyData × PyData × PyData × PyData) × (List PyData))
  | [.cel true x0, .dat x1, .dat x2, .dat x3, .dat x4, .dat x5, .dat x6, .cel false x7, .un, .un, .un, .un, .un] => some ((x0, x1, x2, x3, x4, x5, x6), x7)
  | _ => none
theorem hde_law_twin_1 : ∀ env i s, de_law_twin_1 env = some (i, s) → env = em_law_twin_1 i s := by
  intro env i s h
  unfold de_law_twin_1 at h
  split at h
  · cases h; rfl
  · cases h
def em_law_twin_2 (i : List PyData × PyData × PyData) (s : Unit) : List SD := [.cel true i.1, .dat i.2.1, .un, .un, .un, .un, .un, .dat i.2.2, .un, .un, .un, .un, .un]
def de_law_twin_2 : List SD → Option ((List PyData × PyData × PyData) × (Unit))
  | [.cel true x0, .dat x1, .un, .un, .un, .un, .un, .dat x7, .un, .un, .un, .un, .un] => some ((x0, x1, x7), ())
  | _ => none
theorem hde_law_twin_2 : ∀ env i s, de_law_twin_2 env = some (i, s) → env = em_law_twin_2 i s := by
  intro env i s h
  unfold de_law_twin_2 at h
  split at h
  · cases h; rfl
  · cases h
def S_law_twin : DSp := fun as Q => match as with
  | [.cel true x0, .dat x1] => q_law_twin x0 x1 (kk_law_twin Q)
  | _ => False
theorem len_law_twin (as : List SD) (Q : SD → List SD → Prop) (h : S_law_twin as Q) : as.length = 2 := by
  unfold S_law_twin at h
  split at h
  · rfl
  · exact h.elim
theorem cels_law_twin : CelsIn 1 S_law_twin := by
  intro as Q h i p xs e
  unfold S_law_twin at h
  split at h
  · exact cels1 (ds := [_]) e
  · exact h.elim
def N_law_twin : List Str := ["_law_pot", "_law_log_here", "_law_kind", "_law_at", "_law_x", "_law_y", "_law_later", "_law_rows", "_law_k", "_law_row", "_law_away", "_law_here", "_law_kept"]
theorem sc_law_twin : FnScope N_law_twin ["_law_pot", "_law_log_here"] (defScope (top 47)) := ⟨rfl, rfl, rfl, by decide +kernel, rfl, by decide +kernel, by decide +kernel⟩
theorem fg_law_twin (T : Tp K mg) (D_law_draw : Dn P w K mg base "_law_draw" 2 ["_law_pot", "_law_many"] S_law_draw) (D_law_is_log : Dn P w K mg base "_law_is_log" 2 ["_law_thing"] S_law_is_log) (D_law_log : Dn P w K mg base "_law_log" 3 ["_law_pot", "_law_most"] S_law_log) (D_law_more_rows : Dn P w K mg base "_law_more_rows" 2 ["_law_log_here"] S_law_more_rows) {fd : FuncData} (Fn : Fun K "_law_twin" "_law_twin" (top 47) (He.ga K "_law_twin") fd) : FnG P w K mg base 4 (He.ga K "_law_twin") fd ["_law_pot", "_law_log_here"] S_law_twin := by
  refine dfn 1 Fn sc_law_twin len_law_twin cels_law_twin fun cdv A outer s H hr hA => ⟨_, (scons (sset 2 sc_law_twin.nd (dcnC 0 D_law_draw (hr.mono (by decide)) hA (acons di anil))) (scons (sset 3 sc_law_twin.nd (dcnC 0 D_law_draw (hr.mono (by decide)) hA (acons (dlen (m_len T) (acons (dv 1) anil)) anil))) (scons (spar 4 5 rfl sc_law_twin.nd (acons (dsub (dfrz (dcnC 0 D_law_draw (hr.mono (by decide)) hA (acons di anil))) di) (acons (dsub (dfrz (dcnC 0 D_law_draw (hr.mono (by decide)) hA (acons di anil))) di) anil))) (scons (sset 6 sc_law_twin.nd (dcnC 0 D_law_draw (hr.mono (by decide)) hA (acons di anil))) (scons (sset 7 sc_law_twin.nd (dlst anil)) (scons (sforQ [8, 9, 10, 11] de_law_twin_1 em_law_twin_1 kk_law_twin qb_law_twin_1 hde_law_twin_1 PassesOwn.never rfl (ienum (m_enumerate T) (acons (dv 1) anil)) (gtup (gl_cons gok_n (gl_cons gok_n gl_nil)) rfl (gcons (gn 8 sc_law_twin.nd) (gcons (gn 9 sc_law_twin.nd) gnil))) (scons (sset 10 sc_law_twin.nd (dx (dintOf (m_int T) (acons (dcmp op_gt opr_gt (dv 8) (dv 3) (nomark _)) anil)))) (scons (sset 11 sc_law_twin.nd (dx (dfrz (dlst (acons (dv 9) (acons (dv 9) (acons (dtup (acons (dixP (dv 9) di) (acons (dadd (dixP (dv 9) di) (dmul (dv 4) (dv 10))) (acons (dadd (dixP (dv 9) di) (dmul (dv 5) (dv 10))) anil)))) anil))))))) (scons (sset 11 sc_law_twin.nd (dx (dadd (dv 11) (dfrz (dlst (acons (dtup (acons (dadd (dixP (dv 9) di) (dv 6)) (acons (dixP (dv 9) di) (acons (dixP (dv 9) di) anil)))) (acons (dtup (acons (dixP (dv 9) di) (acons (dadd (dixP (dv 9) di) (dv 4)) (acons (dadd (dixP (dv 9) di) (dv 5)) anil)))) anil))))))) (sone (sapp 7 (dixP (dadd (dv 11) (dfrz (dlst (acons (dtup (acons (dixP (dv 9) di) (acons (dneg (dixP (dv 9) di)) (acons (dixP (dv 9) di) anil)))) anil)))) (dv 2))))))) (fun R d i s nx bk h => Eq.mp (by kernel_rfl) h)) (ssforget [3, 4, 5, 6] (scons (sif (dcmpT (op_eqE hr.units) opd_eq (dv 2) di (nomark _)) (sone (sret (m := 1) (dx (dfrz (dcnC 0 D_law_log (hr.mono (by decide)) hA (acons di anil)))))) snil) (scons (sif (dcmpT (op_eqE hr.units) opd_eq (dv 2) di (nomark _)) (sone (sret (m := 1) (dx (dfrz (dcn D_law_more_rows (hr.mono (by decide)) hA (acons (dtupC 7 (m_tuple T)) anil)))))) snil) (ssforget [2] (ssfreeze2 7 (scons (sset 12 sc_law_twin.nd (dx (dtupleOf (m_tuple T) (acons (dfrz (dlc (dec := de_law_twin_2) (emb := em_law_twin_2) (qb := qb_law_twin_2) [("_law_row", 9)] (.one 9) hde_law_twin_2 rfl sc_law_twin.nd (iseq (dv 7)) (blkOk_by (own := [("_law_row", 9)]) (N := N_law_twin) (sc := defScope (top 47)) (by decide +kernel)) (fun _ _ _ _ _ => pg_name (i := 9) sc_law_twin.nd rfl (Or.inl rfl)) (fun _ _ _ _ _ => tif1 (dtest (dfrz (dcn D_law_is_log (hr.mono (by decide)) hA (acons (dtup (acons (dv 9) anil)) anil))))) (fun _ _ _ _ _ => (dv 9)) (fun d i s sk yd h => Eq.mp (by kernel_rfl) h))) anil)))) (sone (sret (m := 1) (dx (dif (dcmpT (op_empE hr.units) opd_emp (dv 12) (dtup anil) (nomark _)) (dv 1) (dv 12))))))))))))))))), fun as Q h => ?_⟩
  unfold S_law_twin at h
  split at h
  · unfold q_law_twin at h
    rename_i x0 x1
    refine at_env (b := [.cel true x0, .dat x1, .un, .un, .un, .un, .un, .un, .un, .un, .un, .un, .un]) rfl ?_
    exact Eq.mp (by kernel_rfl) h
  · exact h.elim
theorem ok_law_twin (T : Tp K mg) (D_law_draw : Dn P w K mg base "_law_draw" 2 ["_law_pot", "_law_many"] S_law_draw) (D_law_is_log : Dn P w K mg base "_law_is_log" 2 ["_law_thing"] S_law_is_log) (D_law_log : Dn P w K mg base "_law_log" 3 ["_law_pot", "_law_most"] S_law_log) (D_law_more_rows : Dn P w K mg base "_law_more_rows" 2 ["_law_log_here"] S_law_more_rows) : Dn P w K mg base "_law_twin" 4 ["_law_pot", "_law_log_here"] S_law_twin := by
  obtain ⟨kV, doc, pm, an, cdv, ct, Fn⟩ := T.fun_ "_law_twin" (top 47) 34 99
  exact ⟨⟨_, fg_law_twin T D_law_draw D_law_is_log D_law_log D_law_more_rows Fn, Fn.binds (ps := ["_law_pot", "_law_log_here"]) fun _ _ _ _ _ _ us hl => match us, hl with | [_, _], _ => rfl⟩, T.glo "_law_twin" 54, T.keep "_law_twin" 99⟩
def kk_law_chase : RT → (PyData → List PyData → Prop) := fun R v c => R (.dat v) [.cel true c]
def S_law_chase : DSp := fun as Q => match as with
  | [.cel true x0, .dat x1, .dat x2] => q_law_chase x0 x1 x2 (kk_law_chase Q)
  | _ => False
theorem len_law_chase (as : List SD) (Q : SD → List SD → Prop) (h : S_law_chase as Q) : as.length = 3 := by
  unfold S_law_chase at h
  split at h
  · rfl
  · exact h.elim
theorem cels_law_chase : CelsIn 1 S_law_chase := by
  intro as Q h i p xs e
  unfold S_law_chase at h
  split at h
  · exact cels1 (ds := [_, _]) e
  · exact h.elim
def N_law_chase : List Str := ["_law_pot", "_law_one", "_law_other", "_law_kind", "_law_first_here", "_law_last", "_law_width", "_law_some"]
theorem sc_law_chase : FnScope N_law_chase ["_law_pot", "_law_one", "_law_other"] (defScope (top 49)) := ⟨rfl, rfl, rfl, by decide +kernel, rfl, by decide +kernel, by decide +kernel⟩
theorem fg_law_chase (T : Tp K mg) (D_law_draw : Dn P w K mg base "_law_draw" 2 ["_law_pot", "_law_many"] S_law_draw) {fd : FuncData} (Fn : Fun K "_law_chase" "_law_chase" (top 49) (He.ga K "_law_chase") fd) : FnG P w K mg base 3 (He.ga K "_law_chase") fd ["_law_pot", "_law_one", "_law_other"] S_law_chase := by
  refine dfn 1 Fn sc_law_chase len_law_chase cels_law_chase fun cdv A outer s H hr hA => ⟨_, (scons (sset 3 sc_law_chase.nd (dcnC 0 D_law_draw (hr.mono (by decide)) hA (acons di anil))) (scons (spar 4 5 rfl sc_law_chase.nd (acons (dixP (dixP (dv 1) di) di) (acons (dixP (dixP (dv 2) (dneg di)) di) anil))) (scons (sset 6 sc_law_chase.nd (dx (dadd di (dfrz (dcnC 0 D_law_draw (hr.mono (by decide)) hA (acons (dixP (dfrz (dlst (acons di (acons di (acons (dpow di di) anil))))) (dfrz (dcnC 0 D_law_draw (hr.mono (by decide)) hA (acons di anil)))) anil)))))) (scons (sset 7 sc_law_chase.nd (dx (dfrz (dlst (acons (dtup (acons di (acons (dpow di di) anil))) (acons (dtup (acons (dmin2 (m_min T) rfl (acons (dv 4) (acons (dv 5) anil))) (acons (dmax2 (m_max T) rfl (acons (dv 4) (acons (dv 5) anil))) anil))) (acons (dtup (acons (dv 4) (acons (dmin2 (m_min T) rfl (acons (dpow di di) (acons (dadd (dv 4) (dv 6)) anil))) anil))) (acons (dtup (acons (dv 5) (acons (dv 5) anil))) anil)))))))) (scons (sset 7 sc_law_chase.nd (dx (dadd (dv 7) (dfrz (dlst (acons (dtup (acons (dmax2 (m_max T) rfl (acons di (acons (dsub (dv 5) (dv 6)) anil))) (acons (dv 5) anil))) (acons (dtup (acons (dmin2 (m_min T) rfl (acons (dpow di di) (acons (dadd (dv 5) di) anil))) (acons (dpow di di) anil))) anil))))))) (sone (sret (m := 1) (dx (dixP (dv 7) (dv 3)))))))))), fun as Q h => ?_⟩
  unfold S_law_chase at h
  split at h
  · unfold q_law_chase at h
    rename_i x0 x1 x2
    refine at_env (b := [.cel true x0, .dat x1, .dat x2, .un, .un, .un, .un, .un]) rfl ?_
    exact Eq.mp (by kernel_rfl) h
  · exact h.elim
theorem ok_law_chase (T : Tp K mg) (D_law_draw : Dn P w K mg base "_law_draw" 2 ["_law_pot", "_law_many"] S_law_draw) : Dn P w K mg base "_law_chase" 3 ["_law_pot", "_law_one", "_law_other"] S_law_chase := by
  obtain ⟨kV, doc, pm, an, cdv, ct, Fn⟩ := T.fun_ "_law_chase" (top 49) 36 101
  exact ⟨⟨_, fg_law_chase T D_law_draw Fn, Fn.binds (ps := ["_law_pot", "_law_one", "_law_other"]) fun _ _ _ _ _ _ us hl => match us, hl with | [_, _, _], _ => rfl⟩, T.glo "_law_chase" 56, T.keep "_law_chase" 101⟩
def kk_law_less : RT → (PyData → Prop) := fun R v => R (.dat v) []
def S_law_less : DSp := fun as Q => match as with
  | [.dat x0, .dat x1] => q_law_less x0 x1 (kk_law_less Q)
  | _ => False
theorem len_law_less (as : List SD) (Q : SD → List SD → Prop) (h : S_law_less as Q) : as.length = 2 := by
  unfold S_law_less at h
  split at h
  · rfl
  · exact h.elim
theorem cels_law_less : CelsIn 0 S_law_less := by
  intro as Q h i p xs e
  unfold S_law_less at h
  split at h
  · exact absurd e (no_cel (ds := [_, _]) i p xs)
  · exact h.elim
def N_law_less : List Str := ["_law_one", "_law_other"]
theorem sc_law_less : FnScope N_law_less ["_law_one", "_law_other"] (defScope (top 50)) := ⟨rfl, rfl, rfl, by decide +kernel, rfl, by decide +kernel, by decide +kernel⟩
theorem fg_law_less (T : Tp K mg)  {fd : FuncData} (Fn : Fun K "_law_less" "_law_less" (top 50) (He.ga K "_law_less") fd) : FnG P w K mg base 1 (He.ga K "_law_less") fd ["_law_one", "_law_other"] S_law_less := by
  refine dfn 0 Fn sc_law_less len_law_less cels_law_less fun cdv A outer s H hr hA => ⟨_, (sone (sret (m := 0) (dx (dcmp op_lt opr_lt (dmul (dixP (dv 0) di) (dixP (dv 1) di)) (dmul (dixP (dv 1) di) (dixP (dv 0) di)) (nomark _))))), fun as Q h => ?_⟩
  unfold S_law_less at h
  split at h
  · unfold q_law_less at h
    rename_i x0 x1
    refine at_env (b := [.dat x0, .dat x1]) rfl ?_
    exact Eq.mp (by kernel_rfl) h
  · exact h.elim
theorem ok_law_less (T : Tp K mg)  : Dn P w K mg base "_law_less" 1 ["_law_one", "_law_other"] S_law_less := by
  obtain ⟨kV, doc, pm, an, cdv, ct, Fn⟩ := T.fun_ "_law_less" (top 50) 37 102
  exact ⟨⟨_, fg_law_less T  Fn, Fn.binds (ps := ["_law_one", "_law_other"]) fun _ _ _ _ _ _ us hl => match us, hl with | [_, _], _ => rfl⟩, T.glo "_law_less" 57, T.keep "_law_less" 102⟩
def kk_law_first : RT → (PyData → Prop) := fun R v => R (.dat v) []
def S_law_first : DSp := fun as Q => match as with
  | [.dat x0, .dat x1] => q_law_first x0 x1 (kk_law_first Q)
  | _ => False
theorem len_law_first (as : List SD) (Q : SD → List SD → Prop) (h : S_law_first as Q) : as.length = 2 := by
  unfold S_law_first at h
  split at h
  · rfl
  · exact h.elim
theorem cels_law_first : CelsIn 0 S_law_first := by
  intro as Q h i p xs e
  unfold S_law_first at h
  split at h
  · exact absurd e (no_cel (ds := [_, _]) i p xs)
  · exact h.elim
def N_law_first : List Str := ["_law_one", "_law_other"]
theorem sc_law_first : FnScope N_law_first ["_law_one", "_law_other"] (defScope (top 51)) := ⟨rfl, rfl, rfl, by decide +kernel, rfl, by decide +kernel, by decide +kernel⟩
theorem fg_law_first (T : Tp K mg) (D_law_less : Dn P w K mg base "_law_less" 1 ["_law_one", "_law_other"] S_law_less) {fd : FuncData} (Fn : Fun K "_law_first" "_law_first" (top 51) (He.ga K "_law_first") fd) : FnG P w K mg base 2 (He.ga K "_law_first") fd ["_law_one", "_law_other"] S_law_first := by
  refine dfn 0 Fn sc_law_first len_law_first cels_law_first fun cdv A outer s H hr hA => ⟨_, (scons (sif (tor (tisN (dv 0)) (tor1 (tisN (dv 1)))).pt (sone (sret (m := 0) (dx (dif (tisN (dv 1)) (dv 0) (dv 1))))) snil) (sone (sret (m := 0) (dx (dif (dtest (dfrz (dcn D_law_less (hr.mono (by decide)) hA (acons (dixP (dv 1) di) (acons (dixP (dv 0) di) anil))))) (dv 1) (dv 0)))))), fun as Q h => ?_⟩
  unfold S_law_first at h
  split at h
  · unfold q_law_first at h
    rename_i x0 x1
    refine at_env (b := [.dat x0, .dat x1]) rfl ?_
    exact Eq.mp (by kernel_rfl) h
  · exact h.elim
theorem ok_law_first (T : Tp K mg) (D_law_less : Dn P w K mg base "_law_less" 1 ["_law_one", "_law_other"] S_law_less) : Dn P w K mg base "_law_first" 2 ["_law_one", "_law_other"] S_law_first := by
  obtain ⟨kV, doc, pm, an, cdv, ct, Fn⟩ := T.fun_ "_law_first" (top 51) 38 103
  exact ⟨⟨_, fg_law_first T D_law_less Fn, Fn.binds (ps := ["_law_one", "_law_other"]) fun _ _ _ _ _ _ us hl => match us, hl with | [_, _], _ => rfl⟩, T.glo "_law_first" 58, T.keep "_law_first" 103⟩
def kk_law_together : RT → (PyData → Prop) := fun R v => R (.dat v) []
def S_law_together : DSp := fun as Q => match as with
  | [.dat x0, .dat x1] => q_law_together x0 x1 (kk_law_together Q)
  | _ => False
theorem len_law_together (as : List SD) (Q : SD → List SD → Prop) (h : S_law_together as Q) : as.length = 2 := by
  unfold S_law_together at h
  split at h
  · rfl
  · exact h.elim
theorem cels_law_together : CelsIn 0 S_law_together := by
  intro as Q h i p xs e
  unfold S_law_together at h
  split at h
  · exact absurd e (no_cel (ds := [_, _]) i p xs)
  · exact h.elim
def N_law_together : List Str := ["_law_one", "_law_other"]
theorem sc_law_together : FnScope N_law_together ["_law_one", "_law_other"] (defScope (top 52)) := ⟨rfl, rfl, rfl, by decide +kernel, rfl, by decide +kernel, by decide +kernel⟩
theorem fg_law_together (T : Tp K mg)  {fd : FuncData} (Fn : Fun K "_law_together" "_law_together" (top 52) (He.ga K "_law_together") fd) : FnG P w K mg base 1 (He.ga K "_law_together") fd ["_law_one", "_law_other"] S_law_together := by
  refine dfn 0 Fn sc_law_together len_law_together cels_law_together fun cdv A outer s H hr hA => ⟨_, (scons (sif (tor (tisN (dv 0)) (tor1 (tisN (dv 1)))).pt (sone (sret (m := 0) (dx (dif (tisN (dv 1)) (dv 0) (dv 1))))) snil) (sone (sret (m := 0) (dx (dtup (acons (dixP (dv 0) di) (acons (dixP (dv 1) di) anil))))))), fun as Q h => ?_⟩
  unfold S_law_together at h
  split at h
  · unfold q_law_together at h
    rename_i x0 x1
    refine at_env (b := [.dat x0, .dat x1]) rfl ?_
    exact Eq.mp (by kernel_rfl) h
  · exact h.elim
theorem ok_law_together (T : Tp K mg)  : Dn P w K mg base "_law_together" 1 ["_law_one", "_law_other"] S_law_together := by
  obtain ⟨kV, doc, pm, an, cdv, ct, Fn⟩ := T.fun_ "_law_together" (top 52) 39 104
  exact ⟨⟨_, fg_law_together T  Fn, Fn.binds (ps := ["_law_one", "_law_other"]) fun _ _ _ _ _ _ us hl => match us, hl with | [_, _], _ => rfl⟩, T.glo "_law_together" 59, T.keep "_law_together" 104⟩
def kk_law_gap : RT → (PyData → Prop) := fun R v => R (.dat v) []
def S_law_gap : DSp := fun as Q => match as with
  | [.dat x0, .dat x1] => q_law_gap x0 x1 (kk_law_gap Q)
  | _ => False
theorem len_law_gap (as : List SD) (Q : SD → List SD → Prop) (h : S_law_gap as Q) : as.length = 2 := by
  unfold S_law_gap at h
  split at h
  · rfl
  · exact h.elim
theorem cels_law_gap : CelsIn 0 S_law_gap := by
  intro as Q h i p xs e
  unfold S_law_gap at h
  split at h
  · exact absurd e (no_cel (ds := [_, _]) i p xs)
  · exact h.elim
def N_law_gap : List Str := ["_law_one", "_law_other"]
theorem sc_law_gap : FnScope N_law_gap ["_law_one", "_law_other"] (defScope (top 53)) := ⟨rfl, rfl, rfl, by decide +kernel, rfl, by decide +kernel, by decide +kernel⟩
theorem fg_law_gap (T : Tp K mg)  {fd : FuncData} (Fn : Fun K "_law_gap" "_law_gap" (top 53) (He.ga K "_law_gap") fd) : FnG P w K mg base 1 (He.ga K "_law_gap") fd ["_law_one", "_law_other"] S_law_gap := by
  refine dfn 0 Fn sc_law_gap len_law_gap cels_law_gap fun cdv A outer s H hr hA => ⟨_, (sone (sret (m := 0) (dx (dtup (acons (dsub (dmul (dixP (dv 0) di) (dixP (dv 1) di)) (dmul (dixP (dv 1) di) (dixP (dv 0) di))) (acons (dmul (dixP (dv 0) di) (dixP (dv 1) di)) anil)))))), fun as Q h => ?_⟩
  unfold S_law_gap at h
  split at h
  · unfold q_law_gap at h
    rename_i x0 x1
    refine at_env (b := [.dat x0, .dat x1]) rfl ?_
    exact Eq.mp (by kernel_rfl) h
  · exact h.elim
theorem ok_law_gap (T : Tp K mg)  : Dn P w K mg base "_law_gap" 1 ["_law_one", "_law_other"] S_law_gap := by
  obtain ⟨kV, doc, pm, an, cdv, ct, Fn⟩ := T.fun_ "_law_gap" (top 53) 40 105
  exact ⟨⟨_, fg_law_gap T  Fn, Fn.binds (ps := ["_law_one", "_law_other"]) fun _ _ _ _ _ _ us hl => match us, hl with | [_, _], _ => rfl⟩, T.glo "_law_gap" 60, T.keep "_law_gap" 105⟩
def kk_law_apart : RT → (PyData → Prop) := fun R v => R (.dat v) []
def S_law_apart : DSp := fun as Q => match as with
  | [.dat x0, .dat x1] => q_law_apart x0 x1 (kk_law_apart Q)
  | _ => False
theorem len_law_apart (as : List SD) (Q : SD → List SD → Prop) (h : S_law_apart as Q) : as.length = 2 := by
  unfold S_law_apart at h
  split at h
  · rfl
  · exact h.elim
theorem cels_law_apart : CelsIn 0 S_law_apart := by
  intro as Q h i p xs e
  unfold S_law_apart at h
  split at h
  · exact absurd e (no_cel (ds := [_, _]) i p xs)
  · exact h.elim
def N_law_apart : List Str := ["_law_one", "_law_other", "_law_x", "_law_y", "_law_top", "_law_bottom"]
theorem sc_law_apart : FnScope N_law_apart ["_law_one", "_law_other"] (defScope (top 54)) := ⟨rfl, rfl, rfl, by decide +kernel, rfl, by decide +kernel, by decide +kernel⟩
theorem fg_law_apart (T : Tp K mg) (D_law_gap : Dn P w K mg base "_law_gap" 1 ["_law_one", "_law_other"] S_law_gap) (D_law_terms : Dn P w K mg base "_law_terms" 2 ["_law_top", "_law_bottom"] S_law_terms) {fd : FuncData} (Fn : Fun K "_law_apart" "_law_apart" (top 54) (He.ga K "_law_apart") fd) : FnG P w K mg base 3 (He.ga K "_law_apart") fd ["_law_one", "_law_other"] S_law_apart := by
  refine dfn 0 Fn sc_law_apart len_law_apart cels_law_apart fun cdv A outer s H hr hA => ⟨_, (scons (spar 2 3 rfl sc_law_apart.nd (acons (dfrz (dcn D_law_gap (hr.mono (by decide)) hA (acons (dixP (dv 0) di) (acons (dixP (dv 1) di) anil)))) (acons (dfrz (dcn D_law_gap (hr.mono (by decide)) hA (acons (dixP (dv 0) di) (acons (dixP (dv 1) di) anil)))) anil))) (scons (sset 4 sc_law_apart.nd (dx (dadd (dmul (dmul (dmul (dixP (dv 2) di) (dixP (dv 2) di)) (dixP (dv 3) di)) (dixP (dv 3) di)) (dmul (dmul (dmul (dixP (dv 3) di) (dixP (dv 3) di)) (dixP (dv 2) di)) (dixP (dv 2) di))))) (scons (sset 5 sc_law_apart.nd (dx (dmul (dixP (dv 2) di) (dixP (dv 3) di)))) (sone (sret (m := 0) (dx (dfrz (dcn D_law_terms (hr.mono (by decide)) hA (acons (dv 4) (acons (dmul (dv 5) (dv 5)) anil)))))))))), fun as Q h => ?_⟩
  unfold S_law_apart at h
  split at h
  · unfold q_law_apart at h
    rename_i x0 x1
    refine at_env (b := [.dat x0, .dat x1, .un, .un, .un, .un]) rfl ?_
    exact Eq.mp (by kernel_rfl) h
  · exact h.elim
theorem ok_law_apart (T : Tp K mg) (D_law_gap : Dn P w K mg base "_law_gap" 1 ["_law_one", "_law_other"] S_law_gap) (D_law_terms : Dn P w K mg base "_law_terms" 2 ["_law_top", "_law_bottom"] S_law_terms) : Dn P w K mg base "_law_apart" 3 ["_law_one", "_law_other"] S_law_apart := by
  obtain ⟨kV, doc, pm, an, cdv, ct, Fn⟩ := T.fun_ "_law_apart" (top 54) 41 106
  exact ⟨⟨_, fg_law_apart T D_law_gap D_law_terms Fn, Fn.binds (ps := ["_law_one", "_law_other"]) fun _ _ _ _ _ _ us hl => match us, hl with | [_, _], _ => rfl⟩, T.glo "_law_apart" 61, T.keep "_law_apart" 106⟩
def kk_law_none_nearer : RT → (PyData → List PyData → Prop) := fun R v c => R (.dat v) [.cel true c]
def em_law_none_nearer_1 (i : PyData × PyData × PyData × PyData × PyData × PyData) (s : List PyData) : List SD := [.cel true s, .dat i.1, .dat i.2.1, .dat i.2.2.1, .dat i.2.2.2.1, .dat i.2.2.2.2.1, .dat i.2.2.2.2.2, .un, .un, .un, .un]
def de_law_none_nearer_1 : List SD → Option ((PyData × PyData × PyData × PyData × PyData × PyData) × (List PyData))
  | [.cel true x0, .dat x1, .dat x2, .dat x3, .dat x4, .dat x5, .dat x6, .un, .un, .un, .un] => some ((x1, x2, x3, x4, x5, x6), x0)
  | _ => none
theorem hde_law_none_nearer_1 : ∀ env i s, de_law_none_nearer_1 env = some (i, s) → env = em_law_none_nearer_1 i s := by
  intro env i s h
  unfold de_law_none_nearer_1 at h
  split at h
  · cases h; rfl
  · cases h
def S_law_none_nearer : DSp := fun as Q => match as with
  | [.cel true x0, .dat x1, .dat x2, .dat x3, .dat x4, .dat x5] => q_law_none_nearer x0 x1 x2 x3 x4 x5 (kk_law_none_nearer Q)
  | _ => False
theorem len_law_none_nearer (as : List SD) (Q : SD → List SD → Prop) (h : S_law_none_nearer as Q) : as.length = 6 := by
  unfold S_law_none_nearer at h
  split at h
  · rfl
  · exact h.elim
theorem cels_law_none_nearer : CelsIn 1 S_law_none_nearer := by
  intro as Q h i p xs e
  unfold S_law_none_nearer at h
  split at h
  · exact cels1 (ds := [_, _, _, _, _]) e
  · exact h.elim
def N_law_none_nearer : List Str := ["_law_pot", "_law_one", "_law_other", "_law_low", "_law_high", "_law_told", "_law_by", "_law_turn", "_law_moment", "_law_here", "_law_there"]
theorem sc_law_none_nearer : FnScope N_law_none_nearer ["_law_pot", "_law_one", "_law_other", "_law_low", "_law_high", "_law_told"] (defScope (top 55)) := ⟨rfl, rfl, rfl, by decide +kernel, rfl, by decide +kernel, by decide +kernel⟩
theorem fg_law_none_nearer (T : Tp K mg) (D_law_apart : Dn P w K mg base "_law_apart" 3 ["_law_one", "_law_other"] S_law_apart) (D_law_draw : Dn P w K mg base "_law_draw" 2 ["_law_pot", "_law_many"] S_law_draw) (D_law_less : Dn P w K mg base "_law_less" 1 ["_law_one", "_law_other"] S_law_less) (D_law_terms : Dn P w K mg base "_law_terms" 2 ["_law_top", "_law_bottom"] S_law_terms) (D_law_wide : Dn P w K mg base "_law_wide" 3 ["_law_pot", "_law_many"] S_law_wide) (D_place_at : Dn P w K mg base "place_at" 6 ["log", "moment"] S_place_at) {fd : FuncData} (Fn : Fun K "_law_none_nearer" "_law_none_nearer" (top 55) (He.ga K "_law_none_nearer") fd) : FnG P w K mg base 7 (He.ga K "_law_none_nearer") fd ["_law_pot", "_law_one", "_law_other", "_law_low", "_law_high", "_law_told"] S_law_none_nearer := by
  refine dfn 1 Fn sc_law_none_nearer len_law_none_nearer cels_law_none_nearer fun cdv A outer s H hr hA => ⟨_, (scons (sset 6 sc_law_none_nearer.nd (dx (dadd di (dfrz (dcnC 0 D_law_draw (hr.mono (by decide)) hA (acons di anil)))))) (scons (sforQ [7, 8, 9, 10] de_law_none_nearer_1 em_law_none_nearer_1 kk_law_none_nearer qb_law_none_nearer_1 hde_law_none_nearer_1 PassesOwn.never rfl (irange1 (m_range T) (acons di anil)) (gn 7 sc_law_none_nearer.nd) (scons (sset 8 sc_law_none_nearer.nd (dcn D_law_terms (hr.mono (by decide)) hA (acons (dadd (dmul (dv 3) (dv 6)) (dfrz (dcnC 0 D_law_wide (hr.mono (by decide)) hA (acons (dadd (dmul (dsub (dv 4) (dv 3)) (dv 6)) di) anil)))) (acons (dv 6) anil)))) (scons (spar 9 10 rfl sc_law_none_nearer.nd (acons (dfrz (dcn D_place_at (hr.mono (by decide)) hA (acons (dv 1) (acons (dv 8) anil)))) (acons (dfrz (dcn D_place_at (hr.mono (by decide)) hA (acons (dv 2) (acons (dv 8) anil)))) anil))) (ssforget [7, 8] (sone (sif (tand (tnotN (dv 9)) (tand1 (tnotN (dv 10)))).pt (sone (sif (tor (tisN (dv 5)) (tor1 (dtest (dfrz (dcn D_law_less (hr.mono (by decide)) hA (acons (dfrz (dcn D_law_apart (hr.mono (by decide)) hA (acons (dv 9) (acons (dv 10) anil)))) (acons (dixP (dv 5) di) anil))))))).pt (sone (sret (m := 1) (dx db))) snil)) snil))))) (fun R d i s nx bk h => Eq.mp (by kernel_rfl) h)) (ssforget [3, 4, 6] (scons (sif (tisN (dv 5)) (sone (sret (m := 1) (dx db))) snil) (sone (sret (m := 1) (dx (dcmp (op_eqE hr.units) opd_eq (dfrz (dcn D_law_apart (hr.mono (by decide)) hA (acons (dfrz (dcn D_place_at (hr.mono (by decide)) hA (acons (dv 1) (acons (dixP (dv 5) di) anil)))) (acons (dfrz (dcn D_place_at (hr.mono (by decide)) hA (acons (dv 2) (acons (dixP (dv 5) di) anil)))) anil)))) (dixP (dv 5) di) (nomark _))))))))), fun as Q h => ?_⟩
  unfold S_law_none_nearer at h
  split at h
  · unfold q_law_none_nearer at h
    rename_i x0 x1 x2 x3 x4 x5
    refine at_env (b := [.cel true x0, .dat x1, .dat x2, .dat x3, .dat x4, .dat x5, .un, .un, .un, .un, .un]) rfl ?_
    exact Eq.mp (by kernel_rfl) h
  · exact h.elim
theorem ok_law_none_nearer (T : Tp K mg) (D_law_apart : Dn P w K mg base "_law_apart" 3 ["_law_one", "_law_other"] S_law_apart) (D_law_draw : Dn P w K mg base "_law_draw" 2 ["_law_pot", "_law_many"] S_law_draw) (D_law_less : Dn P w K mg base "_law_less" 1 ["_law_one", "_law_other"] S_law_less) (D_law_terms : Dn P w K mg base "_law_terms" 2 ["_law_top", "_law_bottom"] S_law_terms) (D_law_wide : Dn P w K mg base "_law_wide" 3 ["_law_pot", "_law_many"] S_law_wide) (D_place_at : Dn P w K mg base "place_at" 6 ["log", "moment"] S_place_at) : Dn P w K mg base "_law_none_nearer" 7 ["_law_pot", "_law_one", "_law_other", "_law_low", "_law_high", "_law_told"] S_law_none_nearer := by
  obtain ⟨kV, doc, pm, an, cdv, ct, Fn⟩ := T.fun_ "_law_none_nearer" (top 55) 42 107
  exact ⟨⟨_, fg_law_none_nearer T D_law_apart D_law_draw D_law_less D_law_terms D_law_wide D_place_at Fn, Fn.binds (ps := ["_law_pot", "_law_one", "_law_other", "_law_low", "_law_high", "_law_told"]) fun _ _ _ _ _ _ us hl => match us, hl with | [_, _, _, _, _, _], _ => rfl⟩, T.glo "_law_none_nearer" 62, T.keep "_law_none_nearer" 107⟩
def kk_law_parting_right : RT → (PyData → Prop) := fun R v => R (.dat v) []
def S_law_parting_right : DSp := fun as Q => match as with
  | [.dat x0, .dat x1, .dat x2, .dat x3] => q_law_parting_right x0 x1 x2 x3 (kk_law_parting_right Q)
  | _ => False
theorem len_law_parting_right (as : List SD) (Q : SD → List SD → Prop) (h : S_law_parting_right as Q) : as.length = 4 := by
  unfold S_law_parting_right at h
  split at h
  · rfl
  · exact h.elim
theorem cels_law_parting_right : CelsIn 0 S_law_parting_right := by
  intro as Q h i p xs e
  unfold S_law_parting_right at h
  split at h
  · exact absurd e (no_cel (ds := [_, _, _, _]) i p xs)
  · exact h.elim
def N_law_parting_right : List Str := ["_law_one", "_law_other", "_law_low", "_law_high", "_law_hour", "_law_hours"]
theorem sc_law_parting_right : FnScope N_law_parting_right ["_law_one", "_law_other", "_law_low", "_law_high"] (defScope (top 56)) := ⟨rfl, rfl, rfl, by decide +kernel, rfl, by decide +kernel, by decide +kernel⟩
theorem fg_law_parting_right (T : Tp K mg) (D_are_near : Dn P w K mg base "are_near" 7 ["one", "other", "low", "high", "miles"] S_are_near) (D_both_tell : Dn P w K mg base "both_tell" 6 ["one", "other", "low", "high"] S_both_tell) (D_nearest : Dn P w K mg base "nearest" 7 ["one", "other", "low", "high"] S_nearest) (D_part_at : Dn P w K mg base "part_at" 6 ["one", "other"] S_part_at) {fd : FuncData} (Fn : Fun K "_law_parting_right" "_law_parting_right" (top 56) (He.ga K "_law_parting_right") fd) : FnG P w K mg base 8 (He.ga K "_law_parting_right") fd ["_law_one", "_law_other", "_law_low", "_law_high"] S_law_parting_right := by
  refine dfn 0 Fn sc_law_parting_right len_law_parting_right cels_law_parting_right fun cdv A outer s H hr hA => ⟨_, (scons (spar 4 5 rfl sc_law_parting_right.nd (acons (dfrz (dcn D_part_at (hr.mono (by decide)) hA (acons (dv 0) (acons (dv 1) anil)))) (acons (dfrz (dcn D_both_tell (hr.mono (by decide)) hA (acons (dv 0) (acons (dv 1) (acons di (acons (dpow di di) anil)))))) anil))) (ssforget [2, 3] (scons (sif (tisN (dv 5)) (sone (sret (m := 0) (dx (disN (dv 4))))) snil) (scons (sif (tisN (dv 4)) (sone (sret (m := 0) (dx (dcmp (op_eqE hr.units) opd_eq (dfrz (dcn D_nearest (hr.mono (by decide)) hA (acons (dv 0) (acons (dv 1) (acons di (acons (dpow di di) anil)))))) (dtup (acons (dtup (acons di (acons di anil))) (acons (dtup (acons (dixP (dv 5) di) (acons di anil))) anil))) (nomark _))))) snil) (scons (sif (tand (dcmpT op_gt opr_gt (dv 4) (dixP (dv 5) di) (nomark _)) (tand1 (dcmpT (op_neE hr.units) opd_ne (dfrz (dcn D_nearest (hr.mono (by decide)) hA (acons (dv 0) (acons (dv 1) (acons (dixP (dv 5) di) (acons (dv 4) anil)))))) (dtup (acons (dtup (acons di (acons di anil))) (acons (dtup (acons (dixP (dv 5) di) (acons di anil))) anil))) (nomark _)))).pt (sone (sret (m := 0) (dx db))) snil) (sone (sret (m := 0) (dx (dorV (dcmp (op_eqE hr.units) opd_eq (dv 4) (dixP (dv 5) di) (nomark _)) (done (disB (dfrz (dcn D_are_near (hr.mono (by decide)) hA (acons (dv 0) (acons (dv 1) (acons (dixP (dv 5) di) (acons (dv 4) (acons di anil)))))))))))))))))), fun as Q h => ?_⟩
  unfold S_law_parting_right at h
  split at h
  · unfold q_law_parting_right at h
    rename_i x0 x1 x2 x3
    refine at_env (b := [.dat x0, .dat x1, .dat x2, .dat x3, .un, .un]) rfl ?_
    exact Eq.mp (by kernel_rfl) h
  · exact h.elim
theorem ok_law_parting_right (T : Tp K mg) (D_are_near : Dn P w K mg base "are_near" 7 ["one", "other", "low", "high", "miles"] S_are_near) (D_both_tell : Dn P w K mg base "both_tell" 6 ["one", "other", "low", "high"] S_both_tell) (D_nearest : Dn P w K mg base "nearest" 7 ["one", "other", "low", "high"] S_nearest) (D_part_at : Dn P w K mg base "part_at" 6 ["one", "other"] S_part_at) : Dn P w K mg base "_law_parting_right" 8 ["_law_one", "_law_other", "_law_low", "_law_high"] S_law_parting_right := by
  obtain ⟨kV, doc, pm, an, cdv, ct, Fn⟩ := T.fun_ "_law_parting_right" (top 56) 43 108
  exact ⟨⟨_, fg_law_parting_right T D_are_near D_both_tell D_nearest D_part_at Fn, Fn.binds (ps := ["_law_one", "_law_other", "_law_low", "_law_high"]) fun _ _ _ _ _ _ us hl => match us, hl with | [_, _, _, _], _ => rfl⟩, T.glo "_law_parting_right" 63, T.keep "_law_parting_right" 108⟩
def kk_law : RT → (PyData → Prop) := fun R v => R (.dat v) []
def em_law_1 (i : Unit) (s : List PyData) : List SD := [.un, .cel false s, .un, .un, .un, .un, .un, .un, .un, .un, .un]
def de_law_1 : List SD → Option ((Unit) × (List PyData))
  | [.un, .cel false x1, .un, .un, .un, .un, .un, .un, .un, .un, .un] => some ((), x1)
  | _ => none
theorem hde_law_1 : ∀ env i s, de_law_1 env = some (i, s) → env = em_law_1 i s := by
  intro env i s h
  unfold de_law_1 at h
  split at h
  · cases h; rfl
  · cases h
def S_law : DSp := fun as Q => match as with
  | [.dat x0] => q_law x0 (kk_law Q)
  | _ => False
theorem len_law (as : List SD) (Q : SD → List SD → Prop) (h : S_law as Q) : as.length = 1 := by
  unfold S_law at h
  split at h
  · rfl
  · exact h.elim
theorem cels_law : CelsIn 0 S_law := by
  intro as Q h i p xs e
  unfold S_law at h
  split at h
  · exact absurd e (no_cel (ds := [_]) i p xs)
  · exact h.elim
def N_law : List Str := ["_law_script", "_law_pot", "_law_turn", "_law_one", "_law_other", "_law_low", "_law_high", "_law_amid", "_law_told", "_law_hours", "_law_miles"]
theorem sc_law : FnScope N_law ["_law_script"] (defScope (top 57)) := ⟨rfl, rfl, rfl, by decide +kernel, rfl, by decide +kernel, by decide +kernel⟩
theorem fg_law (T : Tp K mg) (D_law_chase : Dn P w K mg base "_law_chase" 3 ["_law_pot", "_law_one", "_law_other"] S_law_chase) (D_law_draw : Dn P w K mg base "_law_draw" 2 ["_law_pot", "_law_many"] S_law_draw) (D_law_first : Dn P w K mg base "_law_first" 2 ["_law_one", "_law_other"] S_law_first) (D_law_log : Dn P w K mg base "_law_log" 3 ["_law_pot", "_law_most"] S_law_log) (D_law_none_nearer : Dn P w K mg base "_law_none_nearer" 7 ["_law_pot", "_law_one", "_law_other", "_law_low", "_law_high", "_law_told"] S_law_none_nearer) (D_law_parting_right : Dn P w K mg base "_law_parting_right" 8 ["_law_one", "_law_other", "_law_low", "_law_high"] S_law_parting_right) (D_law_pot_of : Dn P w K mg base "_law_pot_of" 1 ["_law_script"] S_law_pot_of) (D_law_together : Dn P w K mg base "_law_together" 1 ["_law_one", "_law_other"] S_law_together) (D_law_twin : Dn P w K mg base "_law_twin" 4 ["_law_pot", "_law_log_here"] S_law_twin) (D_are_near : Dn P w K mg base "are_near" 7 ["one", "other", "low", "high", "miles"] S_are_near) (D_both_tell : Dn P w K mg base "both_tell" 6 ["one", "other", "low", "high"] S_both_tell) (D_nearest : Dn P w K mg base "nearest" 7 ["one", "other", "low", "high"] S_nearest) {fd : FuncData} (Fn : Fun K "law" "law" (top 57) (He.ga K "law") fd) : FnG P w K mg base 9 (He.ga K "law") fd ["_law_script"] S_law := by
  refine dfn 0 Fn sc_law len_law cels_law fun cdv A outer s H hr hA => ⟨_, (scons (sset 1 sc_law.nd (dcn D_law_pot_of (hr.mono (by decide)) hA (acons (dv 0) anil))) (scons (sforQ [0, 2, 3, 4, 5, 6, 7, 8, 9, 10] de_law_1 em_law_1 kk_law qb_law_1 hde_law_1 PassesOwn.never rfl (irange1 (m_range T) (acons (dmax2 (m_max T) rfl (acons di (acons (dmin2 (m_min T) rfl (acons di (acons (dlen (m_len T) (acons (dv 0) anil)) anil))) anil))) anil)) (gn 2 sc_law.nd) (scons (sset 3 sc_law.nd (dcnC 1 D_law_log (hr.mono (by decide)) hA (acons di anil))) (scons (sset 4 sc_law.nd (dcnC 1 D_law_twin (hr.mono (by decide)) hA (acons (dv 3) anil))) (scons (sasg (dfrz (dcnC 1 D_law_chase (hr.mono (by decide)) hA (acons (dv 3) (acons (dv 4) anil)))) (gtup (gl_cons gok_n (gl_cons gok_n gl_nil)) rfl (gcons (gn 5 sc_law.nd) (gcons (gn 6 sc_law.nd) gnil)))) (scons (sset 7 sc_law.nd (dx (dadd (dv 5) (dfrz (dcnC 1 D_law_draw (hr.mono (by decide)) hA (acons (dadd (dsub (dv 6) (dv 5)) di) anil)))))) (scons (sset 8 sc_law.nd (dcn D_nearest (hr.mono (by decide)) hA (acons (dv 3) (acons (dv 4) (acons (dv 5) (acons (dv 6) anil)))))) (ssforget [2] (scons (sif (dcmpT (op_neE hr.units) opd_ne (dv 8) (dfrz (dcn D_law_first (hr.mono (by decide)) hA (acons (dfrz (dcn D_nearest (hr.mono (by decide)) hA (acons (dv 3) (acons (dv 4) (acons (dv 5) (acons (dv 7) anil)))))) (acons (dfrz (dcn D_nearest (hr.mono (by decide)) hA (acons (dv 3) (acons (dv 4) (acons (dv 7) (acons (dv 6) anil)))))) anil)))) (nomark _)) (sone (sret (m := 0) (dx db))) snil) (scons (sif (tnot (dtest (dfrz (dcnC 1 D_law_none_nearer (hr.mono (by decide)) hA (acons (dv 3) (acons (dv 4) (acons (dv 5) (acons (dv 6) (acons (dv 8) anil))))))))) (sone (sret (m := 0) (dx db))) snil) (scons (sset 9 sc_law.nd (dcn D_law_together (hr.mono (by decide)) hA (acons (dfrz (dcn D_both_tell (hr.mono (by decide)) hA (acons (dv 3) (acons (dv 4) (acons (dv 5) (acons (dv 7) anil)))))) (acons (dfrz (dcn D_both_tell (hr.mono (by decide)) hA (acons (dv 3) (acons (dv 4) (acons (dv 7) (acons (dv 6) anil)))))) anil)))) (ssforget [8] (scons (sif (tor (dcmpT (op_neE hr.units) opd_ne (dfrz (dcn D_both_tell (hr.mono (by decide)) hA (acons (dv 3) (acons (dv 4) (acons (dv 5) (acons (dv 6) anil)))))) (dv 9) (nomark _)) (tor1 (tnot (dtest (dfrz (dcn D_law_parting_right (hr.mono (by decide)) hA (acons (dv 3) (acons (dv 4) (acons (dv 5) (acons (dv 6) anil)))))))))).pt (sone (sret (m := 0) (dx db))) snil) (scons (sset 10 sc_law.nd (dcnC 1 D_law_draw (hr.mono (by decide)) hA (acons di anil))) (ssforget [9] (sone (sif (tand (dtest (dfrz (dcn D_are_near (hr.mono (by decide)) hA (acons (dv 3) (acons (dv 4) (acons (dv 5) (acons (dv 7) (acons (dv 10) anil)))))))) (tand1 (tnot (dtest (dfrz (dcn D_are_near (hr.mono (by decide)) hA (acons (dv 3) (acons (dv 4) (acons (dv 5) (acons (dv 6) (acons (dv 10) anil))))))))))).pt (sone (sret (m := 0) (dx db))) snil))))))))))))))) (fun R d i s nx bk h => Eq.mp (by kernel_rfl) h)) (sone (sret (m := 0) (dx db))))), fun as Q h => ?_⟩
  unfold S_law at h
  split at h
  · unfold q_law at h
    rename_i x0
    refine at_env (b := [.dat x0, .un, .un, .un, .un, .un, .un, .un, .un, .un, .un]) rfl ?_
    exact Eq.mp (by kernel_rfl) h
  · exact h.elim
theorem ok_law (T : Tp K mg) (D_law_chase : Dn P w K mg base "_law_chase" 3 ["_law_pot", "_law_one", "_law_other"] S_law_chase) (D_law_draw : Dn P w K mg base "_law_draw" 2 ["_law_pot", "_law_many"] S_law_draw) (D_law_first : Dn P w K mg base "_law_first" 2 ["_law_one", "_law_other"] S_law_first) (D_law_log : Dn P w K mg base "_law_log" 3 ["_law_pot", "_law_most"] S_law_log) (D_law_none_nearer : Dn P w K mg base "_law_none_nearer" 7 ["_law_pot", "_law_one", "_law_other", "_law_low", "_law_high", "_law_told"] S_law_none_nearer) (D_law_parting_right : Dn P w K mg base "_law_parting_right" 8 ["_law_one", "_law_other", "_law_low", "_law_high"] S_law_parting_right) (D_law_pot_of : Dn P w K mg base "_law_pot_of" 1 ["_law_script"] S_law_pot_of) (D_law_together : Dn P w K mg base "_law_together" 1 ["_law_one", "_law_other"] S_law_together) (D_law_twin : Dn P w K mg base "_law_twin" 4 ["_law_pot", "_law_log_here"] S_law_twin) (D_are_near : Dn P w K mg base "are_near" 7 ["one", "other", "low", "high", "miles"] S_are_near) (D_both_tell : Dn P w K mg base "both_tell" 6 ["one", "other", "low", "high"] S_both_tell) (D_nearest : Dn P w K mg base "nearest" 7 ["one", "other", "low", "high"] S_nearest) : Dn P w K mg base "law" 9 ["_law_script"] S_law := by
  obtain ⟨kV, doc, pm, an, cdv, ct, Fn⟩ := T.fun_ "law" (top 57) 44 109
  exact ⟨⟨_, fg_law T D_law_chase D_law_draw D_law_first D_law_log D_law_none_nearer D_law_parting_right D_law_pot_of D_law_together D_law_twin D_are_near D_both_tell D_nearest Fn, Fn.binds (ps := ["_law_script"]) fun _ _ _ _ _ _ us hl => match us, hl with | [_], _ => rfl⟩, T.glo "law" 64, T.keep "law" 109⟩
theorem law_imp (as : List SD) (Q : SD → List SD → Prop) (h : lawS 63 as Q) : S_law as Q := by
  unfold lawS at h
  split at h
  · obtain ⟨⟨ns, rfl, hn⟩, h⟩ := h
    exact the_law ns hn _ (h [])
  · exact h.elim

end
theorem facts {P : Program} {w : World} {K : PySem.W.Frag} {h : Heap} {mg : Str → Option Value} {f : Addr} (X : K.In h) (G : h.Ns mainGlobals mg) (hfa : mg ("law" : Str) = some (.ref f)) (c : He.SaysE fa fn K) (cx : FxSays fx K) :
    ∃ fd : FuncData, (∀ (s : Shared) (v : Value), BindsTo s fd ⟨[v], []⟩ [("_law_script", v)]) ∧ ∀ base : Heap, K.In base → base.Ns mainGlobals mg → SysD base → FnG P w K mg base 9 f fd ["_law_script"] (lawS 63) := by
  have T : Tp K mg := ⟨⟨c, h, X, G⟩, cx⟩
  have e := hfa.symm.trans (T.glo "law" 64)
  cases e
  obtain ⟨kV, doc, pm, an, cdv, ct, Fn⟩ := T.fun_ "law" (top 57) 44 109
  refine ⟨PySem.W.fnOf "law" "law" (defArgs (top 57)) (defBody (top 57)) (defScope (top 57)) .none kV doc pm an cdv ct, fun s v => .of_eq rfl, fun base _ _ BD => ?_⟩
  haveI : SysB base := ⟨BD⟩
  have D_is_whole : Dn P w K mg base "is_whole" 1 ["thing"] S_is_whole := ok_is_whole T 
  have D_divisor_of : Dn P w K mg base "divisor_of" 1 ["one", "other"] S_divisor_of := ok_divisor_of T 
  have D_lowest : Dn P w K mg base "lowest" 2 ["p", "q"] S_lowest := ok_lowest T D_divisor_of
  have D_is_hour : Dn P w K mg base "is_hour" 2 ["thing"] S_is_hour := ok_is_hour T D_is_whole
  have D_is_log_row : Dn P w K mg base "is_log_row" 3 ["thing"] S_is_log_row := ok_is_log_row T D_is_hour D_is_whole
  have D_is_log : Dn P w K mg base "is_log" 4 ["thing"] S_is_log := ok_is_log T D_is_log_row
  have D_need_log : Dn P w K mg base "need_log" 5 ["thing"] S_need_log := ok_need_log T D_is_log
  have D_need_chase : Dn P w K mg base "need_chase" 3 ["low", "high"] S_need_chase := ok_need_chase T D_is_hour
  have D_place_between : Dn P w K mg base "place_between" 3 ["one", "other", "p", "q"] S_place_between := ok_place_between T D_lowest
  have D_place_of : Dn P w K mg base "place_of" 4 ["log", "moment"] S_place_of := ok_place_of T D_place_between
  have D_place_at : Dn P w K mg base "place_at" 6 ["log", "moment"] S_place_at := ok_place_at T D_need_log D_place_of
  have D_hours_of_both : Dn P w K mg base "hours_of_both" 1 ["one", "other", "low", "high"] S_hours_of_both := ok_hours_of_both T 
  have D_both_tell : Dn P w K mg base "both_tell" 6 ["one", "other", "low", "high"] S_both_tell := ok_both_tell T D_hours_of_both D_need_chase D_need_log
  have D_marks_between : Dn P w K mg base "marks_between" 1 ["one", "other", "begin", "end"] S_marks_between := ok_marks_between T 
  have D_alike_at : Dn P w K mg base "alike_at" 5 ["one", "other", "hour"] S_alike_at := ok_alike_at T D_place_of
  have D_part_at : Dn P w K mg base "part_at" 6 ["one", "other"] S_part_at := ok_part_at T D_alike_at D_hours_of_both D_marks_between D_need_log
  have D_whole_place : Dn P w K mg base "whole_place" 1 ["log", "hour"] S_whole_place := ok_whole_place T 
  have D_apart_at : Dn P w K mg base "apart_at" 2 ["one", "other", "hour"] S_apart_at := ok_apart_at T D_whole_place
  have D_least_between : Dn P w K mg base "least_between" 3 ["one", "other", "begin", "end"] S_least_between := ok_least_between T D_apart_at D_lowest
  have D_nearest_of : Dn P w K mg base "nearest_of" 4 ["one", "other", "low", "high"] S_nearest_of := ok_nearest_of T D_hours_of_both D_least_between D_marks_between
  have D_need_both : Dn P w K mg base "need_both" 6 ["one", "other", "low", "high"] S_need_both := ok_need_both T D_need_chase D_need_log
  have D_nearest : Dn P w K mg base "nearest" 7 ["one", "other", "low", "high"] S_nearest := ok_nearest T D_nearest_of D_need_both
  have D_are_near_by : Dn P w K mg base "are_near_by" 5 ["one", "other", "low", "high", "miles"] S_are_near_by := ok_are_near_by T D_nearest_of
  have D_are_near : Dn P w K mg base "are_near" 7 ["one", "other", "low", "high", "miles"] S_are_near := ok_are_near T D_are_near_by D_is_whole D_need_both
  have D_law_pot_of : Dn P w K mg base "_law_pot_of" 1 ["_law_script"] S_law_pot_of := ok_law_pot_of T 
  have D_law_mixed : Dn P w K mg base "_law_mixed" 1 ["_law_seed", "_law_turn"] S_law_mixed := ok_law_mixed T 
  have D_law_draw : Dn P w K mg base "_law_draw" 2 ["_law_pot", "_law_many"] S_law_draw := ok_law_draw T D_law_mixed
  have D_law_wide : Dn P w K mg base "_law_wide" 3 ["_law_pot", "_law_many"] S_law_wide := ok_law_wide T D_law_draw
  have D_law_common : Dn P w K mg base "_law_common" 1 ["_law_one", "_law_other"] S_law_common := ok_law_common T 
  have D_law_terms : Dn P w K mg base "_law_terms" 2 ["_law_top", "_law_bottom"] S_law_terms := ok_law_terms T D_law_common
  have D_law_log : Dn P w K mg base "_law_log" 3 ["_law_pot", "_law_most"] S_law_log := ok_law_log T D_law_draw
  have D_law_plain : Dn P w K mg base "_law_plain" 1 ["_law_number"] S_law_plain := ok_law_plain T 
  have D_law_is_log : Dn P w K mg base "_law_is_log" 2 ["_law_thing"] S_law_is_log := ok_law_is_log T D_law_plain
  have D_law_spot : Dn P w K mg base "_law_spot" 1 ["_law_log_here", "_law_top", "_law_bottom"] S_law_spot := ok_law_spot T 
  have D_law_more_rows : Dn P w K mg base "_law_more_rows" 2 ["_law_log_here"] S_law_more_rows := ok_law_more_rows T D_law_spot
  have D_law_twin : Dn P w K mg base "_law_twin" 4 ["_law_pot", "_law_log_here"] S_law_twin := ok_law_twin T D_law_draw D_law_is_log D_law_log D_law_more_rows
  have D_law_chase : Dn P w K mg base "_law_chase" 3 ["_law_pot", "_law_one", "_law_other"] S_law_chase := ok_law_chase T D_law_draw
  have D_law_less : Dn P w K mg base "_law_less" 1 ["_law_one", "_law_other"] S_law_less := ok_law_less T 
  have D_law_first : Dn P w K mg base "_law_first" 2 ["_law_one", "_law_other"] S_law_first := ok_law_first T D_law_less
  have D_law_together : Dn P w K mg base "_law_together" 1 ["_law_one", "_law_other"] S_law_together := ok_law_together T 
  have D_law_gap : Dn P w K mg base "_law_gap" 1 ["_law_one", "_law_other"] S_law_gap := ok_law_gap T 
  have D_law_apart : Dn P w K mg base "_law_apart" 3 ["_law_one", "_law_other"] S_law_apart := ok_law_apart T D_law_gap D_law_terms
  have D_law_none_nearer : Dn P w K mg base "_law_none_nearer" 7 ["_law_pot", "_law_one", "_law_other", "_law_low", "_law_high", "_law_told"] S_law_none_nearer := ok_law_none_nearer T D_law_apart D_law_draw D_law_less D_law_terms D_law_wide D_place_at
  have D_law_parting_right : Dn P w K mg base "_law_parting_right" 8 ["_law_one", "_law_other", "_law_low", "_law_high"] S_law_parting_right := ok_law_parting_right T D_are_near D_both_tell D_nearest D_part_at
  exact (fg_law T D_law_chase D_law_draw D_law_first D_law_log D_law_none_nearer D_law_parting_right D_law_pot_of D_law_together D_law_twin D_are_near D_both_tell D_nearest Fn).imp law_imp
/-! ### the head -/
abbrev R : PySem.W.OpenRow := PySem.W.OpenLaw.row PySem.Challenge.rw_prizelog_k17_whole_chases_parted
abbrev hk : PySem.W.Hook := hookX 5 fa fn fx
def ob (s : PySem.W.SharedT) : He.Al × Bool × Bool := (He.obsG 5 fa fn (HandSHeadRun.getT s), sysB (HandSHeadRun.getT s), fxG 5 fx (HandSHeadRun.getT s))
theorem ob_eq (s : PySem.W.SharedT) : ob s = hk.obs s.abs := obsX_eq (HandSHeadRun.getT_eq s)
def loose : List Str := "is_whole" :: "divisor_of" :: "lowest" :: "PrizeError" :: "NoLog" :: "NoChase" :: "NoMiles" :: "MOST_ROWS" :: "LAST_HOUR" :: "FARTHEST" :: "is_hour" :: "is_log_row" :: "is_log" :: "need_log" :: "need_chase" :: "place_between" :: "place_of" :: "place_at" :: "hours_of_both" :: "both_tell" :: "marks_between" :: "alike_at" :: "part_at" :: "MOST_MILES" :: "whole_place" :: "apart_at" :: "least_between" :: "nearest_of" :: "need_both" :: "nearest" :: "are_near_by" :: "are_near" :: "_law_pot_of" :: "_law_mixed" :: "_law_draw" :: "_law_wide" :: "_law_common" :: "_law_terms" :: "_law_log" :: "_law_plain" :: "_law_is_log" :: "_law_spot" :: "_law_twin" :: "_law_more_rows" :: "_law_chase" :: "_law_less" :: "_law_first" :: "_law_together" :: "_law_gap" :: "_law_apart" :: "_law_none_nearer" :: "_law_parting_right" :: []
theorem run (w : World) : HandSHeadRun.RunEq R (PySem.W.view R.prog [57]) hk ob 4000 loose w := by
  intro os
  kernel_rfl
end K17
open PySem PySem.W PySem.Calls PyProof.Rows
set_option maxHeartbeats 0 in
theorem PySem.Challenge.cw_prizelog_k17_whole_chases_parted_holds : PySem.Challenge.rw_prizelog_k17_whole_chases_parted.Holds := by
  w_on; o_law
  refine HandSHeadRun.head_any (r := K17.R) (q := view K17.R.prog [57]) (H := K17.hk) (ob := K17.ob) (M := 4000) (loose := K17.loose) (d := HandSHeadRun.topDef K17.R.prog 57) (kwd := []) K17.ob_eq
    (by kernel_rfl) (fun s => by kernel_rfl) K17.run (by kernel_rfl) (by kernel_rfl) (by kernel_rfl) (by rfl) (by first | assumption | decide +kernel) (by decide +kernel) ⟨rfl, rfl, rfl, rfl, rfl, by decide +kernel⟩ ?hw ?hc
  case hw => w_witness2
  case hc =>
    refine DL.walk_dataE (l := PySem.Challenge.rw_prizelog_k17_whole_chases_parted) (n := 63) (k := 9) (x := "_law_script") rfl (by decide) (by kernel_rfl) ⟨rfl, by decide, by decide⟩ ?F
    intro w mg fa h Y G hmg0
    obtain ⟨⟨K, KX, c, cx⟩, hsys⟩ := Y
    have hmg : mg ("law" : PySem.Str) = some (.ref fa) := by
      have e : (HandSHeadRun.topDef K17.R.prog 57).name = ("law" : PySem.Str) := by kernel_rfl
      rw [← e]
      exact hmg0
    obtain ⟨fd, hb, hF⟩ := K17.facts (P := (PySem.Challenge.rw_prizelog_k17_whole_chases_parted).prog) (w := w) KX G hmg c cx
    exact ⟨K, fd, KX, hsys, hb, hF⟩
