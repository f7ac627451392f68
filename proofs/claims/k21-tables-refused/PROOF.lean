import PyProof.Rows.All
import Wide.All
import OpenK.AllK
import Wide.FinOn
import HandS.TupAny
import HandS.TupMul
import HandS.Conv
import HandS.Iter
import HandS.Deep
import HandS.ForMost
import HandS.Exc
import HandS.ExcOwn
import HandS.TryOnly
import HandS.WordsExc
import HandS.Wide
import HandS.IsInst
import HandS.Walk
import HandS.Zip
import HandS.Evl
import HandS.ExcIs
import HandS.HeadHook1
import HandS.Head0
import HandS.Head1
import HandS.Head2
import HandS.HeadEnd
import PyProof.ReprBulk
import KE.KTupSum
import HandS.Style
import HandS.Dict
import KE.GoesEnum
import HandS.Flt
import KE.DatumOrd
import PyProof.P3In
import HandS.SetFor
import HandS.Strs
import HandS.More
import HandS.HotCalls
import KE.SortData
import KE.DataAny
import KE.KDictSum
import KE.GoesComp
import HandS.TupSets
import PySem.Challenge.RW_prizelog_k21_tables_refused
set_option Elab.async false
set_option linter.all false
set_option maxRecDepth 100000
set_option maxHeartbeats 4000000
namespace DL
open PySem PySem.Spec PyProof.Rows L2
/-- a tuple's object that has no dict -/
def PlT (o : Obj) : Prop := o.cls = .type "tuple" ∧ o.dict = none
section
variable {X : Cx} {pins : List (Addr × Obj)} {σ : L2.St} {H : Hp} {s : Shared}
theorem layZ (I : Inv X pins σ H s) {xs : List V} {its : List Value} {arr : Array Value} {tk : Nat} (r : Vals xs its) (ha : arr = its.toArray) (hz : xs.length ≤ sizeLine) :
    ∃ o, PlT o ∧ Inv X pins σ (upd H s.heap.objs.size (.frz o (.tup xs))) { s with heap := s.heap.push { cls := .type "tuple", data := .seq arr }, toks := tk } := by
  subst ha
  refine ⟨{ cls := .type "tuple", data := .seq its.toArray }, ⟨rfl, rfl⟩, I.laid (fun b u e => Heap.get?_push_of_some _ e) (Nat.le_refl _) ?_⟩
  exact ⟨Heap.get?_push_size _ rfl, hz, its, r, ⟨_, Heap.get?_push_size _ rfl, rfl, _, rfl⟩⟩
/-- what a new tuple of the items xs is answered with -/
def NewZ (H : Hp) (xs : List V) (Q : VK) : Prop := ∀ p o, H p = none → PlT o → Q (.ref p) (upd H p (.frz o (.tup xs)))
theorem endZ (I : Inv X pins σ H s) {xs : List V} {its : List Value} {arr : Array Value} {tk : Nat} {Q : VK} (r : Vals xs its) (ha : arr = its.toArray) (hz : xs.length ≤ sizeLine) (q : NewZ H xs Q) :
    EP X pins σ Q (.ref s.heap.objs.size) { s with heap := s.heap.push { cls := .type "tuple", data := .seq arr }, toks := tk } := by
  obtain ⟨o, po, J⟩ := layZ (tk := tk) I r ha hz
  exact ⟨.ref s.heap.objs.size, _, J, rfl, q _ _ (I.hok.fresh (Nat.le_refl _)) po⟩
end
section
variable {X : Cx} {a b e : Expr} {es : List Expr} {t : TA} {ta : TE} {pos : Pos}
def tTupZ (t : TA) : TE := fun σ H Q => t σ H fun xs H1 => xs.length ≤ sizeLine ∧ NewZ H1 xs Q
theorem pe_tupZ {x1} (h : PA X es t) : PE X (.Tuple es x1 pos) (tTupZ t) := ⟨fun pins s σ H Q I hq => by
  refine wpAny_Tuple_spliced (thn (h.run pos pins s σ H _ I hq) ?_)
  intro us s1 ⟨xs, H1, I1, r, z, q⟩
  exact ⟨r.length ▸ z, endZ (tk := s1.toks) I1 r rfl z q⟩⟩
def rCatZ (K : PySem.W.Frag) : R2 := fun x y H Q => ∃ a b xs ys, x = .ref a ∧ y = .ref b ∧ SqT K H a xs ∧ SqT K H b ys ∧ xs.length + ys.length ≤ sizeLine ∧
  (xs = [] → Q (.ref b) H) ∧ (xs ≠ [] → ys = [] → Q (.ref a) H) ∧ (xs ≠ [] → ys ≠ [] → NewZ H (xs ++ ys) Q)
theorem op_catZ : OpR X (binaryOp .Add) (rCatZ X.K) := by
  rintro pins s σ H _ _ v u Q I rx ry ⟨l, m, xs, ys, rfl, rfl, hl, hm, hz, q0, q1, q2⟩
  cases rx
  cases ry
  obtain ⟨us, r1, p1, _⟩ := I.tuple hl
  obtain ⟨ws, r2, p2, _⟩ := I.tuple hm
  by_cases hx : xs = []
  · subst hx
    cases r1
    exact cat_tup0 p1 p2 ⟨.ref m, H, I, rfl, q0 rfl⟩
  · refine HT.cat_tup p1 p2 (mt r1.nil_iff.mp hx) (fun z => ⟨.ref l, H, I, rfl, q1 hx (r2.nil_iff.mp z)⟩) (fun z => ?_) (by rw [← r1.length, ← r2.length]; exact hz)
    exact endZ (tk := s.toks) I (r1.append r2) rfl (by simpa using hz) (q2 hx (mt r2.nil_iff.mpr z))
def rSlZ (K : PySem.W.Frag) : V → Option Int → Option Int → Hp → VK → Prop := fun x lo hi H Q => ∃ a xs, x = .ref a ∧ SqT K H a xs ∧
  (HT.sIx xs.length 0 lo = 0 ∧ HT.sIx xs.length xs.length hi = xs.length → Q (.ref a) H) ∧ (¬ (HT.sIx xs.length 0 lo = 0 ∧ HT.sIx xs.length xs.length hi = xs.length) → NewZ H (cutV xs lo hi) Q)
theorem sl_tupZ : SlR X (rSlZ X.K) := by
  rintro pins s σ H _ v vl vu lo hi sl Q I rx hs pl pu ⟨l, xs, rfl, hl, q1, q2⟩
  cases rx
  obtain ⟨us, r, ht, hz⟩ := I.tuple hl
  have hn : us.toArray.size = xs.length := by rw [List.size_toArray, ← r.length]
  refine ⟨"tuple", _, PyProof.Rows.slot_tuple_getitem.lookup, ht.typeIs, ?_⟩
  by_cases hw : HT.sIx xs.length 0 lo = 0 ∧ HT.sIx xs.length xs.length hi = xs.length
  · exact getItem_tuple_whole ht hs pl pu (hn ▸ hw) ⟨.ref l, H, I, rfl, q1 hw⟩
  · refine HT.getItem_tuple_cut ht hs pl pu (hn ▸ hw) ?_ (hn ▸ hz)
    rw [hn]
    exact endZ (tk := s.toks) I ((r.drop _).take _) rfl (Nat.le_trans (cutV_length xs lo hi) hz) (q2 hw)
/-- tuple(..) of a list or a tuple -/
def kTupZ (K : PySem.W.Frag) (x : V) (H : Hp) (Q : VK) : Prop := (∃ p xs, x = .ref p ∧ SqL K H p xs ∧ NewZ H xs Q) ∨ (∃ p xs, x = .ref p ∧ SqT K H p xs ∧ Q (.ref p) H)
theorem rl_tupleZ (pins : List (Addr × Obj)) (s : Shared) (σ : L2.St) (H : Hp) (x : V) (v : Value) (Q : VK) (I : Inv X pins σ H s) (r : RelV x v) (h : kTupZ X.K x H Q) :
    wpAny (model X.prog X.w) X.A (call (.type "tuple") [v]) (EP X pins σ Q) X.xe s := by
  rcases h with ⟨l, xs, rfl, hs, q⟩ | ⟨l, xs, rfl, hs, q⟩
  · cases r
    obtain ⟨us, rv, pl, hz⟩ := I.list hs
    refine call_tuple_list pl.isList (fun h' hk => ?_) (by rw [List.size_toArray, ← rv.length]; exact hz)
    exact endZ (tk := s.toks) (s := { s with heap := h' }) (I.kept (t' := s.toks) hk) rv rfl hz q
  · cases r
    obtain ⟨us, rv, pl, hz⟩ := I.tuple hs
    exact call_tuple_tup pl ⟨.ref l, H, I, rfl, q⟩
theorem pe_tupleZ {p : Pos} (hg : Gl X "tuple") (hm : X.mg "tuple" = none) (ha : PE X a ta) (na : starEach [a] X.env = (false, eval a X.env) :: starEach [] X.env := by rfl) :
    PE X (.Call (.Name "tuple" p) [a] [] pos) (tThen ta (kTupZ X.K)) := ⟨fun pins s σ H Q I h =>
  Call_ (ld_blt I hg hm boot_tuple (PyProof.Rows.callWith_type1 (one_arg ha I h (fun v s2 x H2 I2 r q => rl_tupleZ pins s2 σ H2 x v Q I2 r q) na) na))⟩
/-- xs * k, k from 2 on -/
def rRepZ (K : PySem.W.Frag) : R2 := fun x y H Q => ∃ l k xs, x = .ref l ∧ y = .int k ∧ SqT K H l xs ∧ xs ≠ [] ∧ 2 ≤ k ∧ k ≤ 1000 ∧ xs.length ≤ 1000 ∧ NewZ H (List.replicate k.toNat xs).flatten Q
theorem op_repZ : OpR X (binaryOp .Mult) (rRepZ X.K) := by
  rintro pins s σ H _ _ v u Q I rx ry ⟨l, k, xs, rfl, rfl, hT, hne, h1, h2, hz, q⟩
  cases rx
  obtain ⟨t, rfl⟩ := ry
  obtain ⟨us, r, ⟨⟨cls, dd, data, sl⟩, ho, hc, n, hd⟩, _⟩ := I.tuple hT
  simp only at hc hd
  subst hc hd
  have hl : us.toArray.size = xs.length := by rw [List.size_toArray, ← r.length]
  have e0 : us.toArray.isEmpty = false := by
    cases us with
    | nil => exact absurd (r.nil_iff.mp rfl) hne
    | cons _ _ => rfl
  have big : k.toNat * xs.length ≤ 1000 * 1000 := Nat.mul_le_mul (by omega) hz
  have bigI : ((us.toArray.size : Nat) : Int) * k ≤ 1000000 := by
    have z : ((xs.length * k.toNat : Nat) : Int) ≤ 1000000 := by rw [Nat.mul_comm]; omega
    rw [hl]
    rw [Int.natCast_mul, Int.toNat_of_nonneg (by omega)] at z
    exact z
  have fl : (List.replicate k.toNat us).flatten.length ≤ sizeLine := by
    rw [PyProof.Rows.lm_len_rep_flat, ← r.length, sizeLine_eq]
    omega
  have c0 : (decide (k < -(2 ^ 63)) || decide (k ≥ 2 ^ 63)) = false := by
    rw [Bool.or_eq_false_iff]
    exact ⟨decide_eq_false (by omega), decide_eq_false (by omega)⟩
  have c1 : (us.toArray.isEmpty || k == 1) = false := by rw [e0, Bool.false_or, beq_eq_false_iff_ne]; omega
  have c2 : (decide (k ≤ 0) || us.toArray.isEmpty) = false := by rw [e0, Bool.or_false]; exact decide_eq_false (by omega)
  have c4 : Builtin.Tuple.tupleTooMany (((us.toArray.size : Nat) : Int) * k) = false := decide_eq_false (by rw [sizeLine_eq]; omega)
  refine wpAny_binaryOp_repeat_ref (T := "tuple") (U := "int") (by decide) ⟨_, ho, rfl⟩ (fun _ => typeIs_int _ k t) noFill_tuple_mul F.fills_int_mul F.slot_int_rmul repeat_tuple F.slot_int_index.lookup ?_
  refine call_meets F.slot_int_rmul (typeIs_int s k t) F.entry_int_rmul (F.args_int_rmul_2 _ _) (int_rmul_tuple k t l us.toArray n dd sl) ⟨ho, rfl, ⟨_, ho, rfl⟩, ?_⟩
  refine call_meets F.slot_tuple_mul ⟨_, ho, rfl⟩ F.entry_tuple_mul (F.args_tuple_mul_2 _ _) (tuple_mulW l us.toArray n dd sl k t c0 c1 c2 (by omega) c4 ?_) ⟨ho, ?_⟩
  · rw [size_rep, List.size_toArray]
    exact fl
  · rw [size_rep]
    exact endZ (tk := s.toks) I (r.rep k.toNat) rfl (by rw [PyProof.Rows.lm_len_rep_flat, sizeLine_eq]; omega) q
end
/-- a dict whose keys are tuples of whole numbers and texts: the keys, where they stand, the values -/
abbrev DicE (P : Program) (w : World) (a : Addr) (xs : List (List Key × Addr × Value)) : HO := .ext fun h => ((a == sysModules) = false ∧ xs.length ≤ sizeLine) ∧
  ∃ o es ep, h.get? a = some o ∧ o.ExactDict ∧ o.data = .dict es ep ∧ es.toList = xs.map (entryOfKey (tupleKind (mixKind P w))) ∧ (xs.map (·.1)).Nodup
end DL

namespace DL
open PySem PySem.Spec PyProof.Rows L2
open Evl (Ex)

/-- a list that stays as it is: tracked, known, or written at the top -/
def RdL (K : PySem.W.Frag) (F : Hp) (a : Addr) (xs : List V) : Prop :=
  Rd F a (.lst xs) ∨ ∃ (its : List Value) (n : Nat), K.lookup a = some { cls := .type "list", data := .seq its.toArray n } ∧ Vals xs its ∧ its.length ≤ sizeLine
theorem RdL.mono {K : PySem.W.Frag} {F F' : Hp} {a : Addr} {xs : List V} (e : Ex F F') (h : RdL K F a xs) : RdL K F' a xs := h.imp (Evl.ex_rd e) id
theorem RdL.of {K : PySem.W.Frag} {F : Hp} {a : Addr} {xs : List V} (h : F a = some (.lst xs)) : RdL K F a xs := .inl (.inl h)
theorem RdL.sq {K : PySem.W.Frag} {F : Hp} {a : Addr} {xs : List V} (h : RdL K F a xs) : SqL K F a xs := by
  rcases h with h | ⟨its, n, h1, h2, h3⟩
  · exact .inl h
  · exact .inr ⟨_, its.toArray, n, h1, rfl, rfl, rfl, by simpa using h3, by simpa using h2⟩
theorem RdL.obj {X : Cx} {pins : List (Addr × Obj)} {σ : L2.St} {H : Hp} {s : Shared} {a : Addr} {xs : List V} (h : RdL X.K H a xs) (I : Inv X pins σ H s) : xs.length ≤ sizeLine ∧ ∃ (its : List Value) (n : Nat), Vals xs its ∧ s.heap.get? a = some { cls := .type "list", data := .seq its.toArray n } := by
  rcases h with h | ⟨its, n, h1, h2, h3⟩
  · exact h.ok I.hok
  · exact ⟨by rw [h2.length]; exact h3, its, n, h2, I.kIn a _ h1⟩
/-- the classes of refusals -/
def exNames : List Str := "PrizeError" :: "NoWeights" :: "NoPart" :: "NoNumber" :: "NoLog" :: "NoChase" :: "NoMiles" :: "NoLogs" :: "NoTable" :: "NoSights" :: "NoSet" :: "NoRoll" :: "NoName" :: "NoHour" :: "NoScheme" :: "NoCrew" :: "NoMan" :: "NoSale" :: "NoCrews" :: "NoPages" :: "NoPage" :: "NoPrize" :: "NoBalances" :: "NoMoney" :: "NoChange" :: "TooMany" :: "NoText" :: "NoRow" :: []
def exBases : List Value := [.type "ValueError", .type "Exception", .type "BaseException", .type "object"]
def exTypes : List String := ["int", "bool", "str", "tuple", "dict"]
/-- whether the one is the other or of it -/
def exSub (c d : Str) : Bool := decide (c = d) || decide (d = "PrizeError")
/-- what a class of refusals must say -/
def xcB (K : PySem.W.Frag) (c : Str) : Bool :=
  decide (PySem.W.findIn K (.ref (He.ga K c)) "__getattribute__" = some (some (.builtin "BaseException.__getattribute__"))) &&
  (decide (PySem.W.findIn K (.ref (He.ga K c)) "__getattr__" = some none) &&
  (decide (PySem.W.subIn K (.ref (He.ga K c)) (.type "BaseException") = some true) &&
  (PySem.W.hasDictIn K (He.ga K c) &&
  (decide (PySem.W.findIn K (.ref (He.ga K c)) "__class__" = some (some (.builtin "object.__class__"))) &&
  (decide (PySem.W.specialIn K (.builtin "object.__class__") "__get__" = some (some (.builtin "getset_descriptor.__get__"))) &&
  (decide (PySem.W.takesIn K (.builtin "object.__class__") = some true) &&
  (decide (PySem.W.mroIn K (He.ga K c) (.type "object") = some true) &&
  (PySem.W.excIn K (He.ga K c) exBases "ValueError.__new__" &&
  (PySem.W.keepIn K (.ref (He.ga K c)) &&
  (decide (PySem.W.typeIn K (.ref (He.ga K c)) = some (.type "type")) &&
  (decide (PySem.W.exmOne K (.ref (He.ga K c)) (.ref (He.ga K "PrizeError")) = some true) &&
  (decide (PySem.W.kitOne K (.ref (He.ga K c)) (.type "ValueError") = some true) &&
  (exTypes.all (fun T => decide (PySem.W.kitOne K (.ref (He.ga K c)) (.type T) = some false)) &&
  exNames.all (fun d => decide (PySem.W.kitOne K (.ref (He.ga K c)) (.ref (He.ga K d)) = some (exSub c d))))))))))))))))
structure XcF (K : PySem.W.Frag) (c : Str) : Prop where
  cls : ExcC K (He.ga K c)
  made : PySem.W.excIn K (He.ga K c) exBases "ValueError.__new__" = true
  kp : PySem.W.keepIn K (.ref (He.ga K c)) = true
  ty : PySem.W.typeIn K (.ref (He.ga K c)) = some (.type "type")
  exm : PySem.W.exmOne K (.ref (He.ga K c)) (.ref (He.ga K "PrizeError")) = some true
  ve : PySem.W.kitOne K (.ref (He.ga K c)) (.type "ValueError") = some true
  six : ∀ T ∈ exTypes, PySem.W.kitOne K (.ref (He.ga K c)) (.type T) = some false
  own : ∀ d ∈ exNames, PySem.W.kitOne K (.ref (He.ga K c)) (.ref (He.ga K d)) = some (exSub c d)
theorem xcB_ok {K : PySem.W.Frag} {c : Str} (h : xcB K c = true) : XcF K c := by
  unfold xcB at h
  simp only [Bool.and_eq_true, decide_eq_true_eq, List.all_eq_true] at h
  obtain ⟨a1, a2, a3, a4, a5, a6, a7, a8, a9, b1, b2, b3, b4, b5, b6⟩ := h
  exact ⟨⟨a1, a2, a3, a4, a5, a6, a7, a8⟩, a9, b1, b2, b3, b4, b5, b6⟩
/-- an exception's object -/
def ExcAt (C a : Addr) : Heap → Prop := fun h => ∃ oe vs, h.get? a = some oe ∧ oe.cls = .ref C ∧ oe.dict = none ∧ oe.data = .fields vs
/-- a tuple that stays, whose object has no dict -/
def TqT (K : PySem.W.Frag) (F : Hp) (a : Addr) (xs : List V) : Prop := (∃ o, F a = some (.frz o (.tup xs)) ∧ PlT o) ∨
  ∃ (o : Obj) (its : Array Value) (n : Nat), K.lookup a = some o ∧ PlT o ∧ o.data = .seq its n ∧ its.size ≤ sizeLine ∧ Vals xs its.toList
theorem TqT.sq {K : PySem.W.Frag} {F : Hp} {a : Addr} {xs : List V} (h : TqT K F a xs) : SqT K F a xs := by
  rcases h with ⟨o, h, _⟩ | ⟨o, its, n, h1, h2, h3, h4, h5⟩
  · exact .inl (.inr ⟨o, h⟩)
  · exact .inr ⟨o, its, n, h1, h2.1, h3, h4, h5⟩
theorem TqT.mono {K : PySem.W.Frag} {F F' : Hp} {a : Addr} {xs : List V} (e : Ex F F') (h : TqT K F a xs) : TqT K F' a xs := h.imp (fun ⟨o, h, p⟩ => ⟨o, e _ _ h, p⟩) id
mutual
inductive DR (K : PySem.W.Frag) (F : Hp) : V → PyData → Prop
  | non : DR K F .non .none
  | bl (b : Bool) : DR K F (.bl b) (.bool b)
  | int (i : Int) : DR K F (.int i) (.int i)
  | str (x : Str) : DR K F (.str x) (.str x)
  | lst {a : Addr} {xs : List V} {ds : List PyData} : RdL K F a xs → DRs K F xs ds → DR K F (.ref a) (.list ds)
  | tup {a : Addr} {xs : List V} {ds : List PyData} : TqT K F a xs → DRs K F xs ds → DR K F (.ref a) (.tuple ds)
  | dct {a : Addr} : F a = some (.dK []) → DR K F (.ref a) (.dict [])
  /-- a list that a def made and may still change -/
  | row {a : Addr} {xs : List V} {ds : List PyData} : F a = some (.lst xs) → DRs K F xs ds → DR K F (.ref a) (.dict [(.none, .list ds)])
  /-- a caught refusal of the class c -/
  | exc {a : Addr} {c : Str} : F a = some (.ext (ExcAt (He.ga K c) a)) → XcF K c → DR K F (.ref a) (.dict [(.none, .str c)])
inductive DRs (K : PySem.W.Frag) (F : Hp) : List V → List PyData → Prop
  | nil : DRs K F [] []
  | cons {v : V} {vs : List V} {d : PyData} {ds : List PyData} : DR K F v d → DRs K F vs ds → DRs K F (v :: vs) (d :: ds)
end

section
variable {K : PySem.W.Frag} {F F' H H' : Hp}
mutual
theorem DR.mono (e : Ex F F') : ∀ {v : V} {d : PyData}, DR K F v d → DR K F' v d
  | _, _, .non => .non
  | _, _, .bl b => .bl b
  | _, _, .int i => .int i
  | _, _, .str x => .str x
  | _, _, .lst h r => .lst (h.mono e) (DRs.mono e r)
  | _, _, .tup h r => .tup (h.mono e) (DRs.mono e r)
  | _, _, .dct h => .dct (e _ _ h)
  | _, _, .row h r => .row (e _ _ h) (DRs.mono e r)
  | _, _, .exc h x => .exc (e _ _ h) x
theorem DRs.mono (e : Ex F F') : ∀ {v : List V} {d : List PyData}, DRs K F v d → DRs K F' v d
  | _, _, .nil => .nil
  | _, _, .cons a b => .cons (DR.mono e a) (DRs.mono e b)
end
theorem DRs.length : ∀ {vs : List V} {ds : List PyData}, DRs K F vs ds → vs.length = ds.length
  | _, _, .nil => rfl
  | _, _, .cons _ b => congrArg (· + 1) b.length
theorem DRs.get : ∀ {vs : List V} {ds : List PyData} {i : Nat} {d : PyData}, DRs K F vs ds → ds[i]? = some d → ∃ v, vs[i]? = some v ∧ DR K F v d
  | _, _, _, _, .nil, h => by simp at h
  | _, _, 0, _, .cons a b, h => by simp at h; subst h; exact ⟨_, rfl, a⟩
  | _, _, i + 1, d, .cons a b, h => by
    obtain ⟨v, h1, h2⟩ := b.get (i := i) (d := d) (by simpa using h)
    exact ⟨v, by simpa using h1, h2⟩
theorem DRs.append : ∀ {vs ws : List V} {ds es : List PyData}, DRs K F vs ds → DRs K F ws es → DRs K F (vs ++ ws) (ds ++ es)
  | _, _, _, _, .nil, h => h
  | _, _, _, _, .cons a b, h => .cons a (b.append h)
theorem DRs.take : ∀ {vs : List V} {ds : List PyData} (n : Nat), DRs K F vs ds → DRs K F (vs.take n) (ds.take n)
  | _, _, 0, _ => .nil
  | _, _, _ + 1, .nil => .nil
  | _, _, n + 1, .cons a b => .cons a (b.take n)
theorem DRs.drop : ∀ {vs : List V} {ds : List PyData} (n : Nat), DRs K F vs ds → DRs K F (vs.drop n) (ds.drop n)
  | _, _, 0, h => h
  | _, _, _ + 1, .nil => .nil
  | _, _, n + 1, .cons a b => b.drop n
theorem DRs.set : ∀ {vs : List V} {ds : List PyData} (n : Nat) {v : V} {d : PyData}, DR K F v d → DRs K F vs ds → DRs K F (vs.set n v) (ds.set n d)
  | _, _, _, _, _, _, .nil => .nil
  | _, _, 0, _, _, h, .cons a b => .cons h b
  | _, _, n + 1, _, _, h, .cons a b => .cons a (b.set n h)
theorem DRs.one {v : V} {d : PyData} (h : DR K F v d) : DRs K F [v] [d] := .cons h .nil
theorem DRs.inv1 {vs : List V} {d : PyData} (h : DRs K F vs [d]) : ∃ v, vs = [v] ∧ DR K F v d := by
  cases h with
  | cons a b => cases b; exact ⟨_, rfl, a⟩
theorem DRs.inv2 {vs : List V} {d e : PyData} (h : DRs K F vs [d, e]) : ∃ v w, vs = [v, w] ∧ DR K F v d ∧ DR K F w e := by
  cases h with
  | cons a b =>
    obtain ⟨w, rfl, r⟩ := b.inv1
    exact ⟨_, w, rfl, a, r⟩
theorem DR.inv_int {v : V} {i : Int} (h : DR K F v (.int i)) : v = .int i := by cases h; rfl
theorem DR.inv_bool {v : V} {i : Bool} (h : DR K F v (.bool i)) : v = .bl i := by cases h; rfl
theorem DR.inv_str {v : V} {i : Str} (h : DR K F v (.str i)) : v = .str i := by cases h; rfl
theorem DR.inv_tup {v : V} {ds : List PyData} (h : DR K F v (.tuple ds)) : ∃ a xs, v = .ref a ∧ SqT K F a xs ∧ DRs K F xs ds := by cases h with | tup a b => exact ⟨_, _, rfl, a.sq, b⟩
theorem DR.inv_lst {v : V} {ds : List PyData} (h : DR K F v (.list ds)) : ∃ a xs, v = .ref a ∧ RdL K F a xs ∧ DRs K F xs ds := by cases h with | lst a b => exact ⟨_, _, rfl, a, b⟩
end

inductive SD where
  | un
  | dat (d : PyData)
  | cel (p : Bool) (xs : List PyData)
  /-- a dict of one's own, its keys tuples of whole numbers and texts -/
  | dic (kvs : List (List Key × PyData))
/-- what is fixed for a def's whole run -/
structure Zx where
  F0 : Hp
  H0 : Hp
  A0 : Nat → Option Addr
  Pr0 : Hp
  P : Program
  w : World
structure Gx (Z : Zx) where
  Pr : Hp
  px : Ex Z.Pr0 Pr
variable {Z : Zx}
def Gx.hid (g : Gx Z) (D : Addr) (vs : List V) (h : g.Pr D = none) : Gx Z := ⟨upd g.Pr D (.lst vs), fun a o e => by
  have q := g.px a o e
  have ne : a ≠ D := fun z => by rw [z, h] at q; cases q
  rw [upd_ne ne]
  exact q⟩
abbrev Gx.F0 (_ : Gx Z) : Hp := Z.F0
abbrev Gx.H0 (_ : Gx Z) : Hp := Z.H0
abbrev Gx.A0 (_ : Gx Z) : Nat → Option Addr := Z.A0
/-- the dict's keys and values as they stand -/
def DicR (K : PySem.W.Frag) (F : Hp) (kvs : List (List Key × PyData)) (xs : List (List Key × Addr × Value)) : Prop :=
  Paired (fun p x => p.1 = x.1 ∧ TqT K F x.2.1 (p.1.map kV) ∧ ∃ v, DR K F v p.2 ∧ RelV v x.2.2) kvs xs
theorem DicR.mono {K : PySem.W.Frag} {F F' : Hp} (e : Ex F F') {kvs : List (List Key × PyData)} {xs : List (List Key × Addr × Value)} (h : DicR K F kvs xs) : DicR K F' kvs xs :=
  Paired.mapP h fun _ _ ⟨h1, h2, v, h3, h4⟩ => ⟨h1, h2.mono e, v, h3.mono e, h4⟩
def DicsOk (K : PySem.W.Frag) (g : Gx Z) (F : Hp) (env : List SD) (σ : L2.St) (H : Hp) : Prop := ∀ (i : Nat) (kvs : List (List Key × PyData)), env[i]? = some (.dic kvs) →
  ∃ a xs, σ[i]? = some (some (.ref a)) ∧ F a = none ∧ H a = some (DicE Z.P Z.w a xs) ∧ DicR K F kvs xs ∧ g.H0 a = none ∧ g.Pr a = none ∧ ∀ j ys, env[j]? = some (.dic ys) → σ[j]? = some (some (.ref a)) → j = i
section
variable {K : PySem.W.Frag} {g g' : Gx Z} {F F' : Hp} {env : List SD} {σ : L2.St} {H H' : Hp}
theorem DicsOk.keep (d : DicsOk K g F env σ H) (e : Ex F F') (hp : ∀ a xs, H a = some (DicE Z.P Z.w a xs) → g.Pr a = none → g'.Pr a = none) (hk : ∀ a xs, H a = some (DicE Z.P Z.w a xs) → F a = none → F' a = none ∧ H' a = H a) : DicsOk K g' F' env σ H' := fun i kvs h => by
  obtain ⟨a, xs, h1, h2, h3, h4, h5, h6, h7⟩ := d i kvs h
  obtain ⟨z1, z2⟩ := hk a xs h3 h2
  exact ⟨a, xs, h1, z1, z2.trans h3, h4.mono e, h5, hp a xs h3 h6, h7⟩
theorem DicsOk.setE (d : DicsOk K g F env σ H) {i : Nat} {x : SD} (hx : ∀ kvs, x ≠ .dic kvs) : DicsOk K g F (env.set i x) σ H := fun j kvs h => by
  have old : ∀ {j : Nat} {kvs : List (List Key × PyData)}, (env.set i x)[j]? = some (.dic kvs) → env[j]? = some (.dic kvs) := fun {j kvs} h => by
    rw [List.getElem?_set] at h
    by_cases e : i = j
    · rw [if_pos e] at h
      split at h
      · exact absurd (Option.some.inj h) (hx kvs)
      · cases h
    · rwa [if_neg e] at h
  obtain ⟨a, xs, h1, h2, h3, h4, h5, h6, h7⟩ := d j kvs (old h)
  exact ⟨a, xs, h1, h2, h3, h4, h5, h6, fun l ys e => h7 l ys (old e)⟩
theorem DicsOk.set (d : DicsOk K g F env σ H) {i : Nat} {x : SD} {v : Option V} (hx : ∀ kvs, x ≠ .dic kvs) : DicsOk K g F (env.set i x) (σ.set i v) H := fun j kvs h => by
  have ne : ∀ {j : Nat} {kvs : List (List Key × PyData)}, (env.set i x)[j]? = some (.dic kvs) → i ≠ j := fun {j kvs} h e => by
    rw [List.getElem?_set, if_pos e] at h
    split at h
    · exact absurd (Option.some.inj h) (hx kvs)
    · cases h
  have st : ∀ {j : Nat}, i ≠ j → (σ.set i v)[j]? = σ[j]? := fun n => List.getElem?_set_ne n
  obtain ⟨a, xs, h1, h2, h3, h4, h5, h6, h7⟩ := d.setE hx j kvs h
  exact ⟨a, xs, by rw [st (ne h)]; exact h1, h2, h3, h4, h5, h6, fun l ys e z => h7 l ys e (by rw [← st (ne e)]; exact z)⟩
end
structure Ok (K : PySem.W.Frag) (g : Gx Z) (F : Hp) (env : List SD) (σ : L2.St) (H : Hp) : Prop where
  len : env.length = σ.length
  fh : Ex F H
  dat : ∀ (i : Nat) (d : PyData), env[i]? = some (.dat d) → ∃ v, σ[i]? = some (some v) ∧ DR K F v d
  cel : ∀ (i : Nat) (p : Bool) (xs : List PyData), env[i]? = some (.cel p xs) → ∃ a vs, σ[i]? = some (some (.ref a)) ∧ F a = none ∧ H a = some (.lst vs) ∧ DRs K F vs xs ∧ (p = true → g.A0 i = some a) ∧ (p = false → g.H0 a = none)
  sep : ∀ (i j : Nat) (p q : Bool) (xs ys : List PyData) (a : Addr), env[i]? = some (.cel p xs) → env[j]? = some (.cel q ys) → σ[i]? = some (some (.ref a)) → σ[j]? = some (some (.ref a)) → i = j
  pin : ∀ (i : Nat) (a : Addr), g.A0 i = some a → ∃ xs, env[i]? = some (.cel true xs)
  frame : ∀ (a : Addr) (o : HO), g.H0 a = some o → (∀ i, g.A0 i ≠ some a) → H a = some o
  newF : ∀ (a : Addr) (o : HO), F a = some o → g.F0 a = some o ∨ g.H0 a = none
  oldF : Ex g.F0 F
  prot : ∀ (a : Addr) (o : HO), g.Pr a = some o → H a = some o ∧ F a = none ∧ ∀ (j : Nat) (p : Bool) (ys : List PyData), env[j]? = some (.cel p ys) → σ[j]? ≠ some (some (.ref a))
  dic : DicsOk K g F env σ H
section
variable {K : PySem.W.Frag} {g : Gx Z} {F F' : Hp} {env : List SD} {σ : L2.St} {H : Hp}

theorem Ok.fresh0 (k : Ok K g F env σ H) {p : Addr} (h : H p = none) : g.H0 p = none := by
  cases e : g.H0 p with
  | none => rfl
  | some o =>
    by_cases q : ∃ i, g.A0 i = some p
    · obtain ⟨i, hi⟩ := q
      obtain ⟨xs, hx⟩ := k.pin i p hi
      obtain ⟨a, vs, _, _, h2, _, h3, _⟩ := k.cel i true xs hx
      have h3 := h3 rfl
      rw [hi] at h3
      cases h3
      rw [h] at h2
      cases h2
    · have z := k.frame p o e fun i hi => q ⟨i, hi⟩
      rw [h] at z
      cases z
theorem fnone (e : Ex F H) {p : Addr} (h : H p = none) : F p = none := by
  cases q : F p with
  | none => rfl
  | some o =>
    rw [e p o q] at h
    cases h
theorem ex_both (e : Ex F H) {p : Addr} {o : HO} (h : H p = none) : Ex (upd F p o) (upd H p o) := fun b u q => by
  by_cases hb : b = p
  · subst hb
    rw [upd_same] at q ⊢
    exact q
  · rw [upd_ne hb] at q ⊢
    exact e b u q
/-- a new thing that never changes -/
theorem Ok.alloc (k : Ok K g F env σ H) {p : Addr} {o : HO} (h : H p = none) : Ok K g (upd F p o) env σ (upd H p o) where
  len := k.len
  fh := ex_both k.fh h
  dat := fun i d e => by
    obtain ⟨v, h1, h2⟩ := k.dat i d e
    exact ⟨v, h1, h2.mono (Ex.new (fnone k.fh h))⟩
  cel := fun i q xs e => by
    obtain ⟨a, vs, h1, h2, h3, h4, h5⟩ := k.cel i q xs e
    have ne : a ≠ p := ne_of_none h3 h
    exact ⟨a, vs, h1, by rw [upd_ne ne]; exact h2, by rw [upd_ne ne]; exact h3, h4.mono (Ex.new (fnone k.fh h)), h5⟩
  sep := k.sep
  pin := k.pin
  frame := fun a u e n => by
    have q := k.frame a u e n
    rw [upd_ne (ne_of_none q h)]
    exact q
  newF := fun a u e => by
    by_cases hb : a = p
    · subst hb
      exact .inr (k.fresh0 h)
    · rw [upd_ne hb] at e
      exact k.newF a u e
  oldF := fun a u e => (Ex.new (fnone k.fh h)) a u (k.oldF a u e)
  prot := fun a u e => by
    obtain ⟨z1, z2, z3⟩ := k.prot a u e
    have ne : a ≠ p := ne_of_none z1 h
    exact ⟨by rw [upd_ne ne]; exact z1, by rw [upd_ne ne]; exact z2, z3⟩
  dic := k.dic.keep (Ex.new (fnone k.fh h)) (fun _ _ _ z => z) fun a xs h1 h2 => by
    have ne : a ≠ p := ne_of_none h1 h
    exact ⟨by rw [upd_ne ne]; exact h2, upd_ne ne⟩
/-- a new thing of no name yet -/
theorem Ok.extra (k : Ok K g F env σ H) {p : Addr} {o : HO} (h : H p = none) : Ok K g F env σ (upd H p o) where
  len := k.len
  fh := fun a u e => by
    have q := k.fh a u e
    rw [upd_ne (ne_of_none q h)]
    exact q
  dat := k.dat
  cel := fun i q xs e => by
    obtain ⟨a, vs, h1, h2, h3, h4, h5⟩ := k.cel i q xs e
    have ne : a ≠ p := ne_of_none h3 h
    exact ⟨a, vs, h1, h2, by rw [upd_ne ne]; exact h3, h4, h5⟩
  sep := k.sep
  pin := k.pin
  frame := fun a u e n => by
    have q := k.frame a u e n
    rw [upd_ne (ne_of_none q h)]
    exact q
  newF := k.newF
  oldF := k.oldF
  prot := fun a u e => by
    obtain ⟨z1, z2, z3⟩ := k.prot a u e
    have ne : a ≠ p := ne_of_none z1 h
    exact ⟨by rw [upd_ne ne]; exact z1, z2, z3⟩
  dic := k.dic.keep (Ex.refl F) (fun _ _ _ z => z) fun a xs h1 h2 => ⟨h2, upd_ne (ne_of_none h1 h)⟩
theorem get_set {α : Type} {l : List α} {i j : Nat} {x y : α} (h : (l.set i x)[j]? = some y) : (i = j ∧ y = x) ∨ (i ≠ j ∧ l[j]? = some y) := by
  rw [List.getElem?_set] at h
  by_cases e : i = j
  · rw [if_pos e] at h
    split at h
    · exact .inl ⟨e, (Option.some.inj h).symm⟩
    · cases h
  · rw [if_neg e] at h
    exact .inr ⟨e, h⟩
theorem set_ne {α : Type} {l : List α} {i j : Nat} {x : α} (h : i ≠ j) : (l.set i x)[j]? = l[j]? := List.getElem?_set_ne h
theorem set_eq {α : Type} {l : List α} {i : Nat} {x y : α} (h : l[i]? = some y) : (l.set i x)[i]? = some x := by
  obtain ⟨h1, _⟩ := List.getElem?_eq_some_iff.mp h
  exact List.getElem?_set_self h1
/-- a slot that is no parameter's cell -/
def NoPar (env : List SD) (i : Nat) : Prop := ∀ xs, env[i]? ≠ some (.cel true xs)
/-- a name gets a datum -/
theorem Ok.setD (k : Ok K g F env σ H) {i : Nat} {d : PyData} {v : V} (hp : NoPar env i) (h : DR K F v d) : Ok K g F (env.set i (.dat d)) (σ.set i (some v)) H where
  len := by simp [k.len]
  fh := k.fh
  dat := fun j e hj => by
    rcases get_set hj with ⟨rfl, q⟩ | ⟨n, q⟩
    · cases q
      have hl : i < σ.length := by
        obtain ⟨h1, _⟩ := List.getElem?_eq_some_iff.mp hj
        rw [List.length_set, k.len] at h1
        exact h1
      exact ⟨v, List.getElem?_set_self hl, h⟩
    · rw [set_ne n]
      exact k.dat j e q
  cel := fun j q xs hj => by
    rcases get_set hj with ⟨_, q⟩ | ⟨n, q⟩
    · cases q
    · rw [set_ne n]
      exact k.cel j _ xs q
  sep := fun a b p q xs ys c h1 h2 h3 h4 => by
    rcases get_set h1 with ⟨_, e⟩ | ⟨n1, e1⟩
    · cases e
    rcases get_set h2 with ⟨_, e⟩ | ⟨n2, e2⟩
    · cases e
    rw [set_ne n1] at h3
    rw [set_ne n2] at h4
    exact k.sep a b p q xs ys c e1 e2 h3 h4
  pin := fun j a e => by
    obtain ⟨xs, q⟩ := k.pin j a e
    have n : i ≠ j := fun z => by subst z; exact hp xs q
    exact ⟨xs, by rw [set_ne n]; exact q⟩
  frame := k.frame
  newF := k.newF
  oldF := k.oldF
  prot := fun a u e => by
    obtain ⟨z1, z2, z3⟩ := k.prot a u e
    refine ⟨z1, z2, fun j p ys hj => ?_⟩
    rcases get_set hj with ⟨_, q⟩ | ⟨n, q⟩
    · cases q
    · rw [set_ne n]
      exact z3 j p ys q
  dic := k.dic.set fun _ z => by cases z
/-- a name gets a new cell of its own -/
theorem Ok.setC (k : Ok K g F env σ H) {i : Nat} {xs : List PyData} {a : Addr} {vs : List V} (hp : NoPar env i) (hF : F a = none) (hH : H a = some (.lst vs)) (h : DRs K F vs xs) (h0 : g.H0 a = none) (hpr : g.Pr a = none)
    (nw : ∀ (j : Nat) (p : Bool) (ys : List PyData), env[j]? = some (.cel p ys) → σ[j]? ≠ some (some (.ref a))) : Ok K g F (env.set i (.cel false xs)) (σ.set i (some (.ref a))) H where
  len := by simp [k.len]
  fh := k.fh
  dat := fun j e hj => by
    rcases get_set hj with ⟨_, q⟩ | ⟨n, q⟩
    · cases q
    · rw [set_ne n]
      exact k.dat j e q
  cel := fun j q ys hj => by
    rcases get_set hj with ⟨rfl, q⟩ | ⟨n, q⟩
    · cases q
      have hl : i < σ.length := by
        obtain ⟨h1, _⟩ := List.getElem?_eq_some_iff.mp hj
        rw [List.length_set, k.len] at h1
        exact h1
      exact ⟨a, vs, List.getElem?_set_self hl, hF, hH, h, (fun z => by cases z), fun _ => h0⟩
    · rw [set_ne n]
      exact k.cel j _ ys q
  sep := fun j l p q us ys c h1 h2 h3 h4 => by
    rcases get_set h1 with ⟨e1, _⟩ | ⟨n1, e1⟩
    · rcases get_set h2 with ⟨e2, _⟩ | ⟨n2, e2⟩
      · exact e1.symm.trans e2
      · rcases get_set h3 with ⟨_, e3⟩ | ⟨n3, _⟩
        · cases e3
          rw [set_ne n2] at h4
          exact absurd h4 (nw l q ys e2)
        · exact absurd e1 n3
    · rcases get_set h2 with ⟨e2, _⟩ | ⟨n2, e2⟩
      · rcases get_set h4 with ⟨_, e3⟩ | ⟨n3, _⟩
        · cases e3
          rw [set_ne n1] at h3
          exact absurd h3 (nw j p us e1)
        · exact absurd e2 n3
      · rw [set_ne n1] at h3
        rw [set_ne n2] at h4
        exact k.sep j l p q us ys c e1 e2 h3 h4
  pin := fun j b e => by
    obtain ⟨ys, q⟩ := k.pin j b e
    have n : i ≠ j := fun z => by subst z; exact hp ys q
    exact ⟨ys, by rw [set_ne n]; exact q⟩
  frame := k.frame
  newF := k.newF
  oldF := k.oldF
  prot := fun b u e => by
    obtain ⟨z1, z2, z3⟩ := k.prot b u e
    refine ⟨z1, z2, fun j p ys hj => ?_⟩
    rcases get_set hj with ⟨rfl, q⟩ | ⟨n, q⟩
    · intro z
      rcases get_set z with ⟨_, y⟩ | ⟨n, _⟩
      · cases y
        rw [hpr] at e
        cases e
      · exact n rfl
    · rw [set_ne n]
      exact z3 j p ys q
  dic := k.dic.set fun _ z => by cases z
/-- a name is forgotten (its slot may hold anything) -/
theorem Ok.setU (k : Ok K g F env σ H) {i : Nat} {o : Option V} (hp : NoPar env i) : Ok K g F (env.set i .un) (σ.set i o) H where
  len := by simp [k.len]
  fh := k.fh
  dat := fun j e hj => by
    rcases get_set hj with ⟨_, q⟩ | ⟨n, q⟩
    · cases q
    · rw [set_ne n]
      exact k.dat j e q
  cel := fun j q ys hj => by
    rcases get_set hj with ⟨_, q⟩ | ⟨n, q⟩
    · cases q
    · rw [set_ne n]
      exact k.cel j _ ys q
  sep := fun a b p q xs ys c h1 h2 h3 h4 => by
    rcases get_set h1 with ⟨_, e⟩ | ⟨n1, e1⟩
    · cases e
    rcases get_set h2 with ⟨_, e⟩ | ⟨n2, e2⟩
    · cases e
    rw [set_ne n1] at h3
    rw [set_ne n2] at h4
    exact k.sep a b p q xs ys c e1 e2 h3 h4
  pin := fun j b e => by
    obtain ⟨ys, q⟩ := k.pin j b e
    have n : i ≠ j := fun z => by subst z; exact hp ys q
    exact ⟨ys, by rw [set_ne n]; exact q⟩
  frame := k.frame
  newF := k.newF
  oldF := k.oldF
  prot := fun a u e => by
    obtain ⟨z1, z2, z3⟩ := k.prot a u e
    refine ⟨z1, z2, fun j p ys hj => ?_⟩
    rcases get_set hj with ⟨_, q⟩ | ⟨n, q⟩
    · cases q
    · rw [set_ne n]
      exact z3 j p ys q
  dic := k.dic.set fun _ z => by cases z
/-- a name gets a new dict of its own -/
theorem Ok.setK (k : Ok K g F env σ H) {i : Nat} {kvs : List (List Key × PyData)} {a : Addr} {xs : List (List Key × Addr × Value)} (hp : NoPar env i) (hF : F a = none) (hH : H a = some (DicE Z.P Z.w a xs)) (h : DicR K F kvs xs) (h0 : g.H0 a = none) (hpr : g.Pr a = none)
    (nw : ∀ (j : Nat) (ys : List (List Key × PyData)), env[j]? = some (.dic ys) → σ[j]? ≠ some (some (.ref a))) : Ok K g F (env.set i (.dic kvs)) (σ.set i (some (.ref a))) H := by
  have k2 := k.setU (o := some (.ref a)) hp
  have hl : ∀ {r : SD}, (env.set i (SD.dic kvs))[i]? = some r → (σ.set i (some (V.ref a)))[i]? = some (some (.ref a)) := fun hj => by
    obtain ⟨h1, _⟩ := List.getElem?_eq_some_iff.mp hj
    rw [List.length_set, k.len] at h1
    exact List.getElem?_set_self h1
  have oth : ∀ {j : Nat} {r : SD}, i ≠ j → (env.set i (SD.dic kvs))[j]? = some r → (env.set i SD.un)[j]? = some r := fun {j r} n e => by rw [set_ne n] at e ⊢; exact e
  refine ⟨by simp [k.len], k.fh, fun j d e => ?_, fun j p ys e => ?_, fun j l p q us ys c h1 h2 h3 h4 => ?_, fun j b e => ?_, k.frame, k.newF, k.oldF, fun b u e => ?_, fun j ys e => ?_⟩
  · rcases get_set e with ⟨_, z⟩ | ⟨n, z⟩
    · cases z
    · exact k2.dat j d (oth n e)
  · rcases get_set e with ⟨_, z⟩ | ⟨n, z⟩
    · cases z
    · exact k2.cel j p ys (oth n e)
  · rcases get_set h1 with ⟨_, z⟩ | ⟨n1, z⟩
    · cases z
    rcases get_set h2 with ⟨_, z⟩ | ⟨n2, z⟩
    · cases z
    exact k2.sep j l p q us ys c (oth n1 h1) (oth n2 h2) h3 h4
  · obtain ⟨ys, z⟩ := k.pin j b e
    have n : i ≠ j := fun y => by subst y; exact hp ys z
    exact ⟨ys, by rw [set_ne n]; exact z⟩
  · obtain ⟨z1, z2, z3⟩ := k2.prot b u e
    refine ⟨z1, z2, fun j p ys hj => ?_⟩
    rcases get_set hj with ⟨_, z⟩ | ⟨n, z⟩
    · cases z
    · exact z3 j p ys (oth n hj)
  · rcases get_set e with ⟨rfl, z⟩ | ⟨n, z⟩
    · cases z
      refine ⟨a, xs, hl e, hF, hH, h, h0, hpr, fun l zs e2 z2 => ?_⟩
      rcases get_set e2 with ⟨rfl, _⟩ | ⟨n, z⟩
      · rfl
      · rw [set_ne n] at z2
        exact absurd z2 (nw l zs z)
    · obtain ⟨b, ws, z1, z2, z3, z4, z5, z6, z7⟩ := k.dic j ys z
      refine ⟨b, ws, by rw [set_ne n]; exact z1, z2, z3, z4, z5, z6, fun l zs e2 y => ?_⟩
      rcases get_set e2 with ⟨rfl, _⟩ | ⟨n2, y2⟩
      · rw [hl e2] at y
        cases y
        exact absurd z1 (nw j ys z)
      · rw [set_ne n2] at y
        exact z7 l zs y2 y
/-- a cell's content is changed -/
theorem Ok.write (k : Ok K g F env σ H) {i : Nat} {p : Bool} {xs ys : List PyData} {a : Addr} {vs : List V} (he : env[i]? = some (.cel p xs)) (hs : σ[i]? = some (some (.ref a))) (h : DRs K F vs ys) :
    Ok K g F (env.set i (.cel p ys)) σ (upd H a (.lst vs)) := by
  obtain ⟨a', vs0, h1, h2, h3, h4, h5, h6⟩ := k.cel i p xs he
  rw [hs] at h1
  cases h1
  refine ⟨by simp [k.len], fun b u q => ?_, fun j e hj => ?_, fun j q us hj => ?_, fun j l q r us ws c h1 h2 h3 h4 => ?_, fun j b e => ?_, fun b o e n => ?_, k.newF, k.oldF, fun b u e => ?_, ((k.dic.setE (i := i) (x := .cel p ys) fun _ z => by cases z).keep (Ex.refl F) (fun _ _ _ z => z) fun b xs e n => ⟨n, upd_ne fun z => by rw [z, h3] at e; cases e⟩)⟩
  · have ne : b ≠ a := fun z => by rw [z, h2] at q; cases q
    rw [upd_ne ne]
    exact k.fh b u q
  · rcases get_set hj with ⟨_, q⟩ | ⟨n, q⟩
    · cases q
    · exact k.dat j e q
  · rcases get_set hj with ⟨rfl, q⟩ | ⟨n, q⟩
    · cases q
      exact ⟨a, vs, hs, h2, upd_same, h, h5, h6⟩
    · obtain ⟨b, ws, z1, z2, z3, z4, z5⟩ := k.cel j _ us q
      have ne : b ≠ a := fun z => by
        subst z
        exact n (k.sep i j _ _ _ _ b he q hs z1)
      exact ⟨b, ws, z1, z2, by rw [upd_ne ne]; exact z3, z4, z5⟩
  · have f : ∀ {j : Nat} {q : Bool} {us : List PyData}, (env.set i (SD.cel p ys))[j]? = some (.cel q us) → ∃ q' us', env[j]? = some (.cel q' us') := fun {j q us} z => by
      rcases get_set z with ⟨rfl, _⟩ | ⟨_, z⟩
      · exact ⟨_, _, he⟩
      · exact ⟨_, _, z⟩
    obtain ⟨_, _, f1⟩ := f h1
    obtain ⟨_, _, f2⟩ := f h2
    exact k.sep j l _ _ _ _ c f1 f2 h3 h4
  · obtain ⟨us, q⟩ := k.pin j b e
    by_cases n : i = j
    · subst n
      rw [he] at q
      cases q
      exact ⟨ys, set_eq he⟩
    · exact ⟨us, by rw [set_ne n]; exact q⟩
  · have ne : b ≠ a := fun z => by
      subst z
      cases p with
      | true => exact n i (h5 rfl)
      | false =>
        rw [h6 rfl] at e
        cases e
    rw [upd_ne ne]
    exact k.frame b o e n
  · obtain ⟨z1, z2, z3⟩ := k.prot b u e
    have ne : b ≠ a := fun z => by
      subst z
      exact z3 i p xs he hs
    refine ⟨by rw [upd_ne ne]; exact z1, z2, fun j q us hj => ?_⟩
    rcases get_set hj with ⟨rfl, _⟩ | ⟨_, z⟩
    · exact z3 _ p xs he
    · exact z3 j q us z
/-- an own cell becomes a datum -/
theorem Ok.freeze (k : Ok K g F env σ H) {i : Nat} {xs : List PyData} (he : env[i]? = some (.cel false xs)) : ∃ F', Ex F F' ∧ Ok K g F' (env.set i (.dat (.list xs))) σ H := by
  obtain ⟨a, vs, h1, h2, h3, h4, h5, h6⟩ := k.cel i false xs he
  have h6 := h6 rfl
  have ex : Ex F (upd F a (.lst vs)) := Ex.new h2
  refine ⟨upd F a (.lst vs), ex, by simp [k.len], fun b u q => ?_, fun j e hj => ?_, fun j q us hj => ?_, fun j l q r us ws c z1 z2 z3 z4 => ?_, fun j b e => ?_, k.frame, fun b u q => ?_, fun b u q => ex b u (k.oldF b u q), fun b u e => ?_, ((k.dic.setE (i := i) (x := .dat (.list xs)) fun _ z => by cases z).keep ex (fun _ _ _ z => z) fun b ys e n => ⟨by rw [upd_ne fun z => by rw [z, h3] at e; cases e]; exact n, rfl⟩)⟩
  · by_cases z : b = a
    · subst z
      rw [upd_same] at q
      exact h3.trans q
    · rw [upd_ne z] at q
      exact k.fh b u q
  · rcases get_set hj with ⟨rfl, q⟩ | ⟨n, q⟩
    · cases q
      exact ⟨_, h1, .lst (RdL.of upd_same) (h4.mono ex)⟩
    · obtain ⟨v, z1, z2⟩ := k.dat j e q
      exact ⟨v, z1, z2.mono ex⟩
  · rcases get_set hj with ⟨_, q⟩ | ⟨n, q⟩
    · cases q
    · obtain ⟨b, ws, z1, z2, z3, z4, z5⟩ := k.cel j _ us q
      have ne : b ≠ a := fun z => by
        subst z
        exact n (k.sep i j _ _ _ _ b he q h1 z1)
      exact ⟨b, ws, z1, by rw [upd_ne ne]; exact z2, z3, z4.mono ex, z5⟩
  · rcases get_set z1 with ⟨_, e⟩ | ⟨n1, e1⟩
    · cases e
    rcases get_set z2 with ⟨_, e⟩ | ⟨n2, e2⟩
    · cases e
    exact k.sep j l q r us ws c e1 e2 z3 z4
  · obtain ⟨ys, q⟩ := k.pin j b e
    have n : i ≠ j := fun z => by subst z; rw [he] at q; cases q
    exact ⟨ys, by rw [set_ne n]; exact q⟩
  · by_cases z : b = a
    · subst z
      exact .inr h6
    · rw [upd_ne z] at q
      exact k.newF b u q
  · obtain ⟨z1, z2, z3⟩ := k.prot b u e
    have ne : b ≠ a := fun z => by
      subst z
      exact z3 i false xs he h1
    refine ⟨z1, by rw [upd_ne ne]; exact z2, fun j q us hj => ?_⟩
    rcases get_set hj with ⟨_, z⟩ | ⟨_, z⟩
    · cases z
    · exact z3 j q us z
end
end DL

namespace DL
variable {Z : Zx}
open PySem PySem.Spec PyProof.Rows L2
open Evl (Ex)

/-- by a truth -/
def bIf (b : Bool) (p q : Prop) : Prop := match b with
  | true => p
  | false => q
theorem bIf_t {p q : Prop} : bIf true p q = p := rfl
theorem bIf_f {p q : Prop} : bIf false p q = q := rfl
/-- a datum that is a truth -/
def bT (d : PyData) (K : Bool → Prop) : Prop := match d with
  | .bool b => K b
  | _ => False
theorem bT_inv {d : PyData} {K : Bool → Prop} (h : bT d K) : ∃ b, d = .bool b ∧ K b := by
  cases d <;> first | exact ⟨_, rfl, h⟩ | exact h.elim
theorem bIf_and {b : Bool} {q : Prop} (h : bIf b q False) : b = true ∧ q := by
  cases b
  · exact h.elim
  · exact ⟨rfl, h⟩
abbrev DE := List SD → (PyData → List SD → Prop) → Prop
abbrev DX := List SD → (SD → List SD → Prop) → Prop
abbrev DT := List SD → (Bool → List SD → Prop) → Prop
abbrev DA := List SD → (List PyData → List SD → Prop) → Prop
/-- a result: a datum, or a new cell that no name holds yet -/
def ResOk (K : PySem.W.Frag) (g : Gx Z) (F : Hp) (env : List SD) (σ : L2.St) (H : Hp) (v : V) : SD → Prop
  | .un => False
  | .dat d => DR K F v d
  | .cel _ xs => ∃ a vs, v = .ref a ∧ F a = none ∧ H a = some (.lst vs) ∧ DRs K F vs xs ∧ g.H0 a = none ∧ g.Pr a = none ∧ ∀ (j : Nat) (p : Bool) (ys : List PyData), env[j]? = some (.cel p ys) → σ[j]? ≠ some (some (.ref a))
  | .dic _ => False
def liftE (K : PySem.W.Frag) (Z : Zx) (w : DE) : TE := fun σ H Q => ∃ (g : Gx Z) (F : Hp) (env : List SD) (P : PyData → List SD → Prop), Ok K g F env σ H ∧ w env P ∧
  ∀ d env' v F' H', P d env' → Ex F F' → Ok K g F' env' σ H' → DR K F' v d → Q v H'
def liftX (K : PySem.W.Frag) (Z : Zx) (w : DX) : TE := fun σ H Q => ∃ (g : Gx Z) (F : Hp) (env : List SD) (P : SD → List SD → Prop), Ok K g F env σ H ∧ w env P ∧
  ∀ r env' v F' H', P r env' → Ex F F' → Ok K g F' env' σ H' → ResOk K g F' env' σ H' v r → Q v H'
def liftT (K : PySem.W.Frag) (Z : Zx) (w : DT) : TT := fun σ H Q => ∃ (g : Gx Z) (F : Hp) (env : List SD) (P : Bool → List SD → Prop), Ok K g F env σ H ∧ w env P ∧
  ∀ b env' F' H', P b env' → Ex F F' → Ok K g F' env' σ H' → Q b H'
def liftA (K : PySem.W.Frag) (Z : Zx) (w : DA) : TA := fun σ H Q => ∃ (g : Gx Z) (F : Hp) (env : List SD) (P : List PyData → List SD → Prop), Ok K g F env σ H ∧ w env P ∧
  ∀ ds env' vs F' H', P ds env' → Ex F F' → Ok K g F' env' σ H' → DRs K F' vs ds → Q vs H'
theorem PE.of {X : Cx} {e : Expr} {t t' : TE} (h : PE X e t) (w : ∀ σ H Q, t' σ H Q → t σ H Q) : PE X e t' := ⟨fun pins s σ H Q I q => h.run pins s σ H Q I (w σ H Q q)⟩
theorem PT.of {X : Cx} {e : Expr} {t t' : TT} (h : PT X e t) (w : ∀ σ H Q, t' σ H Q → t σ H Q) : PT X e t' := ⟨fun pins s σ H Q I q => h.run pins s σ H Q I (w σ H Q q)⟩
theorem PW.of {X : Cx} {e : Expr} {t t' : TT} (h : PW X e t) (w : ∀ σ H Q, t' σ H Q → t σ H Q) : PW X e t' := ⟨fun wh pins s σ H Q I q => h.run wh pins s σ H Q I (w σ H Q q)⟩
theorem PA.of {X : Cx} {e : List Expr} {t t' : TA} (h : PA X e t) (w : ∀ σ H Q, t' σ H Q → t σ H Q) : PA X e t' := ⟨fun p pins s σ H Q I q => h.run p pins s σ H Q I (w σ H Q q)⟩
theorem PS.of {X : Cx} {e : Stmt} {t t' : TS} (h : PS X e t) (w : ∀ D σ H, t' D σ H → t D σ H) : PS X e t' := ⟨fun pins s σ H D I q => h.run pins s σ H D I (w D σ H q)⟩
theorem PSs.of {X : Cx} {e : List Stmt} {t t' : TS} (h : PSs X e t) (w : ∀ D σ H, t' D σ H → t D σ H) : PSs X e t' := ⟨fun pins s σ H D I q => h.run pins s σ H D I (w D σ H q)⟩
section
variable {K : PySem.W.Frag} {g : Gx Z} {F F' : Hp} {env : List SD} {σ : L2.St} {H : Hp}
/-- a new cell that no name holds -/
theorem Ok.newCell (k : Ok K g F env σ H) {p : Addr} (h : H p = none) {vs : List V} {xs : List PyData} (r : DRs K F vs xs) :
    Ok K g F env σ (upd H p (.lst vs)) ∧ ResOk K g F env σ (upd H p (.lst vs)) (.ref p) (.cel false xs) := by
  refine ⟨k.extra h, p, vs, rfl, fnone k.fh h, upd_same, r, k.fresh0 h, ?_, fun j q ys e z => ?_⟩
  · cases e : g.Pr p with
    | none => rfl
    | some u =>
      have z := (k.prot p u e).1
      rw [h] at z
      cases z
  obtain ⟨a, ws, h1, _, h3, _⟩ := k.cel j q ys e
  rw [z] at h1
  cases h1
  rw [h] at h3
  cases h3
/-- such a cell becomes a datum -/
theorem Ok.freezeR (k : Ok K g F env σ H) {v : V} {p : Bool} {xs : List PyData} (h : ResOk K g F env σ H v (.cel p xs)) : ∃ F', Ex F F' ∧ Ok K g F' env σ H ∧ DR K F' v (.list xs) ∧ DR K F' v (.dict [(.none, .list xs)]) := by
  obtain ⟨a, vs, rfl, hF, hH, r, h0, hpr, nw⟩ := h
  have ex : Ex F (upd F a (.lst vs)) := Ex.new hF
  refine ⟨upd F a (.lst vs), ex, ⟨k.len, fun b u q => ?_, fun i d e => ?_, fun i q ys e => ?_, k.sep, k.pin, k.frame, fun b u q => ?_, fun b u q => ex b u (k.oldF b u q), fun b u e => ?_, (k.dic.keep ex (fun _ _ _ z => z) fun b ys e n => ⟨by rw [upd_ne fun z => by rw [z, hH] at e; cases e]; exact n, rfl⟩)⟩, .lst (RdL.of upd_same) (r.mono ex), .row upd_same (r.mono ex)⟩
  · by_cases z : b = a
    · subst z
      rw [upd_same] at q
      exact hH.trans q
    · rw [upd_ne z] at q
      exact k.fh b u q
  · obtain ⟨v, z1, z2⟩ := k.dat i d e
    exact ⟨v, z1, z2.mono ex⟩
  · obtain ⟨b, ws, z1, z2, z3, z4, z5⟩ := k.cel i q ys e
    have ne : b ≠ a := fun z => by
      subst z
      exact nw i q ys e z1
    exact ⟨b, ws, z1, by rw [upd_ne ne]; exact z2, z3, z4.mono ex, z5⟩
  · by_cases z : b = a
    · subst z
      exact .inr h0
    · rw [upd_ne z] at q
      exact k.newF b u q
  · obtain ⟨z1, z2, z3⟩ := k.prot b u e
    have ne : b ≠ a := fun z => by
      subst z
      rw [hpr] at e
      cases e
    exact ⟨z1, by rw [upd_ne ne]; exact z2, z3⟩
theorem Ok.freezeP (k : Ok K g F env σ H) {v : V} {p : Bool} {xs : List PyData} (h : ResOk K g F env σ H v (.cel p xs)) : ∃ F', Ex F F' ∧ Ok K g F' env σ H ∧ DR K F' v (.list xs) := by
  obtain ⟨F', h1, h2, h3, _⟩ := k.freezeR h
  exact ⟨F', h1, h2, h3⟩
/-- a new tuple, a new list that never changes -/
theorem Ok.newTup (k : Ok K g F env σ H) {p : Addr} {o : Obj} (h : H p = none) (ho : PlT o) {vs : List V} {xs : List PyData} (r : DRs K F vs xs) :
    Ex F (upd F p (.frz o (.tup vs))) ∧ Ok K g (upd F p (.frz o (.tup vs))) env σ (upd H p (.frz o (.tup vs))) ∧ DR K (upd F p (.frz o (.tup vs))) (.ref p) (.tuple xs) := by
  have ex : Ex F (upd F p (.frz o (.tup vs))) := Ex.new (fnone k.fh h)
  exact ⟨ex, k.alloc h, .tup (.inl ⟨o, upd_same, ho⟩) (r.mono ex)⟩
theorem Ok.newLst (k : Ok K g F env σ H) {p : Addr} (h : H p = none) {vs : List V} {xs : List PyData} (r : DRs K F vs xs) :
    Ex F (upd F p (.lst vs)) ∧ Ok K g (upd F p (.lst vs)) env σ (upd H p (.lst vs)) ∧ DR K (upd F p (.lst vs)) (.ref p) (.list xs) := by
  have ex : Ex F (upd F p (.lst vs)) := Ex.new (fnone k.fh h)
  exact ⟨ex, k.alloc h, .lst (RdL.of upd_same) (r.mono ex)⟩
theorem drH (k : Ok K g F env σ H) {v : V} {d : PyData} (h : DR K F v d) : DR K H v d := h.mono k.fh
end

section
variable {X : Cx} {a b c e : Expr} {es : List Expr} {pos : Pos} {wa wb wc w : DE} {K : PySem.W.Frag}
def dVar (i : Nat) (env : List SD) (P : PyData → List SD → Prop) : Prop := match env[i]? with
  | some (.dat d) => P d env
  | _ => False
theorem lift_var {i : Nat} {σ : L2.St} {H : Hp} {Q : VK} (h : liftE K Z (dVar i) σ H Q) : tVar i σ H Q := by
  obtain ⟨g, F, env, P, k, w, q⟩ := h
  unfold dVar at w
  split at w
  · rename_i d e
    obtain ⟨v, h1, h2⟩ := k.dat i d e
    exact ⟨v, h1, q d env v F H w (Ex.refl F) k h2⟩
  · exact w.elim
theorem dv (i : Nat) {x : Str} {pos : Pos} (hN : X.N[i]? = some x := by rfl) (hv : Vis X.env.scope x := by first | exact Or.inl rfl | exact Or.inr (Or.inl rfl) | exact Or.inr (Or.inr rfl)) (hd : (x == ("__debug__" : Str)) = false := by decide)
    (hcd : (x == ("__classdict__" : Str)) = false := by decide) : PE X (.Name x pos) (liftE X.K Z (dVar i)) := PE.of (pe_var hN hv hd hcd) fun _ _ _ h => lift_var h
def dC (d : PyData) (env : List SD) (P : PyData → List SD → Prop) : Prop := P d env
theorem lift_c {v : V} {d : PyData} (hv : ∀ F : Hp, DR K F v d) {σ : L2.St} {H : Hp} {Q : VK} (h : liftE K Z (dC d) σ H Q) : tC v σ H Q := by
  obtain ⟨g, F, env, P, k, w, q⟩ := h
  exact q d env v F H w (Ex.refl F) k (hv F)
theorem di {i : Int} {j pos} : PE X (.Constant (.int i) j pos) (liftE X.K Z (dC (.int i))) := PE.of pe_int fun _ _ _ h => lift_c (fun _ => .int i) h
theorem db {i : Bool} {j pos} : PE X (.Constant (.bool i) j pos) (liftE X.K Z (dC (.bool i))) := PE.of pe_bl fun _ _ _ h => lift_c (fun _ => .bl i) h
theorem dn {j pos} : PE X (.Constant .none j pos) (liftE X.K Z (dC .none)) := PE.of pe_non fun _ _ _ h => lift_c (fun _ => .non) h
theorem ds {i : Str} {j pos} : PE X (.Constant (.str i) j pos) (liftE X.K Z (dC (.str i))) := PE.of pe_str fun _ _ _ h => lift_c (fun _ => .str i) h
/-- a module's constant -/
theorem dglob {x : Str} {u : Value} {d : PyData} {pos : Pos} {v : V} (hm : X.mg x = some u) (r : RelV v u) (hd : ∀ F : Hp, DR X.K F v d) (hg : Gl X x := by rfl) (hdb : (x == ("__debug__" : Str)) = false := by decide) : PE X (.Name x pos) (liftE X.K Z (dC d)) :=
  PE.of (pe_glob hg hm r hdb) fun _ _ _ h => lift_c hd h
abbrev D2 := PyData → PyData → (PyData → Prop) → Prop
def dOp (f : D2) (wa wb : DE) (env : List SD) (P : PyData → List SD → Prop) : Prop := wa env fun x env1 => wb env1 fun y env2 => f x y fun z => P z env2
def OpD (K : PySem.W.Frag) (r : R2) (f : D2) : Prop :=
  ∀ (Z : Zx) (g : Gx Z) (F : Hp) (env : List SD) (σ : L2.St) (H : Hp) (vx vy : V) (dx dy : PyData) (P : PyData → Prop) (Q : VK), Ok K g F env σ H → DR K F vx dx → DR K F vy dy → f dx dy P →
    (∀ d v F' H', P d → Ex F F' → Ok K g F' env σ H' → DR K F' v d → Q v H') → r vx vy H Q
theorem lift_op {r : R2} {f : D2} (hd : OpD K r f) {σ : L2.St} {H : Hp} {Q : VK} (h : liftE K Z (dOp f wa wb) σ H Q) : tOp r (liftE K Z wa) (liftE K Z wb) σ H Q := by
  obtain ⟨g, F, env, P, k, w, q⟩ := h
  refine ⟨g, F, env, _, k, w, fun d env1 v F1 H1 p e1 k1 r1 => ⟨g, F1, env1, _, k1, p, fun d2 env2 v2 F2 H2 p2 e2 k2 r2 => ?_⟩⟩
  exact hd _ g F2 env2 σ H2 v v2 d d2 _ Q k2 (r1.mono e2) r2 p2 fun d3 v3 F3 H3 p3 e3 k3 r3 => q d3 env2 v3 F3 H3 p3 (e1.trans (e2.trans e3)) k3 r3
theorem dop {op : Operator} {r : R2} {f : D2} (ho : OpR X (binaryOp op) r) (hd : OpD X.K r f) (ha : PE X a (liftE X.K Z wa)) (hb : PE X b (liftE X.K Z wb)) : PE X (.BinOp a op b pos) (liftE X.K Z (dOp f wa wb)) :=
  PE.of (pe_op ho ha hb) fun _ _ _ h => lift_op hd h
theorem dcmp {op : CmpOp} {r : R2} {f : D2} (ho : OpR X (compareOp op) r) (hd : OpD X.K r f) (ha : PE X a (liftE X.K Z wa)) (hb : PE X b (liftE X.K Z wb)) (hm : behindInMarks op b = false) : PE X (.Compare a [op] [b] pos) (liftE X.K Z (dOp f wa wb)) :=
  PE.of (pe_cmpR ho ha hb hm) fun _ _ _ h => lift_op hd h
def dTest (w : DE) (env : List SD) (P : Bool → List SD → Prop) : Prop := w env fun d env' => bT d fun b => P b env'
theorem lift_test {t : TE} (ht : ∀ σ H Q, liftE K Z w σ H Q → t σ H Q) {σ : L2.St} {H : Hp} {Q : Bool → Hp → Prop} (h : liftT K Z (dTest w) σ H Q) : tTest t σ H Q := by
  obtain ⟨g, F, env, P, k, w, q⟩ := h
  refine ht _ _ _ ⟨g, F, env, _, k, w, fun d env1 v F1 H1 p e1 k1 r1 => ?_⟩
  obtain ⟨b, rfl, p⟩ := bT_inv p
  cases r1.inv_bool
  exact ⟨_, rfl, q _ env1 F1 H1 p e1 k1⟩
theorem dcmpT {op : CmpOp} {r : R2} {f : D2} (ho : OpR X (compareOp op) r) (hd : OpD X.K r f) (ha : PE X a (liftE X.K Z wa)) (hb : PE X b (liftE X.K Z wb)) (hm : behindInMarks op b = false) : PT X (.Compare a [op] [b] pos) (liftT X.K Z (dTest (dOp f wa wb))) :=
  PT.of (pt_cmpR ho ha hb hm) fun _ _ _ h => lift_test (fun _ _ _ h => lift_op hd h) h
/-- any other expression as a test -/
theorem dtest (h : PE X e (liftE X.K Z w)) (he : ∀ whole, isTrue e X.env whole = (do let v ← whole; standAt e.pos; holding [v] (truthy v)) := by intro _; rfl) : PT X e (liftT X.K Z (dTest w)) :=
  PT.of (pt_val h he) fun _ _ _ q => lift_test (fun _ _ _ h => h) q
/-- a < b < c -/
def dChain (f f' : D2) (wa wb wc : DE) (env : List SD) (P : PyData → List SD → Prop) : Prop := wa env fun x env1 => wb env1 fun y env2 => f x y fun z => bT z fun b => bIf b (wc env2 fun u env3 => f' y u fun z2 => P z2 env3) (P (.bool false) env2)
theorem lift_chain {r r' : R2} {f f' : D2} (hd : OpD K r f) (hd' : OpD K r' f') {σ : L2.St} {H : Hp} {Q : VK} (h : liftE K Z (dChain f f' wa wb wc) σ H Q) : tChain r r' (liftE K Z wa) (liftE K Z wb) (liftE K Z wc) σ H Q := by
  obtain ⟨g, F, env, P, k, w, q⟩ := h
  refine ⟨g, F, env, _, k, w, fun d env1 v F1 H1 p e1 k1 r1 => ⟨g, F1, env1, _, k1, p, fun d2 env2 v2 F2 H2 p2 e2 k2 r2 => ?_⟩⟩
  refine hd _ g F2 env2 σ H2 v v2 d d2 _ _ k2 (r1.mono e2) r2 p2 fun d3 v3 F3 H3 p3 e3 k3 r3 => ?_
  obtain ⟨b, rfl, p3⟩ := bT_inv p3
  cases r3.inv_bool
  cases b with
  | true =>
    refine ⟨true, rfl, iteT ⟨g, F3, env2, _, k3, p3, fun d4 env4 v4 F4 H4 p4 e4 k4 r4 => ?_⟩⟩
    exact hd' _ g F4 env4 σ H4 v2 v4 d2 d4 _ Q k4 ((r2.mono e3).mono e4) r4 p4 fun d5 v5 F5 H5 p5 e5 k5 r5 => q d5 env4 v5 F5 H5 p5 (e1.trans (e2.trans (e3.trans (e4.trans e5)))) k5 r5
  | false =>
    exact ⟨false, rfl, iteF (q _ env2 _ F3 H3 p3 (e1.trans (e2.trans e3)) k3 (.bl false))⟩
theorem dchain {op op' : CmpOp} {r r' : R2} {f f' : D2} (ho : OpR X (compareOp op) r) (ho' : OpR X (compareOp op') r') (hd : OpD X.K r f) (hd' : OpD X.K r' f') (ha : PE X a (liftE X.K Z wa)) (hb : PE X b (liftE X.K Z wb)) (hc : PE X c (liftE X.K Z wc))
    (hm : lastMarks [op, op'] [b, c] = false := by with_unfolding_all rfl) : PE X (.Compare a [op, op'] [b, c] pos) (liftE X.K Z (dChain f f' wa wb wc)) :=
  PE.of (pe_chain ho ho' ha hb hc hm) fun _ _ _ h => lift_chain hd hd' h
theorem dchainT {op op' : CmpOp} {r r' : R2} {f f' : D2} (ho : OpR X (compareOp op) r) (ho' : OpR X (compareOp op') r') (hd : OpD X.K r f) (hd' : OpD X.K r' f') (ha : PE X a (liftE X.K Z wa)) (hb : PE X b (liftE X.K Z wb)) (hc : PE X c (liftE X.K Z wc))
    (hm : lastMarks [op, op'] [b, c] = false := by with_unfolding_all rfl) : PT X (.Compare a [op, op'] [b, c] pos) (liftT X.K Z (dTest (dChain f f' wa wb wc))) :=
  PT.of (pt_chain ho ho' ha hb hc hm) fun _ _ _ h => lift_test (fun _ _ _ h => lift_chain hd hd' h) h
/-- one place -/
abbrev D1 := PyData → (PyData → Prop) → Prop
def dUn (f : D1) (wa : DE) (env : List SD) (P : PyData → List SD → Prop) : Prop := wa env fun x env1 => f x fun z => P z env1
def UnD (K : PySem.W.Frag) (r : V → Hp → VK → Prop) (f : D1) : Prop :=
  ∀ (Z : Zx) (g : Gx Z) (F : Hp) (env : List SD) (σ : L2.St) (H : Hp) (vx : V) (dx : PyData) (P : PyData → Prop) (Q : VK), Ok K g F env σ H → DR K F vx dx → f dx P →
    (∀ d v F' H', P d → Ex F F' → Ok K g F' env σ H' → DR K F' v d → Q v H') → r vx H Q
theorem dun {op : UnaryOp} {r : V → Hp → VK → Prop} {f : D1} (ho : UnR X (unaryOp op) r) (hd : UnD X.K r f) (ha : PE X a (liftE X.K Z wa)) : PE X (.UnaryOp op a pos) (liftE X.K Z (dUn f wa)) :=
  PE.of (pe_un ho ha) fun σ H Q h => by
    obtain ⟨g, F, env, P, k, w, q⟩ := h
    refine ⟨g, F, env, _, k, w, fun d env1 v F1 H1 p e1 k1 r1 => ?_⟩
    exact hd _ g F1 env1 σ H1 v d _ Q k1 r1 p fun d3 v3 F3 H3 p3 e3 k3 r3 => q d3 env1 v3 F3 H3 p3 (e1.trans e3) k3 r3
def dAndV (wa wb : DE) (env : List SD) (P : PyData → List SD → Prop) : Prop := wa env fun x env1 => bT x fun b => bIf b (wb env1 P) (P (.bool false) env1)
def dNotV (wa : DE) (env : List SD) (P : PyData → List SD → Prop) : Prop := wa env fun x env1 => bT x fun b => P (.bool (!b)) env1
variable {rest : List Expr}
theorem done {op : BoolOp} (h : PE X a (liftE X.K Z wa)) : PE X (.BoolOp op [a] pos) (liftE X.K Z wa) := pe_one h
theorem dandV (ha : PE X a (liftE X.K Z wa)) (hb : PE X (.BoolOp .And (b :: rest) pos) (liftE X.K Z wb)) : PE X (.BoolOp .And (a :: b :: rest) pos) (liftE X.K Z (dAndV wa wb)) :=
  PE.of (pe_and ha hb) fun σ H Q h => by
    obtain ⟨g, F, env, P, k, w, q⟩ := h
    refine ⟨g, F, env, _, k, w, fun d env1 v F1 H1 p e1 k1 r1 => ?_⟩
    obtain ⟨b, rfl, p⟩ := bT_inv p
    cases r1.inv_bool
    cases b with
    | true => exact ⟨true, rfl, iteT ⟨g, F1, env1, _, k1, p, fun d2 env2 v2 F2 H2 p2 e2 k2 r2 => q d2 env2 v2 F2 H2 p2 (e1.trans e2) k2 r2⟩⟩
    | false => exact ⟨false, rfl, iteF (q _ env1 _ F1 H1 p e1 k1 (.bl false))⟩
theorem dnotV (ha : PE X a (liftE X.K Z wa)) : PE X (.UnaryOp .Not a pos) (liftE X.K Z (dNotV wa)) :=
  PE.of (pe_not ha) fun σ H Q h => by
    obtain ⟨g, F, env, P, k, w, q⟩ := h
    refine ⟨g, F, env, _, k, w, fun d env1 v F1 H1 p e1 k1 r1 => ?_⟩
    obtain ⟨b, rfl, p⟩ := bT_inv p
    cases r1.inv_bool
    exact ⟨_, rfl, q _ env1 _ F1 H1 p e1 k1 (.bl _)⟩
def dAnd (t u : DT) (env : List SD) (P : Bool → List SD → Prop) : Prop := t env fun b env1 => bIf b (u env1 P) (P false env1)
def dOr (t u : DT) (env : List SD) (P : Bool → List SD → Prop) : Prop := t env fun b env1 => bIf b (P true env1) (u env1 P)
def dNot (t : DT) (env : List SD) (P : Bool → List SD → Prop) : Prop := t env fun b env1 => P (!b) env1
variable {t u : DT}
theorem tand1 (ha : PT X a (liftT X.K Z t)) : PW X (.BoolOp .And [a] pos) (liftT X.K Z t) := pw_and1 ha
theorem tor1 (ha : PT X a (liftT X.K Z t)) : PW X (.BoolOp .Or [a] pos) (liftT X.K Z t) := pw_or1 ha
theorem tand (ha : PT X a (liftT X.K Z t)) (hb : PW X (.BoolOp .And (b :: rest) pos) (liftT X.K Z u)) : PW X (.BoolOp .And (a :: b :: rest) pos) (liftT X.K Z (dAnd t u)) :=
  PW.of (pw_and ha hb) fun σ H Q h => by
    obtain ⟨g, F, env, P, k, w, q⟩ := h
    refine ⟨g, F, env, _, k, w, fun d env1 F1 H1 p e1 k1 => ?_⟩
    cases d with
    | true => exact iteT ⟨g, F1, env1, _, k1, p, fun d2 env2 F2 H2 p2 e2 k2 => q d2 env2 F2 H2 p2 (e1.trans e2) k2⟩
    | false => exact iteF (q _ env1 F1 H1 p e1 k1)
theorem tor (ha : PT X a (liftT X.K Z t)) (hb : PW X (.BoolOp .Or (b :: rest) pos) (liftT X.K Z u)) : PW X (.BoolOp .Or (a :: b :: rest) pos) (liftT X.K Z (dOr t u)) :=
  PW.of (pw_or ha hb) fun σ H Q h => by
    obtain ⟨g, F, env, P, k, w, q⟩ := h
    refine ⟨g, F, env, _, k, w, fun d env1 F1 H1 p e1 k1 => ?_⟩
    cases d with
    | false => exact iteF ⟨g, F1, env1, _, k1, p, fun d2 env2 F2 H2 p2 e2 k2 => q d2 env2 F2 H2 p2 (e1.trans e2) k2⟩
    | true => exact iteT (q _ env1 F1 H1 p e1 k1)
theorem tnot (ha : PT X a (liftT X.K Z t)) : PT X (.UnaryOp .Not a pos) (liftT X.K Z (dNot t)) :=
  PT.of (pt_not ha) fun σ H Q h => by
    obtain ⟨g, F, env, P, k, w, q⟩ := h
    exact ⟨g, F, env, _, k, w, fun d env1 F1 H1 p e1 k1 => q _ env1 F1 H1 p e1 k1⟩
def dIf (t : DT) (wa wb : DE) (env : List SD) (P : PyData → List SD → Prop) : Prop := t env fun b env1 => bIf b (wa env1 P) (wb env1 P)
theorem dif {c : Expr} (hc : PT X c (liftT X.K Z t)) (ha : PE X a (liftE X.K Z wa)) (hb : PE X b (liftE X.K Z wb)) : PE X (.IfExp c a b pos) (liftE X.K Z (dIf t wa wb)) :=
  PE.of (pe_ifExp hc ha hb) fun σ H Q h => by
    obtain ⟨g, F, env, P, k, w, q⟩ := h
    refine ⟨g, F, env, _, k, w, fun d env1 F1 H1 p e1 k1 => ?_⟩
    cases d with
    | true => exact iteT ⟨g, F1, env1, _, k1, p, fun d2 env2 v2 F2 H2 p2 e2 k2 r2 => q d2 env2 v2 F2 H2 p2 (e1.trans e2) k2 r2⟩
    | false => exact iteF ⟨g, F1, env1, _, k1, p, fun d2 env2 v2 F2 H2 p2 e2 k2 r2 => q d2 env2 v2 F2 H2 p2 (e1.trans e2) k2 r2⟩
variable {was : DA}
def dNil (env : List SD) (P : List PyData → List SD → Prop) : Prop := P [] env
def dCons (wa : DE) (wr : DA) (env : List SD) (P : List PyData → List SD → Prop) : Prop := wa env fun x env1 => wr env1 fun xs env2 => P (x :: xs) env2
theorem anil : PA X [] (liftA X.K Z dNil) := PA.of pa_nil fun σ H Q h => by
  obtain ⟨g, F, env, P, k, w, q⟩ := h
  exact q [] env [] F H w (Ex.refl F) k .nil
theorem acons (ha : PE X e (liftE X.K Z wa)) (hr : PA X es (liftA X.K Z was)) (hs : starEach (e :: es) X.env = (false, eval e X.env) :: starEach es X.env := by rfl) : PA X (e :: es) (liftA X.K Z (dCons wa was)) :=
  PA.of (pa_cons ha hr hs) fun σ H Q h => by
    obtain ⟨g, F, env, P, k, w, q⟩ := h
    exact ⟨g, F, env, _, k, w, fun d env1 v F1 H1 p e1 k1 r1 => ⟨g, F1, env1, _, k1, p, fun ds env2 vs F2 H2 p2 e2 k2 r2 => q (d :: ds) env2 (v :: vs) F2 H2 p2 (e1.trans e2) k2 (.cons (r1.mono e2) r2)⟩⟩
def dTup (wa : DA) (env : List SD) (P : PyData → List SD → Prop) : Prop := wa env fun xs env' => bIf (Nat.ble xs.length 100000) (P (.tuple xs) env') False
def dLst (wa : DA) (env : List SD) (P : SD → List SD → Prop) : Prop := wa env fun xs env' => bIf (Nat.ble xs.length 100000) (P (.cel false xs) env') False
theorem dtup {k : _} (h : PA X es (liftA X.K Z was)) : PE X (.Tuple es k pos) (liftE X.K Z (dTup was)) :=
  PE.of (pe_tupZ h) fun σ H Q h => by
    obtain ⟨g, F, env, P, k, w, q⟩ := h
    refine ⟨g, F, env, _, k, w, fun ds env1 vs F1 H1 p e1 k1 r1 => ⟨by rw [r1.length]; exact Evl.sz_of (Nat.le_of_ble_eq_true (bIf_and p).1), fun x o hx ho => ?_⟩⟩
    obtain ⟨e2, k2, r2⟩ := k1.newTup hx ho r1
    exact q _ env1 _ _ _ (bIf_and p).2 (e1.trans e2) k2 r2
theorem dlst (h : PA X es (liftA X.K Z was)) : PE X (.List es pos) (liftX X.K Z (dLst was)) :=
  PE.of (pe_lst h) fun σ H Q h => by
    obtain ⟨g, F, env, P, k, w, q⟩ := h
    refine ⟨g, F, env, _, k, w, fun ds env1 vs F1 H1 p e1 k1 r1 => ⟨by rw [r1.length]; exact Evl.sz_of (Nat.le_of_ble_eq_true (bIf_and p).1), fun x hx => ?_⟩⟩
    obtain ⟨k2, r2⟩ := k1.newCell hx r1
    exact q _ env1 _ _ _ (bIf_and p).2 e1 k2 r2
/-- a new list that is to stay as it is -/
def dFrz (w : DX) (env : List SD) (P : PyData → List SD → Prop) : Prop := w env fun r env' => match r with
  | .dat d => P d env'
  | .cel _ xs => P (.list xs) env'
  | _ => False
theorem dfrz {w : DX} (h : PE X e (liftX X.K Z w)) : PE X e (liftE X.K Z (dFrz w)) := PE.of h fun σ H Q h => by
  obtain ⟨g, F, env, P, k, w, q⟩ := h
  refine ⟨g, F, env, _, k, w, fun r env1 v F1 H1 p e1 k1 r1 => ?_⟩
  cases r with
  | un => exact p.elim
  | dic _ => exact p.elim
  | dat d => exact q d env1 v F1 H1 p e1 k1 r1
  | cel b xs =>
    obtain ⟨F2, e2, k2, r2⟩ := k1.freezeP r1
    exact q _ env1 v F2 H1 p (e1.trans e2) k2 r2
def dX (w : DE) (env : List SD) (P : SD → List SD → Prop) : Prop := w env fun d env' => P (.dat d) env'
theorem dx {w : DE} (h : PE X e (liftE X.K Z w)) : PE X e (liftX X.K Z (dX w)) := PE.of h fun σ H Q h => by
  obtain ⟨g, F, env, P, k, w, q⟩ := h
  exact ⟨g, F, env, _, k, w, fun d env1 v F1 H1 p e1 k1 r1 => q (.dat d) env1 v F1 H1 p e1 k1 r1⟩
theorem dix {r : R2} {f : D2} (ho : IxR X r) (hd : OpD X.K r f) (ha : PE X a (liftE X.K Z wa)) (hb : PE X b (liftE X.K Z wb)) (hs : PlainIx b := by intro _ _; rfl) : PE X (.Subscript a b pos) (liftE X.K Z (dOp f wa wb)) :=
  PE.of (pe_ix ho ha hb hs) fun _ _ _ h => lift_op hd h
theorem ixr_or {r r' : R2} (h : IxR X r) (h' : IxR X r') : IxR X (fun x y H Q => r x y H Q ∨ r' x y H Q) := by
  intro value slice pins s σ H x y v u Q I rx ry q hs
  rcases q with q | q
  · exact h value slice pins s σ H x y v u Q I rx ry q hs
  · exact h' value slice pins s σ H x y v u Q I rx ry q hs
/-- the item at a place -/
@[irreducible] def pick (xs : List PyData) (k : Int) (P : PyData → Prop) : Prop := match atI xs k with
  | some d => P d
  | none => False
theorem pick_inv {xs : List PyData} {k : Int} {P : PyData → Prop} (h : pick xs k P) : ∃ d, atI xs k = some d ∧ P d := by
  unfold pick at h
  cases e : atI xs k with
  | none => rw [e] at h; exact h.elim
  | some d => rw [e] at h; exact ⟨d, rfl, h⟩
def ixQ (xs : List PyData) (y : PyData) (K : PyData → Prop) : Prop := match y with
  | .int k => pick xs k K
  | _ => False
/-- the sign at a place of a text -/
@[irreducible] def pickS (z : Str) (k : Int) (P : PyData → Prop) : Prop := match atI z.cps.toList k with
  | some c => z.length ≤ 100000 ∧ P (.str ⟨#[c]⟩)
  | none => False
theorem pickS_inv {z : Str} {k : Int} {P : PyData → Prop} (h : pickS z k P) : ∃ c, atI z.cps.toList k = some c ∧ z.length ≤ 100000 ∧ P (.str ⟨#[c]⟩) := by
  unfold pickS at h
  cases e : atI z.cps.toList k with
  | none => rw [e] at h; exact h.elim
  | some c => rw [e] at h; exact ⟨c, rfl, h⟩
def oIx (x y : PyData) (P : PyData → Prop) : Prop := match x, y with
  | .tuple xs, .int k => pick xs k P
  | .list xs, .int k => pick xs k P
  | .str z, .int k => pickS z k P
  | _, _ => False
theorem atI_rel {F : Hp} {vs : List V} {ds : List PyData} {k : Int} {d : PyData} (r : DRs K F vs ds) (h : atI ds k = some d) : ∃ v, atI vs k = some v ∧ DR K F v d := by
  unfold atI at h ⊢
  rw [r.length]
  cases e : ixN ds.length k with
  | none => rw [e] at h; cases h
  | some j =>
    rw [e] at h
    exact r.get h
def rIx (K : PySem.W.Frag) : R2 := fun x y H Q => rIxT K x y H Q ∨ (rIxL K x y H Q ∨ rIxS x y H Q)
theorem ixr : IxR X (rIx X.K) := ixr_or ix_tup (ixr_or ix_list ix_str)
theorem opd_ix : OpD K (rIx K) oIx := by
  intro _ g F env σ H vx vy dx dy P Q k rx ry p q
  unfold oIx at p
  split at p
  · rename_i xs i
    cases ry.inv_int
    obtain ⟨d, e, p⟩ := pick_inv p
    obtain ⟨a, us, rfl, h1, h2⟩ := rx.inv_tup
    obtain ⟨v, e1, e2⟩ := atI_rel h2 e
    exact .inl ⟨a, us, i, v, rfl, rfl, Evl.ex_t k.fh h1, e1, q d v F H p (Ex.refl F) k e2⟩
  · rename_i xs i
    cases ry.inv_int
    obtain ⟨d, e, p⟩ := pick_inv p
    obtain ⟨a, us, rfl, h1, h2⟩ := rx.inv_lst
    obtain ⟨v, e1, e2⟩ := atI_rel h2 e
    exact .inr (.inl ⟨a, us, i, v, rfl, rfl, (h1.mono k.fh).sq, e1, q d v F H p (Ex.refl F) k e2⟩)
  · rename_i z i
    cases ry.inv_int
    cases rx.inv_str
    obtain ⟨c, e, hz, p⟩ := pickS_inv p
    exact .inr (.inr ⟨z, i, c, rfl, rfl, by rw [sizeLine_eq]; omega, e, q _ _ F H p (Ex.refl F) k (.str _)⟩)
  · exact p.elim
theorem dixP (ha : PE X a (liftE X.K Z wa)) (hb : PE X b (liftE X.K Z wb)) (hs : PlainIx b := by intro _ _; rfl) : PE X (.Subscript a b pos) (liftE X.K Z (dOp oIx wa wb)) := dix ixr opd_ix ha hb hs
/-- an item of a name's own cell -/
def dIxC (i : Nat) (wb : DE) (env : List SD) (P : PyData → List SD → Prop) : Prop := match env[i]? with
  | some (.cel _ _) => wb env fun y env1 => match env1[i]? with
    | some (.cel _ xs) => ixQ xs y fun d => P d env1
    | _ => False
  | _ => False
theorem dixC (i : Nat) {x : Str} {p0 : Pos} (hb : PE X b (liftE X.K Z wb)) (hN : X.N[i]? = some x := by rfl) (hv : Vis X.env.scope x := by first | exact Or.inl rfl | exact Or.inr (Or.inl rfl) | exact Or.inr (Or.inr rfl)) (hd : (x == ("__debug__" : Str)) = false := by decide)
    (hcd : (x == ("__classdict__" : Str)) = false := by decide) (hs : PlainIx b := by intro _ _; rfl) : PE X (.Subscript (.Name x p0) b pos) (liftE X.K Z (dIxC i wb)) :=
  PE.of (pe_ix ix_list (pe_var hN hv hd hcd) hb hs) fun σ H Q h => by
    obtain ⟨g, F, env, P, k, w, q⟩ := h
    unfold dIxC at w
    split at w
    · rename_i p xs e
      obtain ⟨a0, vs, h1, _⟩ := k.cel i p xs e
      refine ⟨_, h1, g, F, env, _, k, w, fun d env1 v F1 H1 p1 e1 k1 r1 => ?_⟩
      split at p1
      · rename_i p' ys e'
        obtain ⟨n, rfl, p1⟩ : ∃ n, d = .int n ∧ pick ys n _ := by
          cases d <;> first | exact ⟨_, rfl, p1⟩ | exact p1.elim
        cases r1.inv_int
        obtain ⟨d', ed, p1⟩ := pick_inv p1
        obtain ⟨a1, ws, z1, z2, z3, z4, z5⟩ := k1.cel i _ _ e'
        rw [h1] at z1
        cases z1
        obtain ⟨u, u1, u2⟩ := atI_rel z4 ed
        exact ⟨a0, ws, n, u, rfl, rfl, SqL.of z3, u1, q d' env1 u F1 H1 p1 e1 k1 u2⟩
      · exact p1.elim
    · exact w.elim
end
end DL

namespace DL
variable {Z : Zx}
open PySem PySem.Spec PyProof.Rows L2
open Evl (Ex)

/-- a whole number of at most thousand figures -/
def Sz (i : Int) : Prop := i.natAbs < 10 ^ 1000
theorem Sz.log {i : Int} (h : Sz i) : i.natAbs.log2 < 3322 := by
  have h1 : i.natAbs < 2 ^ 3322 := Nat.lt_trans h (by decide +kernel)
  exact PySem.Flt.log2_lt_of (by decide) h1
theorem Sz.bits {i : Int} (h : Sz i) : Builtin.Int.intBits i ≤ 3322 := by
  have h1 := h.log
  unfold Builtin.Int.intBits
  split <;> omega
theorem sz_of {i : Int} (h1 : -(10 ^ 100) ≤ i) (h2 : i ≤ 10 ^ 100) : Sz i := by
  unfold Sz
  have : i.natAbs ≤ 10 ^ 100 := by omega
  exact Nat.lt_of_le_of_lt this (by decide +kernel)
theorem sz_lt {i : Int} (h : i.natAbs < 10 ^ 250) : Sz i := Nat.lt_trans h (by decide +kernel)
theorem log250 {i : Int} (h : i.natAbs < 10 ^ 250) : i.natAbs.log2 < 840 := by
  have h1 : i.natAbs < 2 ^ 840 := Nat.lt_trans h (by decide +kernel)
  exact PySem.Flt.log2_lt_of (by decide) h1
theorem lt_of {i : Int} (h1 : -(10 ^ 100) ≤ i) (h2 : i ≤ 10 ^ 100) : i.natAbs < 10 ^ 250 := by
  have : i.natAbs ≤ 10 ^ 100 := by omega
  exact Nat.lt_of_le_of_lt this (by decide +kernel)
section
variable {X : Cx} {K : PySem.W.Frag}
def oI (g : Int → Int → PyData) (x y : PyData) (P : PyData → Prop) : Prop := match x, y with
  | .int i, .int j => P (g i j)
  | _, _ => False
theorem opd_I0 {gv : Int → Int → V} {gd : Int → Int → PyData} (hg : ∀ (F : Hp) i j, DR K F (gv i j) (gd i j)) : OpD K (rI0 gv) (oI gd) := by
  intro _ g F env σ H vx vy dx dy P Q k rx ry p q
  unfold oI at p
  split at p
  · cases rx.inv_int
    cases ry.inv_int
    exact ⟨_, _, rfl, rfl, q _ _ F H p (Ex.refl F) k (hg F _ _)⟩
  · exact p.elim
def oIc (C : Int → Int → Prop) (g : Int → Int → PyData) (x y : PyData) (P : PyData → Prop) : Prop := match x, y with
  | .int i, .int j => C i j ∧ P (g i j)
  | _, _ => False
theorem opd_I {C C' : Int → Int → Prop} {gv : Int → Int → V} {gd : Int → Int → PyData} (hc : ∀ i j, C i j → C' i j) (hg : ∀ (F : Hp) i j, DR K F (gv i j) (gd i j)) : OpD K (rI C' gv) (oIc C gd) := by
  intro _ g F env σ H vx vy dx dy P Q k rx ry p q
  unfold oIc at p
  split at p
  · cases rx.inv_int
    cases ry.inv_int
    exact ⟨_, _, rfl, rfl, hc _ _ p.1, q _ _ F H p.2 (Ex.refl F) k (hg F _ _)⟩
  · exact p.elim
abbrev oSub : D2 := oI fun i j => .int (i - j)
/-- the one text ahead of the other -/
@[irreducible] def strLt (a b : Str) : Bool := decide (a.cps.toList < b.cps.toList)
def oLt (x y : PyData) (P : PyData → Prop) : Prop := match x, y with
  | .int i, .int j => P (.bool (decide (i < j)))
  | .str a, .str b => P (.bool (strLt a b))
  | _, _ => False
def rLtA : R2 := fun x y H Q => (rI0 fun i j => .bl (decide (i < j))) x y H Q ∨ ∃ i j, x = .str i ∧ y = .str j ∧ Q (.bl (decide (i.cps.toList < j.cps.toList))) H
theorem op_ltA {X : Cx} : OpR X (compareOp .Lt) rLtA := OpR.or op_lt op_lt_str
abbrev oLe : D2 := oI fun i j => .bool (decide (i ≤ j))
abbrev oGt : D2 := oI fun i j => .bool (decide (j < i))
abbrev oGe : D2 := oI fun i j => .bool (decide (j ≤ i))
abbrev oMod : D2 := oIc (fun _ j => 0 < j) fun i j => .int (i % j)
abbrev oDiv : D2 := oIc (fun _ j => 0 < j ∧ Sz j) fun i j => .int (i / j)
abbrev oMulI : D2 := oIc (fun i j => Sz i ∧ Sz j) fun i j => .int (i * j)
abbrev oPow : D2 := oIc (fun i j => Sz i ∧ 0 ≤ j ∧ j ≤ 10000) fun i j => .int (i ^ j.toNat)
variable {a b c e : Expr} {es : List Expr} {pos : Pos} {wa wb wc w : DE}
theorem op_powW : OpR X (binaryOp .Pow) (rI (fun i j => Sz i ∧ 0 ≤ j ∧ j ≤ 10000) fun i j => .int (i ^ j.toNat)) := by
  intro pins s σ H x y v u Q I rx ry h
  obtain ⟨i, j, rfl, rfl, ⟨h1, h2, h3⟩, q⟩ := h
  obtain ⟨t, rfl⟩ := rx
  obtain ⟨t', rfl⟩ := ry
  refine PyProof.Rows.pow_int h2 ?_ ⟨.int _, H, I.tok _, ⟨_, rfl⟩, q⟩
  have b := h1.bits
  have z : (Builtin.Int.intBits i : Int) * j ≤ 3322 * 10000 := Int.mul_le_mul (by omega) h3 h2 (by decide)
  exact Int.le_trans z (by decide)
theorem dsub (ha : PE X a (liftE X.K Z wa)) (hb : PE X b (liftE X.K Z wb)) : PE X (.BinOp a .Sub b pos) (liftE X.K Z (dOp oSub wa wb)) := dop op_sub (opd_I0 fun _ _ _ => .int _) ha hb
theorem dmod (ha : PE X a (liftE X.K Z wa)) (hb : PE X b (liftE X.K Z wb)) : PE X (.BinOp a .Mod b pos) (liftE X.K Z (dOp oMod wa wb)) := dop op_mod (opd_I (fun _ _ h => h) fun _ _ _ => .int _) ha hb
theorem ddiv (ha : PE X a (liftE X.K Z wa)) (hb : PE X b (liftE X.K Z wb)) : PE X (.BinOp a .FloorDiv b pos) (liftE X.K Z (dOp oDiv wa wb)) :=
  dop op_fdivW (opd_I (fun _ _ h => ⟨h.1, Nat.lt_trans h.2.log (by decide)⟩) fun _ _ _ => .int _) ha hb
theorem dpow (ha : PE X a (liftE X.K Z wa)) (hb : PE X b (liftE X.K Z wb)) : PE X (.BinOp a .Pow b pos) (liftE X.K Z (dOp oPow wa wb)) := dop op_powW (opd_I (fun _ _ h => h) fun _ _ _ => .int _) ha hb
theorem opr_ltA : OpD K rLtA oLt := by
  intro _ g F env σ H vx vy dx dy P Q k rx ry p q
  unfold oLt at p
  split at p
  · cases rx.inv_int
    cases ry.inv_int
    exact .inl ⟨_, _, rfl, rfl, q _ _ F H p (Ex.refl F) k (.bl _)⟩
  · cases rx.inv_str
    cases ry.inv_str
    unfold strLt at p
    exact .inr ⟨_, _, rfl, rfl, q _ _ F H p (Ex.refl F) k (.bl _)⟩
  · exact p.elim
theorem opr_le : OpD K (rI0 fun i j => V.bl (decide (i ≤ j))) oLe := opd_I0 fun _ _ _ => .bl _
theorem opr_gt : OpD K (rI0 fun i j => V.bl (decide (j < i))) oGt := opd_I0 fun _ _ _ => .bl _
theorem opr_ge : OpD K (rI0 fun i j => V.bl (decide (j ≤ i))) oGe := opd_I0 fun _ _ _ => .bl _
def oNeg (x : PyData) (P : PyData → Prop) : Prop := match x with
  | .int i => P (.int (-i))
  | _ => False
theorem dneg (ha : PE X a (liftE X.K Z wa)) : PE X (.UnaryOp .USub a pos) (liftE X.K Z (dUn oNeg wa)) := dun un_neg (by
  intro _ g F env σ H vx dx P Q k rx p q
  unfold oNeg at p
  split at p
  · cases rx.inv_int
    exact ⟨_, rfl, q _ _ F H p (Ex.refl F) k (.int _)⟩
  · exact p.elim) ha
def oAdd (x y : PyData) (P : PyData → Prop) : Prop := match x, y with
  | .int i, .int j => P (.int (i + j))
  | .tuple xs, .tuple ys => xs.length + ys.length ≤ 100000 ∧ P (.tuple (xs ++ ys))
  | .list xs, .list ys => xs.length + ys.length ≤ 100000 ∧ P (.list (xs ++ ys))
  | .str i, .str j => i.length + j.length ≤ 100000 ∧ P (.str (i ++ j))
  | _, _ => False
theorem sz2 {n : Nat} (h : n ≤ 100000) : n ≤ sizeLine := Evl.sz_of h
/-- two lists that stand, known to the object or not -/
def rCatL (K : PySem.W.Frag) : R2 := fun x y H Q => ∃ l b xs zs, x = .ref l ∧ y = .ref b ∧ RdL K H l xs ∧ RdL K H b zs ∧ xs.length + zs.length ≤ sizeLine ∧ ∀ p, H p = none → Q (.ref p) (upd H p (.lst (xs ++ zs)))
theorem op_catL : OpR X (binaryOp .Add) (rCatL X.K) := by
  intro pins s σ H x y v u Q I rx ry h
  obtain ⟨l, b, xs, zs, rfl, rfl, hl, hb, hz, q⟩ := h
  cases rx
  cases ry
  obtain ⟨z1, its, n, r1, e1⟩ := hl.obj I
  obtain ⟨z2, its2, n2, r2, e2⟩ := hb.obj I
  have l1 := r1.length
  have l2 := r2.length
  refine PySem.P.add_list e1 e2 ?_ (by rw [List.size_toArray, List.size_toArray]; omega)
  rw [show its.toArray ++ its2.toArray = (its ++ its2).toArray by simp]
  exact ⟨.ref _, _, I.lnew (t' := s.toks) (r1.append r2) (by rw [List.length_append]; omega), rfl, q _ I.fresh⟩
def rAddD (K : PySem.W.Frag) : R2 := fun x y H Q => ((rI0 fun i j => .int (i + j)) x y H Q ∨ rCatZ K x y H Q) ∨ (rCatL K x y H Q ∨ (∃ i j, x = .str i ∧ y = .str j ∧ i.length + j.length ≤ sizeLine ∧ Q (.str (i ++ j)) H))
theorem op_addD : OpR X (binaryOp .Add) (rAddD X.K) := OpR.or (OpR.or op_add op_catZ) (OpR.or op_catL op_add_str)
theorem opd_add : OpD K (rAddD K) oAdd := by
  intro _ g F env σ H vx vy dx dy P Q k rx ry p q
  unfold oAdd at p
  split at p
  · cases rx.inv_int
    cases ry.inv_int
    exact .inl (.inl ⟨_, _, rfl, rfl, q _ _ F H p (Ex.refl F) k (.int _)⟩)
  · rename_i xs ys
    obtain ⟨a, us, rfl, h1, h2⟩ := rx.inv_tup
    obtain ⟨b, ws, rfl, h3, h4⟩ := ry.inv_tup
    have l1 := h2.length
    have l2 := h4.length
    refine .inl (.inr ⟨a, b, us, ws, rfl, rfl, Evl.ex_t k.fh h1, Evl.ex_t k.fh h3, by rw [l1, l2]; exact sz2 p.1, fun e => ?_, fun _ e => ?_, fun _ _ x o hx ho => ?_⟩)
    · subst e
      have : xs = [] := by cases h2; rfl
      subst this
      exact q _ _ F H p.2 (Ex.refl F) k ry
    · subst e
      have : ys = [] := by cases h4; rfl
      subst this
      rw [List.append_nil] at p
      exact q _ _ F H p.2 (Ex.refl F) k rx
    · obtain ⟨e2, k2, r2⟩ := k.newTup hx ho (h2.append h4)
      exact q _ _ _ _ p.2 e2 k2 r2
  · rename_i xs ys
    obtain ⟨a, us, rfl, h1, h2⟩ := rx.inv_lst
    obtain ⟨b, ws, rfl, h3, h4⟩ := ry.inv_lst
    have l1 := h2.length
    have l2 := h4.length
    refine .inr (.inl ⟨a, b, us, ws, rfl, rfl, h1.mono k.fh, h3.mono k.fh, by rw [l1, l2]; exact sz2 p.1, fun x hx => ?_⟩)
    obtain ⟨e2, k2, r2⟩ := k.newLst hx (h2.append h4)
    exact q _ _ _ _ p.2 e2 k2 r2
  · cases rx.inv_str
    cases ry.inv_str
    exact .inr (.inr ⟨_, _, rfl, rfl, sz2 p.1, q _ _ F H p.2 (Ex.refl F) k (.str _)⟩)
  · exact p.elim
theorem dadd (ha : PE X a (liftE X.K Z wa)) (hb : PE X b (liftE X.K Z wb)) : PE X (.BinOp a .Add b pos) (liftE X.K Z (dOp oAdd wa wb)) := dop op_addD opd_add ha hb
mutual
theorem DR.dp {K : PySem.W.Frag} {H : Hp} : ∀ {d : PyData} {v : V}, DR K H v d → PyData.hasDict d = false → Dp K H v d
  | .none, _, h, _ => by cases h; exact .non
  | .bool b, _, h, _ => by cases h; exact .bl b
  | .int i, _, h, _ => by cases h; exact .int i
  | .str x, _, h, _ => by cases h; exact .str x
  | .list ds, _, h, hd => by
    cases h with
    | lst a b => exact .lst a.sq (DRs.dp b (by simpa [PyData.hasDict] using hd))
  | .tuple ds, _, h, hd => by
    cases h with
    | tup a b => exact .tup a.sq (DRs.dp b (by simpa [PyData.hasDict] using hd))
  | .dict kvs, _, _, hd => by simp [PyData.hasDict] at hd
theorem DRs.dp {K : PySem.W.Frag} {H : Hp} : ∀ {ds : List PyData} {vs : List V}, DRs K H vs ds → PyData.hasDictAll ds = false → DpAll K H vs ds
  | [], _, h, _ => by cases h; exact .nil
  | d :: ds, _, h, hd => by
    simp only [PyData.hasDictAll, Bool.or_eq_false_iff] at hd
    cases h with
    | cons a b => exact .cons (DR.dp a hd.1) (DRs.dp b hd.2)
end
/-- == of two data, not to be looked into -/
@[irreducible] def eqD (x y : PyData) : Bool := PyData.eqv x y
theorem eqD_eq {x y : PyData} : eqD x y = PyData.eqv x y := by
  unfold eqD
  rfl
theorem eqD_int {i j : Int} : eqD (.int i) (.int j) = decide (i = j) := by
  rw [eqD_eq]
  show (i == j) = _
  rw [Bool.beq_eq_decide_eq]
def oEq (x y : PyData) (P : PyData → Prop) : Prop := match x, y with
  | .str a, .str b => P (.bool (decide (a = b)))
  | x, y => (SeqAt.shaped x = true ∧ SeqAt.shaped y = true) ∧ P (.bool (eqD x y))
def oNe (x y : PyData) (P : PyData → Prop) : Prop := match x, y with
  | .str a, .str b => P (.bool (!decide (a = b)))
  | x, y => (SeqAt.shaped x = true ∧ SeqAt.shaped y = true) ∧ P (.bool (!eqD x y))
theorem dict_of_shaped {d : PyData} (h : SeqAt.shaped d = true) : PyData.hasDict d = false := PyData.hasDict_of_canLay d (SeqAt.canLay_of_shaped h)
def rEqE (K : PySem.W.Frag) : R2 := fun x y H Q => rEq x y H Q ∨ rEqD K x y H Q
def rNeE (K : PySem.W.Frag) : R2 := fun x y H Q => rNe x y H Q ∨ rNeD K x y H Q
theorem op_eqE (hu : X.A.units + 64 < cLine) : OpR X (compareOp .Eq) (rEqE X.K) := OpR.or op_eq (op_eqD hu)
theorem op_neE (hu : X.A.units + 64 < cLine) : OpR X (compareOp .NotEq) (rNeE X.K) := OpR.or op_ne (op_neD hu)
theorem str_dec {a b : Str} : decide (V.str a = V.str b) = decide (a = b) := by
  by_cases h : a = b
  · subst h
    rw [decide_eq_true rfl, decide_eq_true rfl]
  · rw [decide_eq_false h, decide_eq_false (fun z => h (V.str.inj z))]
theorem opd_eq : OpD K (rEqE K) oEq := by
  intro _ g F env σ H vx vy dx dy P Q k rx ry p q
  unfold oEq at p
  split at p
  · cases rx.inv_str
    cases ry.inv_str
    refine .inl ⟨rfl, ?_⟩
    rw [str_dec]
    exact q _ _ F H p (Ex.refl F) k (.bl _)
  · obtain ⟨⟨h1, h2⟩, p⟩ := p
    rw [eqD_eq] at p
    exact .inr ⟨_, _, DR.dp (drH k rx) (dict_of_shaped h1), DR.dp (drH k ry) (dict_of_shaped h2), h1, h2, q _ _ F H p (Ex.refl F) k (.bl _)⟩
theorem opd_ne : OpD K (rNeE K) oNe := by
  intro _ g F env σ H vx vy dx dy P Q k rx ry p q
  unfold oNe at p
  split at p
  · cases rx.inv_str
    cases ry.inv_str
    refine .inl ⟨rfl, ?_⟩
    rw [str_dec]
    exact q _ _ F H p (Ex.refl F) k (.bl _)
  · obtain ⟨⟨h1, h2⟩, p⟩ := p
    rw [eqD_eq] at p
    exact .inr ⟨_, _, DR.dp (drH k rx) (dict_of_shaped h1), DR.dp (drH k ry) (dict_of_shaped h2), h1, h2, q _ _ F H p (Ex.refl F) k (.bl _)⟩
def oIsN (x : PyData) (P : PyData → Prop) : Prop := match x with
  | .none => P (.bool true)
  | _ => P (.bool false)
def oNotN (x : PyData) (P : PyData → Prop) : Prop := match x with
  | .none => P (.bool false)
  | _ => P (.bool true)
theorem non_iff {F : Hp} {v : V} {d : PyData} (r : DR K F v d) : decide (v = .non) = match d with | .none => true | _ => false := by
  cases r <;> first | rfl | (apply decide_eq_false; intro h; cases h)
theorem dnotN {j pos'} (ha : PE X a (liftE X.K Z wa)) : PE X (.Compare a [.IsNot] [.Constant .none j pos'] pos) (liftE X.K Z (dUn oNotN wa)) :=
  PE.of (pe_cmp (pc_notN ha) rfl) fun σ H Q h => by
    obtain ⟨g, F, env, P, k, w, q⟩ := h
    refine ⟨g, F, env, _, k, w, fun d env1 v F1 H1 p e1 k1 r1 => ?_⟩
    show Q (.bl (!decide (v = V.non))) H1
    rw [non_iff r1]
    cases d <;> exact q _ env1 _ F1 H1 p e1 k1 (.bl _)
theorem tisN {j pos'} (ha : PE X a (liftE X.K Z wa)) : PT X (.Compare a [.Is] [.Constant .none j pos'] pos) (liftT X.K Z (dTest (dUn oIsN wa))) :=
  PT.of (pt_cmp (pc_isN ha) rfl) fun σ H Q h => by
    obtain ⟨g, F, env, P, k, w, q⟩ := h
    refine ⟨g, F, env, _, k, w, fun d env1 v F1 H1 p e1 k1 r1 => ?_⟩
    refine ⟨_, rfl, ?_⟩
    rw [non_iff r1]
    cases d <;> exact q _ env1 F1 H1 p e1 k1
theorem tnotN {j pos'} (ha : PE X a (liftE X.K Z wa)) : PT X (.Compare a [.IsNot] [.Constant .none j pos'] pos) (liftT X.K Z (dTest (dUn oNotN wa))) :=
  PT.of (pt_cmp (pc_notN ha) rfl) fun σ H Q h => by
    obtain ⟨g, F, env, P, k, w, q⟩ := h
    refine ⟨g, F, env, _, k, w, fun d env1 v F1 H1 p e1 k1 r1 => ?_⟩
    refine ⟨_, rfl, ?_⟩
    rw [non_iff r1]
    cases d <;> exact q _ env1 F1 H1 p e1 k1
abbrev DN := List PyData → (PyData → Prop) → Prop
def dB (f : DN) (wa : DA) (env : List SD) (P : PyData → List SD → Prop) : Prop := wa env fun xs env' => f xs fun z => P z env'
def CallD (K : PySem.W.Frag) (r : List V → Hp → VK → Prop) (f : DN) : Prop :=
  ∀ (Z : Zx) (g : Gx Z) (F : Hp) (env : List SD) (σ : L2.St) (H : Hp) (vs : List V) (ds : List PyData) (P : PyData → Prop) (Q : VK), Ok K g F env σ H → DRs K F vs ds → f ds P →
    (∀ d v F' H', P d → Ex F F' → Ok K g F' env σ H' → DR K F' v d → Q v H') → r vs H Q
theorem lift_call {r : List V → Hp → VK → Prop} {f : DN} {was : DA} (hd : CallD K r f) {σ : L2.St} {H : Hp} {Q : VK} (h : liftE K Z (dB f was) σ H Q) : tCB r (liftA K Z was) σ H Q := by
  obtain ⟨g, F, env, P, k, w, q⟩ := h
  refine ⟨g, F, env, _, k, w, fun ds env1 vs F1 H1 p e1 k1 r1 => ?_⟩
  exact hd _ g F1 env1 σ H1 vs ds _ Q k1 r1 p fun d2 v2 F2 H2 p2 e2 k2 r2 => q d2 env1 v2 F2 H2 p2 (e1.trans e2) k2 r2
theorem dcb {x : Str} {id : String} {p : Pos} {r : List V → Hp → VK → Prop} {f : DN} {was : DA} (hc : CallR X (.builtin id) r) (hd : CallD X.K r f) (hm : X.mg x = none) (hv : bootBuiltins x = some (.builtin id)) (ha : PA X (e :: es) (liftA X.K Z was))
    (hg : Gl X x := by rfl) (hn : x ≠ "__name__" := by decide) (hdb : (x == ("__debug__" : Str)) = false := by decide)
    (he : starEach (e :: es) X.env = (false, eval e X.env) :: starEach es X.env := by rfl) (hpl : (backTo pos (starEach es X.env)).any (·.1) = false := by rfl) : PE X (.Call (.Name x p) (e :: es) [] pos) (liftE X.K Z (dB f was)) :=
  PE.of (pe_callB hc hg hm hv ha hn hdb he hpl) fun _ _ _ h => lift_call hd h
theorem dct {x : Str} {T : String} {p : Pos} {r : List V → Hp → VK → Prop} {f : DN} {was : DA} (hc : CallR X (.type T) r) (hd : CallD X.K r f) (hm : X.mg x = none) (hv : bootBuiltins x = some (.type T)) (ha : PA X (e :: es) (liftA X.K Z was))
    (hg : Gl X x := by rfl) (hn : x ≠ "__name__" := by decide) (hdb : (x == ("__debug__" : Str)) = false := by decide)
    (he : starEach (e :: es) X.env = (false, eval e X.env) :: starEach es X.env := by rfl) (hpl : (backTo pos (starEach es X.env)).any (·.1) = false := by rfl) : PE X (.Call (.Name x p) (e :: es) [] pos) (liftE X.K Z (dB f was)) :=
  PE.of (pe_callTy hc hg hm hv ha hn hdb he hpl) fun _ _ _ h => lift_call hd h
variable {was : DA} {p : Pos}
/-- all whole numbers -/
def intsD : List PyData → Option (List Int)
  | [] => some []
  | .int i :: r => (intsD r).map (i :: ·)
  | _ :: _ => none
def boolsD : List PyData → Option (List Bool)
  | [] => some []
  | .bool i :: r => (boolsD r).map (i :: ·)
  | _ :: _ => none
theorem ints_rel {F : Hp} : ∀ {ds : List PyData} {vs : List V} {ns : List Int}, DRs K F vs ds → intsD ds = some ns → vs = ns.map V.int
  | [], _, _, h, e => by cases h; cases e; rfl
  | .int i :: r, _, ns, h, e => by
    cases h with
    | cons a b =>
      cases q : intsD r with
      | none => simp [intsD, q] at e
      | some ms =>
        simp only [intsD, q, Option.map_some, Option.some.injEq] at e
        subst e
        cases a.inv_int
        rw [ints_rel b q]
        rfl
  | .none :: _, _, _, _, e => by simp [intsD] at e
  | .bool _ :: _, _, _, _, e => by simp [intsD] at e
  | .str _ :: _, _, _, _, e => by simp [intsD] at e
  | .list _ :: _, _, _, _, e => by simp [intsD] at e
  | .tuple _ :: _, _, _, _, e => by simp [intsD] at e
  | .dict _ :: _, _, _, _, e => by simp [intsD] at e
theorem bools_rel {F : Hp} : ∀ {ds : List PyData} {vs : List V} {ns : List Bool}, DRs K F vs ds → boolsD ds = some ns → vs = ns.map V.bl
  | [], _, _, h, e => by cases h; cases e; rfl
  | .bool i :: r, _, ns, h, e => by
    cases h with
    | cons a b =>
      cases q : boolsD r with
      | none => simp [boolsD, q] at e
      | some ms =>
        simp only [boolsD, q, Option.map_some, Option.some.injEq] at e
        subst e
        cases a.inv_bool
        rw [bools_rel b q]
        rfl
  | .none :: _, _, _, _, e => by simp [boolsD] at e
  | .int _ :: _, _, _, _, e => by simp [boolsD] at e
  | .str _ :: _, _, _, _, e => by simp [boolsD] at e
  | .list _ :: _, _, _, _, e => by simp [boolsD] at e
  | .tuple _ :: _, _, _, _, e => by simp [boolsD] at e
  | .dict _ :: _, _, _, _, e => by simp [boolsD] at e
def nLen (xs : List PyData) (P : PyData → Prop) : Prop := match xs with
  | [.list ds] => P (.int (ds.length : Nat))
  | [.tuple ds] => P (.int (ds.length : Nat))
  | [.str x] => x.length ≤ 100000 ∧ P (.int (x.length : Nat))
  | _ => False
theorem dlen (hm : X.mg "len" = none) (ha : PA X (e :: es) (liftA X.K Z was)) (hg : Gl X "len" := by rfl)
    (he : starEach (e :: es) X.env = (false, eval e X.env) :: starEach es X.env := by rfl) (hpl : (backTo pos (starEach es X.env)).any (·.1) = false := by rfl) : PE X (.Call (.Name "len" p) (e :: es) [] pos) (liftE X.K Z (dB nLen was)) :=
  dcb call_len (fun _ g F env σ H vs ds P Q k r f q => by
    unfold nLen at f
    split at f
    · obtain ⟨v, rfl, r0⟩ := r.inv1
      obtain ⟨a, us, rfl, h1, h2⟩ := r0.inv_lst
      exact ⟨_, us.length, rfl, .inl ⟨us, (h1.mono k.fh).sq, rfl⟩, by rw [h2.length]; exact q _ _ F H f (Ex.refl F) k (.int _)⟩
    · obtain ⟨v, rfl, r0⟩ := r.inv1
      obtain ⟨a, us, rfl, h1, h2⟩ := r0.inv_tup
      exact ⟨_, us.length, rfl, .inr ⟨us, Evl.ex_t k.fh h1, rfl⟩, by rw [h2.length]; exact q _ _ F H f (Ex.refl F) k (.int _)⟩
    · obtain ⟨v, rfl, r0⟩ := r.inv1
      cases r0.inv_str
      exact ⟨_, _, rfl, ⟨sz2 f.1, rfl⟩, q _ _ F H f.2 (Ex.refl F) k (.int _)⟩
    · exact f.elim) hm PySem.boot_len ha hg (by decide) (by decide) he hpl
def nAbs (xs : List PyData) (P : PyData → Prop) : Prop := match xs with
  | [.int i] => P (.int (if i < 0 then -i else i))
  | _ => False
theorem dabs (hm : X.mg "abs" = none) (ha : PA X (e :: es) (liftA X.K Z was)) (hg : Gl X "abs" := by rfl)
    (he : starEach (e :: es) X.env = (false, eval e X.env) :: starEach es X.env := by rfl) (hpl : (backTo pos (starEach es X.env)).any (·.1) = false := by rfl) : PE X (.Call (.Name "abs" p) (e :: es) [] pos) (liftE X.K Z (dB nAbs was)) :=
  dcb call_abs (fun _ g F env σ H vs ds P Q k r f q => by
    unfold nAbs at f
    split at f
    · obtain ⟨v, rfl, r0⟩ := r.inv1
      cases r0.inv_int
      exact ⟨_, rfl, q _ _ F H f (Ex.refl F) k (.int _)⟩
    · exact f.elim) hm (by decide +kernel) ha hg (by decide) (by decide) he hpl
def nMin2 (xs : List PyData) (P : PyData → Prop) : Prop := match xs with
  | [.int i, .int j] => P (.int (if j < i then j else i))
  | _ => False
def nMax2 (xs : List PyData) (P : PyData → Prop) : Prop := match xs with
  | [.int i, .int j] => P (.int (if j > i then j else i))
  | _ => False
theorem dmin2 (hm : X.mg "min" = none) (hc : X.calm = true) (ha : PA X (e :: es) (liftA X.K Z was)) (hg : Gl X "min" := by rfl)
    (he : starEach (e :: es) X.env = (false, eval e X.env) :: starEach es X.env := by rfl) (hpl : (backTo pos (starEach es X.env)).any (·.1) = false := by rfl) : PE X (.Call (.Name "min" p) (e :: es) [] pos) (liftE X.K Z (dB nMin2 was)) :=
  dcb (call_min2 hc) (fun _ g F env σ H vs ds P Q k r f q => by
    unfold nMin2 at f
    split at f
    · obtain ⟨v, w, rfl, r1, r2⟩ := r.inv2
      cases r1.inv_int
      cases r2.inv_int
      exact ⟨_, _, rfl, q _ _ F H f (Ex.refl F) k (.int _)⟩
    · exact f.elim) hm (by decide +kernel) ha hg (by decide) (by decide) he hpl
theorem dmax2 (hm : X.mg "max" = none) (hc : X.calm = true) (ha : PA X (e :: es) (liftA X.K Z was)) (hg : Gl X "max" := by rfl)
    (he : starEach (e :: es) X.env = (false, eval e X.env) :: starEach es X.env := by rfl) (hpl : (backTo pos (starEach es X.env)).any (·.1) = false := by rfl) : PE X (.Call (.Name "max" p) (e :: es) [] pos) (liftE X.K Z (dB nMax2 was)) :=
  dcb (call_max2 hc) (fun _ g F env σ H vs ds P Q k r f q => by
    unfold nMax2 at f
    split at f
    · obtain ⟨v, w, rfl, r1, r2⟩ := r.inv2
      cases r1.inv_int
      cases r2.inv_int
      exact ⟨_, _, rfl, q _ _ F H f (Ex.refl F) k (.int _)⟩
    · exact f.elim) hm (by decide +kernel) ha hg (by decide) (by decide) he hpl
def nAll (xs : List PyData) (P : PyData → Prop) : Prop := match xs with
  | [.list ds] => (match boolsD ds with | some bs => P (.bool (bs.all id)) | none => False)
  | _ => False
def nAny (xs : List PyData) (P : PyData → Prop) : Prop := match xs with
  | [.list ds] => (match boolsD ds with | some bs => P (.bool (bs.any id)) | none => False)
  | _ => False
theorem dall (hm : X.mg "all" = none) (hc : X.calm = true) (ha : PA X (e :: es) (liftA X.K Z was)) (hg : Gl X "all" := by rfl)
    (he : starEach (e :: es) X.env = (false, eval e X.env) :: starEach es X.env := by rfl) (hpl : (backTo pos (starEach es X.env)).any (·.1) = false := by rfl) : PE X (.Call (.Name "all" p) (e :: es) [] pos) (liftE X.K Z (dB nAll was)) :=
  dcb (cr_all hc) (fun _ g F env σ H vs ds P Q k r f q => by
    unfold nAll at f
    split at f
    · split at f
      · rename_i bs e
        obtain ⟨v, rfl, r0⟩ := r.inv1
        obtain ⟨a, us, rfl, h1, h2⟩ := r0.inv_lst
        cases bools_rel h2 e
        exact ⟨a, bs, rfl, (h1.mono k.fh).sq, q _ _ F H f (Ex.refl F) k (.bl _)⟩
      · exact f.elim
    · exact f.elim) hm (by decide +kernel) ha hg (by decide) (by decide) he hpl
/-- isinstance(x, T), T a built-in type -/
def tyName : PyData → String
  | .none => "NoneType"
  | .bool _ => "bool"
  | .int _ => "int"
  | .str _ => "str"
  | .list _ => "list"
  | .tuple _ => "tuple"
  | .dict [] => "dict"
  | .dict _ => "list"
def isiB (d : PyData) (T : String) : Bool := (T == tyName d) || (T == "int" && tyName d == "bool")
theorem tyX_of0 {F : Hp} {v : V} {d : PyData} (r : DR K F v d) (hno : ∀ c, d ≠ .dict [(.none, .str c)]) : TyX K F v (.type (tyName d)) := by
  cases r with
  | exc _ _ => exact absurd rfl (hno _)

  | non => exact .base .non
  | bl b => exact .base (.bl b)
  | int i => exact .base (.int i)
  | str x => exact .base (.str x)
  | lst h _ =>
    rcases h with (h | ⟨o, h⟩) | ⟨its, n, h, _⟩
    · exact .base (.lst h)
    · exact .base (.frz h)
    · exact .kList h rfl
  | tup h _ =>
    rcases h.sq with (h | ⟨o, h⟩) | ⟨o, its, n, h, hc, _⟩
    · exact .base (.tup h)
    · exact .fTuple h
    · exact .kTuple h hc
  | dct h => exact .base (.dK h)
  | row h _ => exact .base (.lst h)
theorem tyX_of {F : Hp} {v : V} {d : PyData} (r : DR K F v d) : TyX K F v (.type (tyName d)) ∨ ∃ a c, v = .ref a ∧ d = .dict [(.none, .str c)] ∧ F a = some (.ext (ExcAt (He.ga K c) a)) ∧ XcF K c := by
  by_cases h : ∃ c, d = .dict [(.none, .str c)]
  · obtain ⟨c, rfl⟩ := h
    cases r with
    | exc h x => exact .inr ⟨_, _, rfl, rfl, h, x⟩
  · exact .inl (tyX_of0 r fun c z => h ⟨c, z⟩)
theorem kit_isi (d : PyData) : ∀ T ∈ exTypes, PySem.W.kitOne K (.type (tyName d)) (.type T) = some (isiB d T) := by
  have h : ∀ N ∈ ["NoneType", "bool", "int", "str", "list", "tuple", "dict"], ∀ T ∈ exTypes, kitB N T = some ((T == N) || (T == "int" && N == "bool")) := by decide +kernel
  intro T hT
  exact kit_ty (h (tyName d) (by unfold tyName; split <;> simp) T hT)
/-- isinstance(e, c), e a caught refusal -/
def rIsE1 (K : PySem.W.Frag) : List V → Hp → VK → Prop := fun xs H Q => ∃ (a C : Addr) (c : V) (u : Value) (b : Bool), xs = [.ref a, c] ∧ ClsV c u ∧ H a = some (.ext (ExcAt C a)) ∧ ExcC K C ∧ PySem.W.kitOne K (.ref C) u = some b ∧ Q (.bl b) H
theorem exc_inst {H : Hp} {s : Shared} {σ : L2.St} {pins : List (Addr × Obj)} {a C : Addr} (I : Inv X pins σ H s) (h : H a = some (.ext (ExcAt C a))) : ∃ oe, PySem.W.InstAt s.heap a oe C none := by
  obtain ⟨⟨oe, vs, h1, h2, h3, h4⟩, _⟩ := (show ObjOk X.prog X.w H s.heap a (.ext (ExcAt C a)) from I.hok a _ h)
  obtain ⟨oc, od, oda, osl⟩ := oe
  dsimp only at h2 h3 h4
  subst h2 h3 h4
  exact ⟨_, h1, rfl, rfl, trivial⟩
theorem call_isE1 : CallR X (.builtin "isinstance") (rIsE1 X.K) := by
  intro pins s σ H xs us Q I r h
  obtain ⟨a, C, c, u, b, rfl, k, hH, x, e, q⟩ := h
  obtain ⟨u1, u2, rfl, r1, r2⟩ := vals2 r
  have e2 := k.eq r2
  subst e2
  cases (show u1 = Value.ref a from r1)
  obtain ⟨oe, J⟩ := exc_inst I hH
  exact PySem.W.kia_one (PySem.W.handS_kitx_exc x.hg x.hk x.hs x.hd x.ha x.hn x.ht x.hm) I.kIn J e (fun z => nomatch z) fun tk => ⟨.bl b, H, I.tok tk, rfl, q⟩
theorem CallR.or {f : Value} {r r' : List V → Hp → VK → Prop} (h : CallR X f r) (h' : CallR X f r') : CallR X f (fun xs H Q => r xs H Q ∨ r' xs H Q) := by
  intro pins s σ H xs us Q I rv q
  rcases q with q | q
  · exact h pins s σ H xs us Q I rv q
  · exact h' pins s σ H xs us Q I rv q
def dIsi (T : String) (wa : DE) (env : List SD) (P : PyData → List SD → Prop) : Prop := wa env fun d env' => P (.bool (isiB d T)) env'
theorem disi (T : String) (xT : Str) {p q2 : Pos} (hm : X.mg "isinstance" = none) (hmT : X.mg xT = none) (hvT : bootBuiltins xT = some (.type T)) (hT : T ∈ exTypes) (ha : PE X a (liftE X.K Z wa)) (hg : Gl X "isinstance" := by rfl) (hgT : Gl X xT := by rfl)
    (hnT : xT ≠ "__name__" := by decide) (hdT : (xT == ("__debug__" : Str)) = false := by decide)
    (hs1 : starEach [a, .Name xT q2] X.env = (false, eval a X.env) :: starEach [.Name xT q2] X.env := by rfl) (hs2 : starEach [.Name xT q2] X.env = (false, eval (.Name xT q2) X.env) :: starEach [] X.env := by rfl)
    (hpl : (backTo pos (starEach [Expr.Name xT q2] X.env)).any (·.1) = false := by rfl) : PE X (.Call (.Name "isinstance" p) [a, .Name xT q2] [] pos) (liftE X.K Z (dIsi T wa)) :=
  PE.of (pe_callB (call_isi.or call_isE1) hg hm (by decide +kernel) (pa_cons ha (pa_cons (pe_bltn (v := .ty T) hgT hmT hvT rfl hnT hdT) pa_nil hs2) hs1) (by decide) (by decide) hs1 hpl) fun σ H Q h => by
    obtain ⟨g, F, env, P, k, w, q⟩ := h
    refine ⟨g, F, env, _, k, w, fun d env1 v F1 H1 p e1 k1 r1 => ?_⟩
    rcases tyX_of (drH k1 r1) with ty | ⟨a, c, rfl, rfl, hx, x⟩
    · exact .inl ⟨v, .ty T, _, _, _, rfl, .ty T, ty, kit_isi d T hT, q _ env1 _ F1 H1 p e1 k1 (.bl _)⟩
    · refine .inr ⟨a, _, .ty T, _, false, rfl, .ty T, hx, x.cls, x.six T hT, ?_⟩
      have e : isiB (.dict [(.none, .str c)]) T = false := by
        have : ∀ T ∈ exTypes, isiB (.dict [(.none, .str c)]) T = false := by
          intro T hT
          simp only [exTypes, List.mem_cons, List.not_mem_nil, or_false] at hT
          rcases hT with rfl | rfl | rfl | rfl | rfl <;> rfl
        exact this T hT
      rw [e] at p
      exact q _ env1 _ F1 H1 p e1 k1 (.bl _)
end
end DL

namespace DL
variable {Z : Zx}
open PySem PySem.Spec PyProof.Rows L2
open Evl (Ex)

abbrev DSp := List SD → (SD → List SD → Prop) → Prop
structure ArgsOk (K : PySem.W.Frag) (F H : Hp) (vs : List V) (as : List SD) : Prop where
  len : as.length = vs.length
  fh : Ex F H
  dat : ∀ (i : Nat) (d : PyData), as[i]? = some (.dat d) → ∃ v, vs[i]? = some v ∧ DR K F v d
  cel : ∀ (i : Nat) (p : Bool) (xs : List PyData), as[i]? = some (.cel p xs) → p = true ∧ ∃ a us, vs[i]? = some (.ref a) ∧ F a = none ∧ H a = some (.lst us) ∧ DRs K F us xs
  sep : ∀ (i j : Nat) (p q : Bool) (xs ys : List PyData) (a : Addr), as[i]? = some (.cel p xs) → as[j]? = some (.cel q ys) → vs[i]? = some (.ref a) → vs[j]? = some (.ref a) → i = j
  nod : ∀ (i : Nat) (kvs : List (List Key × PyData)), as[i]? ≠ some (.dic kvs)
structure PostOk (K : PySem.W.Frag) (F H : Hp) (vs : List V) (as : List SD) (F' H' : Hp) (as' : List SD) (v : V) (r : SD) : Prop where
  ex : Ex F F'
  fh : Ex F' H'
  newF : ∀ (a : Addr) (o : HO), F' a = some o → F a = some o ∨ H a = none
  frame : ∀ (a : Addr) (o : HO), H a = some o → (∀ (i : Nat) (p : Bool) (xs : List PyData), as[i]? = some (.cel p xs) → vs[i]? ≠ some (.ref a)) → H' a = some o
  cel : ∀ (i : Nat) (p : Bool) (xs : List PyData) (a : Addr), as[i]? = some (.cel p xs) → vs[i]? = some (.ref a) → ∃ ys us, as'[i]? = some (.cel true ys) ∧ F' a = none ∧ H' a = some (.lst us) ∧ DRs K F' us ys
  res : match r with
    | .un => False
    | .dat d => DR K F' v d
    | .cel _ xs => ∃ a us, v = .ref a ∧ F' a = none ∧ H' a = some (.lst us) ∧ DRs K F' us xs ∧ H a = none
    | .dic _ => False
def spD (K : PySem.W.Frag) (S : DSp) (vs : List V) (H : Hp) (Q : VK) : Prop := ∃ (F : Hp) (as : List SD) (P : SD → List SD → Prop), ArgsOk K F H vs as ∧ S as P ∧
  ∀ r as' v F' H', P r as' → PostOk K F H vs as F' H' as' v r → Q v H'
/-- the def at f keeps its promise of data; n: its parameters; it raises nothing -/
structure FnG (P : Program) (w : World) (K : PySem.W.Frag) (mg : Str → Option Value) (base : Heap) (k : Nat) (f : Addr) (fd : FuncData) (ps : List Str) (S : DSp) : Prop where
  len : ∀ as Q, S as Q → as.length = ps.length
  go : ∀ (A : Around) (outer : List Env) (s : Shared) (H : Hp) (args : Args) (us : List Value) (vs : List V) (Q : VK), Room k A → A.guards = some [] → Env0 P w K mg base A outer s H →
    BindsTo s fd args (ps.zip us) → Vals vs us → spD K S vs H Q → codeAny (model P w) A (.call (.ref f) args) (CR CX0 outer P w H s Q E0) s
theorem FnG.mono {P : Program} {w : World} {K : PySem.W.Frag} {mg : Str → Option Value} {base : Heap} {j k : Nat} {f : Addr} {fd : FuncData} {ps : List Str} {S : DSp} (F : FnG P w K mg base j f fd ps S) (h : j ≤ k) : FnG P w K mg base k f fd ps S :=
  ⟨F.len, fun A outer s H args us vs Q hr => F.go A outer s H args us vs Q (hr.mono h)⟩
/-- another promise, that follows -/
theorem FnG.imp {P : Program} {w : World} {K : PySem.W.Frag} {mg : Str → Option Value} {base : Heap} {k : Nat} {f : Addr} {fd : FuncData} {ps : List Str} {S S' : DSp} (F : FnG P w K mg base k f fd ps S) (h : ∀ as Q, S' as Q → S as Q) : FnG P w K mg base k f fd ps S' :=
  ⟨fun as Q q => F.len as Q (h _ _ q), fun A outer s H args us vs Q hr hg e hb r ⟨F0, as, P, a1, a2, a3⟩ => F.go A outer s H args us vs Q hr hg e hb r ⟨F0, as, P, a1, h _ _ a2, a3⟩⟩
section
variable {K : PySem.W.Frag} {g : Gx Z} {F F' : Hp} {env : List SD} {σ : L2.St} {H H' : Hp}
/-- behind a call without cells -/
theorem Ok.after (k : Ok K g F env σ H) {vs : List V} {as as' : List SD} {v : V} {r : SD} (hc : ∀ (i : Nat) (p : Bool) (xs : List PyData), as[i]? ≠ some (.cel p xs)) (p : PostOk K F H vs as F' H' as' v r) : Ok K g F' env σ H' ∧ ResOk K g F' env σ H' v r := by
  have fr : ∀ (a : Addr) (o : HO), H a = some o → H' a = some o := fun a o e => p.frame a o e fun i q xs z => absurd z (hc i q xs)
  have keepN : ∀ (a : Addr) (o : HO), H a = some o → F a = none → F' a = none := fun a o e n => by
    cases q : F' a with
    | none => rfl
    | some u =>
      rcases p.newF a u q with z | z
      · rw [n] at z; cases z
      · rw [e] at z; cases z
  refine ⟨⟨k.len, p.fh, fun i d e => ?_, fun i q xs e => ?_, k.sep, k.pin, fun a o e n => fr a o (k.frame a o e n), fun a o e => ?_, fun a o e => p.ex a o (k.oldF a o e), fun a o e => ?_, (k.dic.keep p.ex (fun _ _ _ z => z) fun a ys e n => ⟨keepN a _ e n, (fr a _ e).trans e.symm⟩)⟩, ?_⟩
  · obtain ⟨u, h1, h2⟩ := k.dat i d e
    exact ⟨u, h1, h2.mono p.ex⟩
  · obtain ⟨a, us, h1, h2, h3, h4, h5⟩ := k.cel i q xs e
    exact ⟨a, us, h1, keepN a _ h3 h2, fr a _ h3, h4.mono p.ex, h5⟩
  · rcases p.newF a o e with z | z
    · exact k.newF a o z
    · exact .inr (k.fresh0 z)
  · obtain ⟨z1, z2, z3⟩ := k.prot a o e
    exact ⟨fr a o z1, keepN a o z1 z2, z3⟩
  · have pr := p.res
    cases r with
    | un => exact pr
    | dat d => exact pr
    | dic kvs => exact pr.elim
    | cel b xs =>
      obtain ⟨a, us, h1, h2, h3, h4, h5⟩ := pr
      refine ⟨a, us, h1, h2, h3, h4, k.fresh0 h5, ?_, fun j q ys e z => ?_⟩
      · cases e : g.Pr a with
        | none => rfl
        | some u =>
          have z := (k.prot a u e).1
          rw [h5] at z
          cases z
      · obtain ⟨a', ws, z1, _, z3, _⟩ := k.cel j q ys e
        rw [z] at z1
        cases z1
        rw [h5] at z3
        cases z3
/-- behind a call whose first argument is the cell of the name i -/
theorem Ok.afterC (k : Ok K g F env σ H) {i : Nat} {p : Bool} {xs : List PyData} {a : Addr} {vs : List V} {ds : List PyData} {as' : List SD} {v : V} {r : SD} (he : env[i]? = some (.cel p xs)) (hs : σ[i]? = some (some (.ref a)))
    (q : PostOk K F H (.ref a :: vs) (.cel true xs :: ds.map .dat) F' H' as' v r) : ∃ ys rest, as' = .cel true ys :: rest ∧ Ok K g F' (env.set i (.cel p ys)) σ H' ∧ ResOk K g F' (env.set i (.cel p ys)) σ H' v r := by
  obtain ⟨a0, us0, b1, b2, b3, b4, b5, b6⟩ := k.cel i p xs he
  rw [hs] at b1
  cases b1
  obtain ⟨ys, us, c1, c2, c3, c4⟩ := q.cel 0 true xs a rfl rfl
  obtain ⟨rest, rfl⟩ : ∃ rest, as' = .cel true ys :: rest := by
    cases as' with
    | nil => simp at c1
    | cons x rest => simp at c1; subst c1; exact ⟨rest, rfl⟩
  have fr : ∀ (b : Addr) (o : HO), H b = some o → b ≠ a → H' b = some o := fun b o e ne => q.frame b o e fun j p' xs' z z2 => by
    cases j with
    | zero => simp at z2; exact ne z2.symm
    | succ j =>
      simp only [List.getElem?_cons_succ, List.getElem?_map] at z
      cases y : ds[j]? with
      | none => rw [y] at z; cases z
      | some d => rw [y] at z; cases z
  have keepN : ∀ (b : Addr) (o : HO), H b = some o → F b = none → F' b = none := fun b o e n => by
    cases y : F' b with
    | none => rfl
    | some u =>
      rcases q.newF b u y with z | z
      · rw [n] at z; cases z
      · rw [e] at z; cases z
  have oth : ∀ {j : Nat} {p' : Bool} {zs : List PyData}, (env.set i (SD.cel p ys))[j]? = some (.cel p' zs) → ∃ p2 z2, env[j]? = some (.cel p2 z2) := fun {j p' zs} z => by
    rcases get_set z with ⟨rfl, _⟩ | ⟨_, z⟩
    · exact ⟨_, _, he⟩
    · exact ⟨_, _, z⟩
  refine ⟨ys, rest, rfl, ⟨by simp [k.len], q.fh, fun j d e => ?_, fun j p' zs e => ?_, fun j l p1 p2 z1 z2 c h1 h2 h3 h4 => ?_, fun j b e => ?_, fun b o e n => ?_, fun b o e => ?_, fun b o e => q.ex b o (k.oldF b o e), fun b o e => ?_, ((k.dic.setE (i := i) (x := .cel p ys) fun _ z => by cases z).keep q.ex (fun _ _ _ z => z) fun b zs e n => ⟨keepN b _ e n, (fr b _ e fun z => by rw [z, b3] at e; cases e).trans e.symm⟩)⟩, ?_⟩
  · rcases get_set e with ⟨_, z⟩ | ⟨_, z⟩
    · cases z
    · obtain ⟨u, h1, h2⟩ := k.dat j d z
      exact ⟨u, h1, h2.mono q.ex⟩
  · rcases get_set e with ⟨rfl, z⟩ | ⟨n, z⟩
    · cases z
      exact ⟨a, us, hs, c2, c3, c4, b5, b6⟩
    · obtain ⟨b, ws, h1, h2, h3, h4, h5⟩ := k.cel j _ zs z
      have ne : b ≠ a := fun y => by
        subst y
        exact n (k.sep i j _ _ _ _ b he z hs h1)
      exact ⟨b, ws, h1, keepN b _ h3 h2, fr b _ h3 ne, h4.mono q.ex, h5⟩
  · obtain ⟨_, _, f1⟩ := oth h1
    obtain ⟨_, _, f2⟩ := oth h2
    exact k.sep j l _ _ _ _ c f1 f2 h3 h4
  · obtain ⟨zs, z⟩ := k.pin j b e
    by_cases n : i = j
    · subst n
      rw [he] at z
      cases z
      exact ⟨ys, set_eq he⟩
    · exact ⟨zs, by rw [set_ne n]; exact z⟩
  · have ne : b ≠ a := fun z => by
      subst z
      cases p with
      | true => exact n i (b5 rfl)
      | false =>
        rw [b6 rfl] at e
        cases e
    exact fr b o (k.frame b o e n) ne
  · rcases q.newF b o e with z | z
    · exact k.newF b o z
    · exact .inr (k.fresh0 z)
  · obtain ⟨z1, z2, z3⟩ := k.prot b o e
    have ne : b ≠ a := fun z => by
      subst z
      exact z3 i p xs he hs
    refine ⟨fr b o z1 ne, keepN b o z1 z2, fun j p' zs e' => ?_⟩
    obtain ⟨_, _, f1⟩ := oth e'
    exact z3 j _ _ f1
  · have pr := q.res
    cases r with
    | un => exact pr
    | dat d => exact pr
    | dic kvs => exact pr.elim
    | cel b xs2 =>
      obtain ⟨c, ws, h1, h2, h3, h4, h5⟩ := pr
      refine ⟨c, ws, h1, h2, h3, h4, k.fresh0 h5, ?_, fun j p' zs e z => ?_⟩
      · cases e : g.Pr c with
        | none => rfl
        | some u =>
          have z := (k.prot c u e).1
          rw [h5] at z
          cases z
      · obtain ⟨_, _, f1⟩ := oth e
        obtain ⟨a', ws', z1, _, z3, _⟩ := k.cel j _ _ f1
        rw [z] at z1
        cases z1
        rw [h5] at z3
        cases z3
theorem args_dat (hf : Ex F H) {vs : List V} {ds : List PyData} (r : DRs K F vs ds) : ArgsOk K F H vs (ds.map .dat) where
  len := by rw [List.length_map]; exact r.length.symm
  fh := hf
  dat := fun i d e => by
    rw [List.getElem?_map] at e
    cases q : ds[i]? with
    | none => rw [q] at e; cases e
    | some x =>
      rw [q] at e
      cases e
      exact r.get q
  cel := fun i p xs e => by
    rw [List.getElem?_map] at e
    cases q : ds[i]? with
    | none => rw [q] at e; cases e
    | some x => rw [q] at e; cases e
  sep := fun i j p q xs ys a e => by
    rw [List.getElem?_map] at e
    cases q : ds[i]? with
    | none => rw [q] at e; cases e
    | some x => rw [q] at e; cases e
  nod := fun i kvs e => by
    rw [List.getElem?_map] at e
    cases q : ds[i]? with
    | none => rw [q] at e; cases e
    | some x => rw [q] at e; cases e
theorem no_cel {ds : List PyData} (i : Nat) (p : Bool) (xs : List PyData) : (ds.map SD.dat)[i]? ≠ some (.cel p xs) := fun e => by
  rw [List.getElem?_map] at e
  cases q : ds[i]? with
  | none => rw [q] at e; cases e
  | some x => rw [q] at e; cases e
theorem args_cel (hf : Ex F H) {a : Addr} {us : List V} {xs : List PyData} {vs : List V} {ds : List PyData} (hF : F a = none) (hH : H a = some (.lst us)) (rx : DRs K F us xs) (r : DRs K F vs ds) : ArgsOk K F H (.ref a :: vs) (.cel true xs :: ds.map .dat) := by
  have b := args_dat hf r
  refine ⟨by simp [r.length], hf, fun i d e => ?_, fun i p zs e => ?_, fun i j p q zs ys c e1 e2 _ _ => ?_, fun i kvs e => ?_⟩
  · cases i with
    | zero => simp at e
    | succ i =>
      obtain ⟨v, h1, h2⟩ := b.dat i d (by simpa using e)
      exact ⟨v, by simpa using h1, h2⟩
  · cases i with
    | zero =>
      simp at e
      obtain ⟨rfl, rfl⟩ := e
      exact ⟨rfl, a, us, rfl, hF, hH, rx⟩
    | succ i => exact absurd (by simpa using e) (no_cel (ds := ds) i p zs)
  · cases i with
    | succ i => exact absurd (by simpa using e1) (no_cel (ds := ds) i p zs)
    | zero =>
      cases j with
      | zero => rfl
      | succ j => exact absurd (by simpa using e2) (no_cel (ds := ds) j q ys)
  · cases i with
    | zero => simp at e
    | succ i => exact b.nod i kvs (by simpa using e)
end

section
variable {X : Cx} {k : Nat} {f : Addr} {fd : FuncData} {ps : List Str} {S : DSp} {x : Str} {p pos : Pos} {e : Expr} {es : List Expr} {was : DA}
/-- the callee runs -/
theorem run_g {pins : List (Addr × Obj)} {σ : L2.St} {H : Hp} {s : Shared} {Q : VK} {us : List Value} {vs : List V} (G : FnG X.prog X.w X.K X.mg X.base k f fd ps S) (hr : Room k X.A) (hg : X.A.guards = some []) (hb : Binds X.K fd ps [])
    (I : Inv X pins σ H s) (r : Vals vs us) (h : spD X.K S vs H Q) : wpAny (model X.prog X.w) X.A (call (.ref f) us) (EP X pins σ Q) X.xe s := by
  obtain ⟨F0, as, P, a1, a2, a3⟩ := id h
  have hl : (us ++ ([] : List Value)).length = ps.length := by rw [List.append_nil, ← r.length, ← a1.len]; exact G.len _ _ a2
  have hbb := hb s us I.kIn hl
  rw [List.append_nil] at hbb
  refine wpAny_call (codeAny_mono (G.go X.A X.stack s H ⟨us, []⟩ us vs Q hr hg I.env0 hbb r h) fun res s' hq => ?_)
  match res, hq with
  | .error e, hq => exact hq.elim
  | .ok (.ret u), hq => exact I.after hq
  | .ok .next, hq => exact hq.elim
  | .ok .brk, hq => exact hq.elim
  | .ok .cont, hq => exact hq.elim
/-- f(..), all arguments data -/
def dCall (S : DSp) (was : DA) (env : List SD) (P : SD → List SD → Prop) : Prop := was env fun ds env1 => S (ds.map .dat) fun r _ => P r env1
theorem dcall (G : FnG X.prog X.w X.K X.mg X.base k f fd ps S) (hr : Room k X.A) (hA : X.A.guards = some []) (hm : X.mg x = some (.ref f)) (hk : PySem.W.keepIn X.K (.ref f) = true) (hb : Binds X.K fd ps [])
    (ha : PA X (e :: es) (liftA X.K Z was)) (hg : Gl X x := by rfl) (hdb : (x == ("__debug__" : Str)) = false := by decide)
    (he : starEach (e :: es) X.env = (false, eval e X.env) :: starEach es X.env := by rfl) (hpl : (backTo pos (starEach es X.env)).any (·.1) = false := by rfl) : PE X (.Call (.Name x p) (e :: es) [] pos) (liftX X.K Z (dCall S was)) := by
  refine ⟨fun pins s σ H Q I ⟨g, F, env, P, k0, w, q⟩ => wpAny_Call_Name_kw (ld_glob I hg hm (PySem.W.callWith_K (h₀ := X.base) I.ok.mod.kin hk (thn (ha.run pos pins s σ H (spD X.K S · · Q) I ?_) fun us s1 ⟨vs, H1, I1, r, q1⟩ => ⟨I1.kIn, run_g G hr hA hb I1 r q1⟩) he hpl) hdb)⟩
  refine ⟨g, F, env, _, k0, w, fun ds env1 vs F1 H1 p1 e1 k1 r1 => ⟨F1, ds.map .dat, _, args_dat k1.fh r1, p1, fun r as' v F2 H2 p2 po => ?_⟩⟩
  obtain ⟨k2, r2⟩ := k1.after no_cel po
  exact q r env1 v F2 H2 p2 (e1.trans po.ex) k2 r2
/-- f(x, ..), x the name i's own cell, which f may change -/
def dCallC (S : DSp) (i : Nat) (was : DA) (env : List SD) (P : SD → List SD → Prop) : Prop := match env[i]? with
  | some (.cel _ _) => was env fun ds env1 => match env1[i]? with
    | some (.cel p xs) => S (.cel true xs :: ds.map .dat) fun r as' => match as' with
      | .cel _ ys :: _ => P r (env1.set i (.cel p ys))
      | _ => False
    | _ => False
  | _ => False
theorem dcallC (i : Nat) {y : Str} {p0 : Pos} (G : FnG X.prog X.w X.K X.mg X.base k f fd ps S) (hr : Room k X.A) (hA : X.A.guards = some []) (hm : X.mg x = some (.ref f)) (hk : PySem.W.keepIn X.K (.ref f) = true) (hb : Binds X.K fd ps [])
    (ha : PA X es (liftA X.K Z was)) (hN : X.N[i]? = some y := by rfl) (hv : Vis X.env.scope y := by first | exact Or.inl rfl | exact Or.inr (Or.inl rfl) | exact Or.inr (Or.inr rfl)) (hd : (y == ("__debug__" : Str)) = false := by decide)
    (hcd : (y == ("__classdict__" : Str)) = false := by decide) (hg : Gl X x := by rfl) (hdb : (x == ("__debug__" : Str)) = false := by decide)
    (he : starEach (.Name y p0 :: es) X.env = (false, eval (.Name y p0) X.env) :: starEach es X.env := by rfl) (hpl : (backTo pos (starEach es X.env)).any (·.1) = false := by rfl) :
    PE X (.Call (.Name x p) (.Name y p0 :: es) [] pos) (liftX X.K Z (dCallC S i was)) := by
  refine ⟨fun pins s σ H Q I ⟨g, F, env, P, k0, w, q⟩ => wpAny_Call_Name_kw (ld_glob I hg hm (PySem.W.callWith_K (h₀ := X.base) I.ok.mod.kin hk (thn ((pa_cons (pe_var hN hv hd hcd) ha he).run pos pins s σ H (spD X.K S · · Q) I ?_) fun us s1 ⟨vs, H1, I1, r, q1⟩ => ⟨I1.kIn, run_g G hr hA hb I1 r q1⟩) he hpl) hdb)⟩
  unfold dCallC at w
  split at w
  · rename_i p' xs' e0
    obtain ⟨a0, us0, b1, _⟩ := k0.cel i p' xs' e0
    refine ⟨_, b1, g, F, env, _, k0, w, fun ds env1 vs F1 H1 p1 e1 k1 r1 => ?_⟩
    split at p1
    · rename_i p2 xs ex
      obtain ⟨a1, us1, c1, c2, c3, c4, _⟩ := k1.cel i p2 xs ex
      rw [b1] at c1
      cases c1
      refine ⟨F1, _, _, args_cel k1.fh c2 c3 c4 r1, p1, fun r as' v F2 H2 p3 po => ?_⟩
      obtain ⟨ys, rest, rfl, k2, r2⟩ := k1.afterC ex b1 po
      exact q r _ v F2 H2 p3 (e1.trans po.ex) k2 r2
    · exact p1.elim
  · exact w.elim
end

structure DEnds where
  nx : List SD → Prop
  rt : SD → List SD → Prop
  bk : List SD → Prop := fun _ => False
  ct : List SD → Prop := fun _ => False
  nol : Bool := false
abbrev DS := DEnds → List SD → Prop
structure Ends4 (K : PySem.W.Frag) (m : Nat) (g : Gx Z) (F : Hp) (P : DEnds) (D : Ends) : Prop where
  nx : ∀ env' σ' F' H', P.nx env' → Ex F F' → Ok K g F' env' σ' H' → D.nx σ' H'
  bk : ∀ env' σ' F' H', P.bk env' → Ex F F' → Ok K g F' env' σ' H' → D.bk σ' H'
  ct : ∀ env' σ' F' H', P.ct env' → Ex F F' → Ok K g F' env' σ' H' → D.ct σ' H'
  rt : ∀ r env' v σ' F' H', P.rt r (env'.take m) → Ex F F' → Ok K g F' env' σ' H' → ResOk K g F' env' σ' H' v r → D.rt v H'
/-- P.nol: no list stood at the def's begin -/
structure EndsOk (K : PySem.W.Frag) (m : Nat) (g : Gx Z) (F : Hp) (P : DEnds) (D : Ends) : Prop extends Ends4 K m g F P D where
  free : P.nol = true → (∀ a, g.F0 a = none) ∧ ∀ F', Ends4 K m g F' P D
theorem EndsOk.four {K : PySem.W.Frag} {m : Nat} {g : Gx Z} {F : Hp} {P : DEnds} {D : Ends} (h : EndsOk K m g F P D) : Ends4 K m g F P D := h.toEnds4
theorem EndsOk.any {K : PySem.W.Frag} {m : Nat} {g : Gx Z} {F : Hp} {P : DEnds} {D : Ends} (h : EndsOk K m g F P D) (n : P.nol = true) (F' : Hp) : EndsOk K m g F' P D := ⟨(h.free n).2 F', h.free⟩
theorem EndsOk.mk4 {K : PySem.W.Frag} {m : Nat} {g : Gx Z} {F : Hp} {P : DEnds} {D : Ends} (h : Ends4 K m g F P D) (n : P.nol = false) : EndsOk K m g F P D := ⟨h, fun z => by rw [n] at z; cases z⟩
def liftS (K : PySem.W.Frag) (Z : Zx) (m : Nat) (w : DS) : TS := fun D σ H => ∃ (g : Gx Z) (F : Hp) (env : List SD) (P : DEnds), Ok K g F env σ H ∧ w P env ∧ EndsOk K m g F P D
theorem EndsOk.ex {K : PySem.W.Frag} {m : Nat} {g : Gx Z} {F F' : Hp} {P : DEnds} {D : Ends} (h : EndsOk K m g F P D) (e : Ex F F') : EndsOk K m g F' P D :=
  ⟨⟨fun a b c d p x => h.nx a b c d p (e.trans x), fun a b c d p x => h.bk a b c d p (e.trans x), fun a b c d p x => h.ct a b c d p (e.trans x), fun a b c d f g' p x => h.rt a b c d f g' p (e.trans x)⟩, h.free⟩
section
variable {X : Cx} {st : Stmt} {sts : List Stmt} {w w2 : DS} {m : Nat} {e : Expr} {we : DE} {wx : DX} {pos : Pos}
def dNext (E : DEnds) (env : List SD) : Prop := E.nx env
def dSeq (w w2 : DS) (E : DEnds) (env : List SD) : Prop := w { E with nx := w2 E } env
theorem snil : PSs X [] (liftS X.K Z m dNext) := PSs.of pss_nil fun D σ H ⟨g, F, env, P, k, w, q⟩ => q.nx env σ F H w (Ex.refl F) k
theorem scons (h1 : PS X st (liftS X.K Z m w)) (h2 : PSs X sts (liftS X.K Z m w2)) : PSs X (st :: sts) (liftS X.K Z m (dSeq w w2)) := PSs.of (pss_cons h1 h2) fun D σ H ⟨g, F, env, P, k, w, q⟩ =>
  ⟨g, F, env, _, k, w, ⟨⟨fun env' σ' F' H' p e k' => ⟨g, F', env', P, k', p, q.ex e⟩, q.bk, q.ct, q.rt⟩, fun n => ⟨(q.free n).1, fun F2 => ⟨fun env' σ' F' H' p e k' => ⟨g, F', env', P, k', p, q.any n F'⟩, ((q.free n).2 F2).bk, ((q.free n).2 F2).ct, ((q.free n).2 F2).rt⟩⟩⟩⟩
theorem sone (h1 : PS X st (liftS X.K Z m w)) : PSs X [st] (liftS X.K Z m w) := pss_one h1
/-- a name that is no parameter's cell -/
def npB : SD → Bool
  | .cel true _ => false
  | _ => true
def noPar (env : List SD) (i : Nat) : Bool := match env[i]? with
  | some r => npB r
  | none => true
theorem noPar_of {env : List SD} {i : Nat} (h : noPar env i = true) : NoPar env i := fun xs e => by
  unfold noPar at h
  rw [e] at h
  cases h
theorem Ok.setR {K : PySem.W.Frag} {g : Gx Z} {F : Hp} {env : List SD} {σ : L2.St} {H : Hp} {i : Nat} {v : V} {r : SD} (k : Ok K g F env σ H) (hp : noPar env i = true) (h : ResOk K g F env σ H v r) (hr : ∀ xs, r ≠ .cel true xs) : Ok K g F (env.set i r) (σ.set i (some v)) H := by
  cases r with
  | un => exact h.elim
  | dat d => exact k.setD (noPar_of hp) h
  | cel b xs =>
    obtain ⟨a, vs, rfl, h1, h2, h3, h4, h5, h6⟩ := h
    cases b with
    | true => exact absurd rfl (hr xs)
    | false => exact k.setC (noPar_of hp) h1 h2 h3 h4 h5 h6
  | dic kvs => exact h.elim
/-- what a new cell is called -/
def asOwn : SD → SD
  | .cel _ xs => .cel false xs
  | r => r
theorem res_own {K : PySem.W.Frag} {g : Gx Z} {F : Hp} {env : List SD} {σ : L2.St} {H : Hp} {v : V} {r : SD} (h : ResOk K g F env σ H v r) : ResOk K g F env σ H v (asOwn r) := by
  cases r <;> exact h
theorem own_ne {r : SD} (xs : List PyData) : asOwn r ≠ .cel true xs := by
  cases r <;> (intro h; cases h)
/-- name = e -/
def dSet (i : Nat) (wx : DX) (E : DEnds) (env : List SD) : Prop := wx env fun r env1 => bIf (noPar env1 i) (E.nx (env1.set i (asOwn r))) False
theorem sset (i : Nat) {x : Str} {pos' : Pos} (hN : X.N.Nodup) (he : PE X e (liftX X.K Z wx)) (hi : X.N[i]? = some x := by rfl) (hx : Loc X.env.scope x := by first | exact Or.inl rfl | exact Or.inr rfl) (hs : swapsWith e (some (.Name x pos')) pos.line X.env = pure false := by rfl)
    (hf : X.fn x = true ∨ X.env.scope.names.lookup x = some .local := by first | exact .inl rfl | exact .inr rfl) : PS X (.Assign [.Name x pos'] e pos) (liftS X.K Z m (dSet i wx)) := PS.of (ps_set hN hi hx he hs hf) fun D σ H ⟨g, F, env, P, k, w, q⟩ =>
  ⟨g, F, env, _, k, w, fun r env1 v F1 H1 p e1 k1 r1 => q.nx _ _ F1 H1 (bIf_and p).2 e1 (k1.setR (bIf_and p).1 (res_own r1) own_ne)⟩
/-- return e -/
def dRet (m : Nat) (wx : DX) (E : DEnds) (env : List SD) : Prop := wx env fun r env1 => E.rt (asOwn r) (env1.take m)
theorem sret (he : PE X e (liftX X.K Z wx)) : PS X (.Return (some e) pos) (liftS X.K Z m (dRet m wx)) := PS.of (ps_ret he) fun D σ H ⟨g, F, env, P, k, w, q⟩ =>
  ⟨g, F, env, _, k, w, fun r env1 v F1 H1 p e1 k1 r1 => q.rt _ env1 v σ F1 H1 p e1 k1 (res_own r1)⟩
/-- an expression for what it does -/
def dDrop (wx : DX) (E : DEnds) (env : List SD) : Prop := wx env fun _ env1 => E.nx env1
theorem sexpr (he : PE X e (liftX X.K Z wx)) (hs : swapsWith e none pos.line X.env = pure false := by rfl) : PS X (.Expr e pos) (liftS X.K Z m (dDrop wx)) := PS.of (ps_expr he hs) fun D σ H ⟨g, F, env, P, k, w, q⟩ =>
  ⟨g, F, env, _, k, w, fun r env1 v F1 H1 p e1 k1 _ => q.nx env1 σ F1 H1 p e1 k1⟩
def dIfS (t : DT) (w w2 : DS) (E : DEnds) (env : List SD) : Prop := t env fun b env1 => bIf b (w E env1) (w2 E env1)
theorem sif {c : Expr} {a b : List Stmt} {t : DT} (hc : PT X c (liftT X.K Z t)) (ha : PSs X a (liftS X.K Z m w)) (hb : PSs X b (liftS X.K Z m w2)) : PS X (.If c a b pos) (liftS X.K Z m (dIfS t w w2)) := PS.of (ps_if hc ha hb) fun D σ H ⟨g, F, env, P, k, w, q⟩ =>
  ⟨g, F, env, _, k, w, fun b env1 F1 H1 p e1 k1 => by
    cases b with
    | true => exact iteT ⟨g, F1, env1, P, k1, p, q.ex e1⟩
    | false => exact iteF ⟨g, F1, env1, P, k1, p, q.ex e1⟩⟩
theorem Ok.drop {K : PySem.W.Frag} {g : Gx Z} {F : Hp} {env : List SD} {σ : L2.St} {H : Hp} {i : Nat} {xs : List PyData} (k : Ok K g F env σ H) (he : env[i]? = some (.cel false xs)) : ∃ a, σ[i]? = some (some (.ref a)) ∧ Ok K g F (env.set i .un) σ H ∧ ResOk K g F (env.set i .un) σ H (.ref a) (.cel false xs) := by
  obtain ⟨a, vs, h1, h2, h3, h4, _, h6⟩ := k.cel i false xs he
  have np : NoPar env i := fun ys z => by rw [he] at z; cases z
  have k2 := k.setU (o := some (.ref a)) np
  have e : σ.set i (some (.ref a)) = σ := List.ext_getElem? fun j => by
    rw [List.getElem?_set]
    split
    · rename_i z
      subst z
      split
      · exact h1.symm
      · rename_i z
        exact absurd (List.getElem?_eq_some_iff.mp h1).1 z
    · rfl
  rw [e] at k2
  refine ⟨a, h1, k2, a, vs, rfl, h2, h3, h4, h6 rfl, ?_, fun j p ys hj z => ?_⟩
  · cases q : g.Pr a with
    | none => rfl
    | some u => exact absurd h1 ((k.prot a u q).2.2 i false xs he)
  · rcases get_set hj with ⟨_, q⟩ | ⟨n, q⟩
    · cases q
    · exact n (k.sep i j _ _ _ _ a he q h1 z)
/-- slots that are not to be known any more -/
def unS : List Nat → List SD → List SD
  | [], env => env
  | i :: is, env => match env[i]? with
    | some (.dat _) => unS is (env.set i .un)
    | some (.cel false _) => unS is (env.set i .un)
    | _ => unS is env
theorem Ok.unS {K : PySem.W.Frag} {g : Gx Z} {F : Hp} {σ : L2.St} {H : Hp} : ∀ {is : List Nat} {env : List SD}, Ok K g F env σ H → Ok K g F (unS is env) σ H
  | [], _, k => k
  | i :: is, env, k => by
    have go : NoPar env i → Ok K g F (env.set i .un) σ H := fun np => by
      by_cases hi : i < σ.length
      · have k2 := k.setU (o := σ[i]) np
        rw [List.set_getElem_self] at k2
        exact k2
      · have k2 := k.setU (o := none) np
        rw [show σ.set i none = σ from List.set_eq_of_length_le (Nat.le_of_not_lt hi)] at k2
        exact k2
    unfold DL.unS
    split
    · rename_i d e
      exact (go fun xs z => by rw [e] at z; cases z).unS
    · rename_i xs e
      exact (go fun ys z => by rw [e] at z; cases z).unS
    · exact k.unS
def dForget (is : List Nat) (w : DS) (E : DEnds) (env : List SD) : Prop := w E (unS is env)
theorem ssforget (is : List Nat) (h : PSs X sts (liftS X.K Z m w)) : PSs X sts (liftS X.K Z m (dForget is w)) := PSs.of h fun D σ H ⟨g, F, env, P, k, w, q⟩ => ⟨g, F, _, P, k.unS, w, q⟩
end
end DL

namespace DL
variable {Z : Zx}
open PySem PySem.Spec PyProof.Rows L2
open Evl (Ex)

section
variable {X : Cx} {st : Stmt} {sts : List Stmt} {w w2 : DS} {m : Nat} {a b e : Expr} {es : List Expr} {wa wb we : DE} {wx : DX} {pos : Pos} {was : DA}
abbrev DG := PyData → List SD → (List SD → Prop) → Prop
/-- what goes to a target; with b (a tuple as the target) the tuple's object needn't be known -/
def DRw (K : PySem.W.Frag) (b : Bool) (F : Hp) (v : V) (d : PyData) : Prop := DR K F v d ∨ (b = true ∧ ∃ T xs ds, v = .ref T ∧ d = .tuple ds ∧ SqT K F T xs ∧ DRs K F xs ds)
theorem DRw.tup {K : PySem.W.Frag} {b : Bool} {F : Hp} {v : V} {ds : List PyData} (h : DRw K b F v (.tuple ds)) : ∃ a xs, v = .ref a ∧ SqT K F a xs ∧ DRs K F xs ds := by
  rcases h with h | ⟨_, T, xs, es, h1, h2, h3, h4⟩
  · exact h.inv_tup
  · cases h2
    exact ⟨T, xs, h1, h3, h4⟩
theorem DRw.non {K : PySem.W.Frag} {F : Hp} {v : V} {d : PyData} (h : DRw K false F v d) : DR K F v d := by
  rcases h with h | ⟨h, _⟩
  · exact h
  · cases h
def liftG (K : PySem.W.Frag) (Z : Zx) (b : Bool) (w : DG) : TG := fun v σ H Q => ∃ (g : Gx Z) (F : Hp) (env : List SD) (d : PyData) (P : List SD → Prop), Ok K g F env σ H ∧ DRw K b F v d ∧ w d env P ∧
  ∀ env' σ' F' H', P env' → Ex F F' → Ok K g F' env' σ' H' → Q σ' H'
abbrev DGs := List PyData → List SD → (List SD → Prop) → Prop
def liftGs (K : PySem.W.Frag) (Z : Zx) (w : DGs) : TGs := fun vs σ H Q => ∃ (g : Gx Z) (F : Hp) (env : List SD) (ds : List PyData) (P : List SD → Prop), Ok K g F env σ H ∧ DRs K F vs ds ∧ w ds env P ∧
  ∀ env' σ' F' H', P env' → Ex F F' → Ok K g F' env' σ' H' → Q σ' H'
theorem PG.of {t t' : TG} (h : PG X e t) (w : ∀ v σ H Q, t' v σ H Q → t v σ H Q) : PG X e t' := ⟨fun pins s σ H v u Q I r q => h.run pins s σ H v u Q I r (w v σ H Q q)⟩
theorem PGs.of {t t' : TGs} (h : PGs X es t) (w : ∀ v σ H Q, t' v σ H Q → t v σ H Q) : PGs X es t' := ⟨fun pins s σ H v u Q I r q => h.run pins s σ H v u Q I r (w v σ H Q q)⟩
def dgN (i : Nat) (d : PyData) (env : List SD) (P : List SD → Prop) : Prop := bIf (noPar env i) (P (env.set i (.dat d))) False
theorem gn (i : Nat) {x : Str} (hN : X.N.Nodup) (hi : X.N[i]? = some x := by rfl) (hx : Loc X.env.scope x := by first | exact Or.inl rfl | exact Or.inr rfl)
    (hf : X.fn x = true ∨ X.env.scope.names.lookup x = some .local := by first | exact .inl rfl | exact .inr rfl) : PG X (.Name x pos) (liftG X.K Z false (dgN i)) := PG.of (pg_name hN hi hx hf) fun v σ H Q ⟨g, F, env, d, P, k, r, w, q⟩ =>
  q _ _ F H (bIf_and w).2 (Ex.refl F) (k.setD (noPar_of (bIf_and w).1) r.non)
def nilQ (ds : List PyData) (p : Prop) : Prop := match ds with
  | [] => p
  | _ :: _ => False
def consQ (ds : List PyData) (K : PyData → List PyData → Prop) : Prop := match ds with
  | d :: r => K d r
  | [] => False
def tupQ (d : PyData) (K : List PyData → Prop) : Prop := match d with
  | .tuple ds => K ds
  | _ => False
theorem nilQ_inv {ds : List PyData} {p : Prop} (h : nilQ ds p) : ds = [] ∧ p := by
  cases ds
  · exact ⟨rfl, h⟩
  · exact h.elim
theorem consQ_inv {ds : List PyData} {K : PyData → List PyData → Prop} (h : consQ ds K) : ∃ d r, ds = d :: r ∧ K d r := by
  cases ds
  · exact h.elim
  · exact ⟨_, _, rfl, h⟩
theorem tupQ_inv {d : PyData} {K : List PyData → Prop} (h : tupQ d K) : ∃ ds, d = .tuple ds ∧ K ds := by
  cases d <;> first | exact ⟨_, rfl, h⟩ | exact h.elim
def dgNil (ds : List PyData) (env : List SD) (P : List SD → Prop) : Prop := nilQ ds (P env)
def dgCons (t : DG) (u : DGs) (ds : List PyData) (env : List SD) (P : List SD → Prop) : Prop := consQ ds fun d r => t d env fun env1 => u r env1 P
theorem gnil : PGs X [] (liftGs X.K Z dgNil) := PGs.of pgs_nil fun v σ H Q ⟨g, F, env, ds, P, k, r, w, q⟩ => by
  obtain ⟨rfl, w⟩ := nilQ_inv w
  cases r
  exact ⟨rfl, q env σ F H w (Ex.refl F) k⟩
theorem gcons {t : DG} {u : DGs} {bb : Bool} (h1 : PG X e (liftG X.K Z bb t)) (h2 : PGs X es (liftGs X.K Z u)) (hs : (assignEach (e :: es) X.env).map (·.2) = assign e X.env :: (assignEach es X.env).map (·.2) := by rfl) : PGs X (e :: es) (liftGs X.K Z (dgCons t u)) :=
  PGs.of (pgs_cons h1 h2 hs) fun v σ H Q ⟨g, F, env, ds, P, k, r, w, q⟩ => by
    obtain ⟨d, r0, rfl, w⟩ := consQ_inv w
    cases r with
    | cons r1 r2 =>
        exact ⟨_, _, rfl, g, F, env, _, _, k, .inl r1, w, fun env1 σ1 F1 H1 p e1 k1 => ⟨g, F1, env1, _, P, k1, r2.mono e1, p, fun env2 σ2 F2 H2 p2 e2 k2 => q env2 σ2 F2 H2 p2 (e1.trans e2) k2⟩⟩
def dgT (n : Nat) (t : DGs) (d : PyData) (env : List SD) (P : List SD → Prop) : Prop := tupQ d fun ds => t ds env P
/-- a target that takes a datum goes on -/
def GOk (t : DG) : Prop := ∀ d env P, t d env P → ∃ env1, P env1
def GLen (t : DGs) (n : Nat) : Prop := ∀ ds env P, t ds env P → ds.length = n ∧ ∃ env1, P env1
theorem gok_n {i : Nat} : GOk (dgN i) := fun d env P h => ⟨_, (bIf_and h).2⟩
theorem gl_nil : GLen dgNil 0 := fun ds env P h => by
  obtain ⟨rfl, h⟩ := nilQ_inv h
  exact ⟨rfl, env, h⟩
theorem gl_cons {t : DG} {u : DGs} {n : Nat} (h1 : GOk t) (h2 : GLen u n) : GLen (dgCons t u) (n + 1) := fun ds env P h => by
  obtain ⟨d, r, rfl, h⟩ := consQ_inv h
  obtain ⟨env1, h⟩ := h1 _ _ _ h
  obtain ⟨e, h⟩ := h2 _ _ _ h
  exact ⟨by simp [e], h⟩
theorem gtup {k n : Nat} {t : DGs} (hl : GLen t n) (hc : X.calm = true) (h : PGs X es (liftGs X.K Z t)) (hn : (assignEach es X.env).length = n := by rfl) (hst : (assignEach es X.env).findIdx? (·.1) = none := by rfl) : PG X (.Tuple es k pos) (liftG X.K Z true (dgT n t)) :=
  PG.of (pg_tup hc h hn hst) fun v σ H Q ⟨g, F, env, d, P, k, r, w, q⟩ => by
    obtain ⟨ds, rfl, w⟩ := tupQ_inv w
    obtain ⟨a, xs, rfl, h1, h2⟩ := r.tup
    exact ⟨a, xs, rfl, Evl.ex_t k.fh h1, h2.length.trans (hl _ _ _ w).1, g, F, env, _, P, k, h2, w, q⟩
/-- target = e, of a datum -/
def dAsg (t : DG) (we : DE) (E : DEnds) (env : List SD) : Prop := we env fun d env1 => t d env1 E.nx
theorem sasg {tg : Expr} {t : DG} {bb : Bool} (he : PE X e (liftE X.K Z we)) (hg : PG X tg (liftG X.K Z bb t)) (hs : swapsWithSole [tg] e pos.line X.env = pure false := by rfl) (hw : swappedStores [tg] e X.env = pure none := by rfl)
    (h1 : (assignEach [tg] X.env).map (·.2) = [assign tg X.env] := by rfl) : PS X (.Assign [tg] e pos) (liftS X.K Z m (dAsg t we)) := PS.of (ps_asg he hg hs hw h1) fun D σ H ⟨g, F, env, P, k, w, q⟩ =>
  ⟨g, F, env, _, k, w, fun d env1 v F1 H1 p e1 k1 r1 => ⟨g, F1, env1, d, _, k1, .inl r1, p, fun env2 σ2 F2 H2 p2 e2 k2 => q.nx env2 σ2 F2 H2 p2 (e1.trans e2) k2⟩⟩
/-- x, y = e, f -/
def dPar (i j : Nat) (was : DA) (E : DEnds) (env : List SD) : Prop := was env fun ds env1 => match ds with
  | [d, c] => bIf (noPar env1 i && noPar env1 j) (E.nx ((env1.set i (.dat d)).set j (.dat c))) False
  | _ => False
theorem noPar_set {env : List SD} {i j : Nat} {d : PyData} (h : noPar env j = true) : noPar (env.set i (.dat d)) j = true := by
  unfold noPar at h ⊢
  rw [List.getElem?_set]
  by_cases z : i = j
  · rw [if_pos z]
    by_cases y : i < env.length
    · rw [if_pos y]
      rfl
    · rw [if_neg y]
  · rw [if_neg z]
    exact h
theorem spar (i j : Nat) {x y : Str} {px py pt : Pos} {kt k2 pt2} (hc : X.calm = true) (hN : X.N.Nodup) (ha : PA X [a, b] (liftA X.K Z was)) (hi : X.N[i]? = some x := by rfl) (hj : X.N[j]? = some y := by rfl) (hij : i ≠ j := by decide)
    (hx : X.env.scope.names.lookup x = some .local := by rfl) (hy : X.env.scope.names.lookup y = some .local := by rfl)
    (hw : swappedStores [.Tuple [.Name x px, .Name y py] kt pt] (.Tuple [a, b] k2 pt2) X.env = pure (some [x, y]) := by rfl)
    (hs : swapsWithSole [.Tuple [.Name x px, .Name y py] kt pt] (.Tuple [a, b] k2 pt2) pos.line X.env = pure false := by rfl) :
    PS X (.Assign [.Tuple [.Name x px, .Name y py] kt pt] (.Tuple [a, b] k2 pt2) pos) (liftS X.K Z m (dPar i j was)) := PS.of (ps_par hc hN hi hj hij hx hy ha hw hs) fun D σ H ⟨g, F, env, P, k, w, q⟩ =>
  ⟨g, F, env, _, k, w, fun ds env1 vs F1 H1 p e1 k1 r1 => by
    split at p
    · obtain ⟨v, u, rfl, r2, r3⟩ := r1.inv2
      obtain ⟨np, p⟩ := bIf_and p
      rw [Bool.and_eq_true] at np
      exact ⟨v, u, rfl, q.nx _ _ F1 H1 p e1 ((k1.setD (noPar_of np.1) r2).setD (noPar_of (noPar_set np.2)) r3)⟩
    · exact p.elim⟩
/-- x[i] = e, x the name's own cell -/
def stQ (xs : List PyData) (y d : PyData) (K : List PyData → Prop) : Prop := match y with
  | .int n => (match ixN xs.length n with
    | some j => K (xs.set j d)
    | none => False)
  | _ => False
def dSetC (i : Nat) (wi we : DE) (E : DEnds) (env : List SD) : Prop := we env fun d env1 => match env1[i]? with
  | some (.cel _ _) => wi env1 fun y env2 => match env2[i]? with
    | some (.cel p xs) => stQ xs y d fun xs' => E.nx (env2.set i (.cel p xs'))
    | _ => False
  | _ => False
theorem ssetC (i : Nat) {x : Str} {p0 p1 : Pos} (he : PE X e (liftE X.K Z we)) (hi : PE X b (liftE X.K Z wb)) (hN : X.N[i]? = some x := by rfl) (hv : Vis X.env.scope x := by first | exact Or.inl rfl | exact Or.inr (Or.inl rfl) | exact Or.inr (Or.inr rfl)) (hd : (x == ("__debug__" : Str)) = false := by decide)
    (hcd : (x == ("__classdict__" : Str)) = false := by decide)
    (hs : swapsWithSole [.Subscript (.Name x p0) b p1] e pos.line X.env = pure false := by rfl) (hw : swappedStores [.Subscript (.Name x p0) b p1] e X.env = pure none := by rfl)
    (h1 : (assignEach [.Subscript (.Name x p0) b p1] X.env).map (·.2) = [assign (.Subscript (.Name x p0) b p1) X.env] := by rfl)
    (ha : ∀ v, assign (.Subscript (.Name x p0) b p1) X.env v = (do
      let ov ← holding [v] (eval (.Name x p0) X.env)
      let iv ← holding [v, ov] (eval b X.env)
      standAt p1
      holding [v, ov, iv] (setItem ov iv v)
      release [v, ov, iv] []) := by intro _; rfl) : PS X (.Assign [.Subscript (.Name x p0) b p1] e pos) (liftS X.K Z m (dSetC i wb we)) :=
  PS.of (ps_asg he (pg_sub (pe_var hN hv hd hcd) hi set_list ha) hs hw h1) fun D σ H ⟨g, F, env, P, k, w, q⟩ =>
  ⟨g, F, env, _, k, w, fun d env1 v F1 H1 p e1 k1 r1 => by
    split at p
    · rename_i p' xs' ex
      obtain ⟨a0, us0, b1, _⟩ := k1.cel i p' xs' ex
      refine ⟨_, b1, g, F1, env1, _, k1, p, fun d2 env2 v2 F2 H2 p2 e2 k2 r2 => ?_⟩
      split at p2
      · rename_i p3 xs ex2
        obtain ⟨n, rfl, p2⟩ : ∃ n, d2 = .int n ∧ stQ xs (.int n) d _ := by
          cases d2 <;> first | exact ⟨_, rfl, p2⟩ | exact p2.elim
        cases r2.inv_int
        unfold stQ at p2
        dsimp only at p2
        split at p2
        · rename_i j ej
          obtain ⟨a1, us1, c1, c2, c3, c4, _⟩ := k2.cel i p3 xs ex2
          rw [b1] at c1
          cases c1
          exact ⟨a0, us1, n, j, rfl, rfl, c3, by rw [c4.length]; exact ej, q.nx _ σ F2 _ p2 (e1.trans e2) (k2.write ex2 b1 (c4.set j (r1.mono e2)))⟩
        · exact p2.elim
      · exact p2.elim
    · exact p.elim⟩
/-- x.append(e) -/
def apQ (xs : List PyData) (d : PyData) (K : List PyData → Prop) : Prop := xs.length < 100000 ∧ K (xs ++ [d])
def dApp (i : Nat) (we : DE) (E : DEnds) (env : List SD) : Prop := match env[i]? with
  | some (.cel _ _) => we env fun d env1 => match env1[i]? with
    | some (.cel p xs) => apQ xs d fun xs' => E.nx (env1.set i (.cel p xs'))
    | _ => False
  | _ => False
theorem sapp (i : Nat) {x : Str} {p0 apos cpos : Pos} (he : PE X e (liftE X.K Z we)) (hN : X.N[i]? = some x := by rfl) (hv : Vis X.env.scope x := by first | exact Or.inl rfl | exact Or.inr (Or.inl rfl) | exact Or.inr (Or.inr rfl)) (hd : (x == ("__debug__" : Str)) = false := by decide)
    (hcd : (x == ("__classdict__" : Str)) = false := by decide)
    (h1 : attributeBase (.Name x p0) "append" X.env (eval (.Name x p0) X.env) = eval (.Name x p0) X.env := by rfl)
    (h2 : ((backTo cpos (starEach [e] X.env)).all (!·.1) && (backToKw cpos (keywordEach [] X.env)).all (·.1.isSome) && decide ([e].length + ([] : List Keyword).length + (if ([] : List Keyword).isEmpty then 0 else 1) < 30)) = true := by rfl)
    (h3 : (apos.endLine == cpos.line) = true := by rfl)
    (h4 : starEach [e] X.env = (false, eval e X.env) :: starEach [] X.env := by rfl) (h5 : (backTo cpos (starEach [] X.env)).any (·.1) = false := by rfl)
    (hs : swapsWith (.Call (.Attribute (.Name x p0) "append" apos) [e] [] cpos) none pos.line X.env = pure false := by rfl) :
    PS X (.Expr (.Call (.Attribute (.Name x p0) "append" apos) [e] [] cpos) pos) (liftS X.K Z m (dApp i we)) :=
  PS.of (ps_expr (pe_bm PySem.F.plainAttrs_list PySem.F.slot_list_append PySem.F.type_list_append mt_append (pe_var hN hv hd hcd) (pa_cons he pa_nil h4) h1 h2 h3 h4 h5) hs) fun D σ H ⟨g, F, env, P, k, w, q⟩ => by
    unfold dApp at w
    split at w
    · rename_i p' xs' ex
      obtain ⟨a0, us0, b1, _, b3, _⟩ := k.cel i p' xs' ex
      refine ⟨_, b1, .inl ⟨rfl, us0, SqL.of b3⟩, g, F, env, _, k, w, fun d env1 v F1 H1 p e1 k1 r1 => ?_⟩
      split at p
      · rename_i p3 xs ex2
        obtain ⟨a1, us1, c1, c2, c3, c4, _⟩ := k1.cel i p3 xs ex2
        rw [b1] at c1
        cases c1
        exact ⟨a0, us1, v, rfl, rfl, c3, by rw [c4.length]; exact Evl.sz_lt p.1, q.nx _ σ F1 _ p.2 e1 (k1.write ex2 b1 (c4.append (.one r1)))⟩
      · exact p.elim
    · exact w.elim
abbrev RT := SD → List SD → Prop
def decP {I S : Type} (is : List Nat) (dec : List SD → Option (I × S)) (N : I → S → Prop) (env : List SD) : Prop := match dec (unS is env) with
  | some (i, s) => N i s
  | none => False
theorem decP_inv {I S : Type} {is : List Nat} {dec : List SD → Option (I × S)} {N : I → S → Prop} {env : List SD} (h : decP is dec N env) : ∃ i s, dec (unS is env) = some (i, s) ∧ N i s := by
  unfold decP at h
  split at h
  · exact ⟨_, _, ‹_›, h⟩
  · exact h.elim
/-- the state behind: what a loop doesn't change stays -/
def same {I S : Type} (i : I) (N : S → Prop) (i' : I) (s : S) : Prop := i' = i ∧ N s
def qWhileN {I S : Type} (b : I → S → (I → S → Prop) → (I → S → Prop) → Prop) (i : I) : Nat → S → (S → Prop) → Prop
  | 0, _, _ => False
  | n + 1, s, K => b i s (same i fun s => qWhileN b i n s K) (same i K)
def qWhile {I S : Type} (b : I → S → (I → S → Prop) → (I → S → Prop) → Prop) (i : I) (s : S) (K : S → Prop) : Prop := ∃ n, qWhileN b i n s K
def dWhileQ {κ I S : Type} (is : List Nat) (dec : List SD → Option (I × S)) (emb : I → S → List SD) (kk : RT → κ) (qb : κ → I → S → (I → S → Prop) → (I → S → Prop) → Prop) (E : DEnds) (env : List SD) : Prop :=
  decP is dec (fun i s => qWhile (qb (kk E.rt)) i s fun s => E.nx (emb i s)) env
theorem swhileQ {κ I S : Type} (is : List Nat) (dec : List SD → Option (I × S)) (emb : I → S → List SD) (kk : RT → κ) (qb : κ → I → S → (I → S → Prop) → (I → S → Prop) → Prop)
    (hde : ∀ env i s, dec env = some (i, s) → env = emb i s) {c : Expr} {body : List Stmt} {t : DT} (hp : PassesOwn (model X.prog X.w) X.A X.env X.xe) (hc : PT X c (liftT X.K Z t)) (hb : PSs X body (liftS X.K Z m w))
    (hq : ∀ (R : RT) (i : I) (s : S) (nx bk : I → S → Prop), qb (kk R) i s nx bk → t (emb i s) fun b env1 => bIf b (w { nx := decP is dec nx, ct := decP is dec nx, bk := decP is dec bk, rt := R } env1) (decP is dec bk env1)) :
    PS X (.While c body [] pos) (liftS X.K Z m (dWhileQ is dec emb kk qb)) :=
  PS.of (ps_while hp hc hb) fun D σ H ⟨g, F, env, P, k, w0, q⟩ => by
    obtain ⟨i0, s0, d0, n, w0⟩ := decP_inv w0
    have fin : ∀ {env' : List SD} {σ' : L2.St} {F' H' : Hp}, decP is dec (same i0 fun s => P.nx (emb i0 s)) env' → Ex F F' → Ok X.K g F' env' σ' H' → D.nx σ' H' := fun {env' σ' F' H'} p e k => by
      obtain ⟨i, s, d, rfl, p⟩ := decP_inv p
      have k2 := k.unS (is := is)
      rw [hde _ _ _ d] at k2
      exact q.nx _ _ _ _ p e k2
    refine ⟨fun m σ' H' => ∃ env' F', Ex F F' ∧ Ok X.K g F' env' σ' H' ∧ decP is dec (same i0 fun s => qWhileN (qb (kk P.rt)) i0 m s fun s => P.nx (emb i0 s)) env', ⟨n, env, F, Ex.refl F, k, by unfold decP; rw [d0]; exact ⟨rfl, w0⟩⟩, fun m σ' H' ⟨env', F', e1, k1, w1⟩ => ?_⟩
    obtain ⟨i, s, d, rfl, w1⟩ := decP_inv w1
    have k2 := k1.unS (is := is)
    rw [hde _ _ _ d] at k2
    cases m with
    | zero => exact w1.elim
    | succ m =>
      refine ⟨g, F', _, _, k2, hq P.rt i s _ _ w1, fun b env2 F2 H2 p2 e2 k2 => ?_⟩
      cases b with
      | false => exact iteF (fin p2 (e1.trans e2) k2)
      | true =>
        refine iteT ⟨fun σ3 H3 => ∃ env' F', Ex F F' ∧ Ok X.K g F' env' σ3 H3 ∧ decP is dec (same i fun s => qWhileN (qb (kk P.rt)) i m s fun s => P.nx (emb i s)) env', fun σ3 H3 h3 => ⟨m, Nat.lt_succ_self m, h3⟩, g, F2, env2, _, k2, p2, ?_⟩
        have e12 := e1.trans e2
        exact .mk4 (.mk (fun env3 σ3 F3 H3 p3 e3 k3 => ⟨env3, F3, e12.trans e3, k3, p3⟩) (fun env3 σ3 F3 H3 p3 e3 k3 => fin p3 (e12.trans e3) k3) (fun env3 σ3 F3 H3 p3 e3 k3 => ⟨env3, F3, e12.trans e3, k3, p3⟩) (fun r env3 v σ3 F3 H3 p3 e3 k3 r3 => q.rt r env3 v σ3 F3 H3 p3 (e12.trans e3) k3 r3)) rfl
abbrev DI := List SD → (List PyData → List SD → Prop) → Prop
def Yld (K : PySem.W.Frag) (b : Bool) (F H : Hp) (x : V) (H' : Hp) (d : PyData) : Prop := (H' = H ∧ DR K F x d) ∨ b = true ∧ ∃ T xs ds, x = .ref T ∧ H T = none ∧ H' = upd H T (.tup xs) ∧ d = .tuple ds ∧ DRs K F xs ds
structure WalkD (K : PySem.W.Frag) (b : Bool) (F : Hp) (J : It) (items : List PyData) : Prop where
  ex : ∃ G Y, Walk J items.length G Y ∧ (∀ H, Ex F H → G H) ∧ ∀ i H x H' d, Ex F H → items[i]? = some d → Y i H x H' → Yld K b F H x H' d
def liftI (K : PySem.W.Frag) (Z : Zx) (b : Bool) (w : DI) : TI := fun σ H R => ∃ (g : Gx Z) (F : Hp) (env : List SD) (P : List PyData → List SD → Prop), Ok K g F env σ H ∧ w env P ∧
  ∀ items env' J F' H', P items env' → Ex F F' → Ok K g F' env' σ H' → WalkD K b F' J items → R J H'
theorem PI.of {tg e : Expr} {t t' : TI} (h : PI X tg e t) (w : ∀ σ H R, t' σ H R → t σ H R) : PI X tg e t' := ⟨fun pins s σ H R I q => h.run pins s σ H R I (w σ H R q)⟩
theorem Ok.yld {K : PySem.W.Frag} {b : Bool} {g : Gx Z} {F F0 : Hp} {env : List SD} {σ : L2.St} {H H' : Hp} {x : V} {d : PyData} (k : Ok K g F env σ H) (e : Ex F0 F) (y : Yld K b F0 H x H' d) : ∃ F', Ex F F' ∧ Ok K g F' env σ H' ∧ DRw K b F' x d := by
  rcases y with ⟨rfl, r⟩ | ⟨hb, T, xs, ds, rfl, hT, rfl, rfl, r⟩
  · exact ⟨F, Ex.refl F, k, .inl (r.mono e)⟩
  · have ex : Ex F (upd F T (.tup xs)) := Ex.new (fnone k.fh hT)
    exact ⟨_, ex, k.alloc hT, .inr ⟨hb, T, xs, ds, rfl, rfl, SqT.of upd_same, (r.mono e).mono ex⟩⟩
/-- lo, lo + 1, .. -/
def rangeD (lo : Int) (n : Nat) : List PyData := (List.range n).map fun (i : Nat) => .int (lo + i)
theorem walkD_range {K : PySem.W.Frag} {b : Bool} {F : Hp} (lo : Int) (n : Nat) : WalkD K b F (Itr lo n) (rangeD lo n) := by
  refine ⟨fun _ => True, YFn fun i => .int (lo + i), by rw [show (rangeD lo n).length = n by simp [rangeD]]; exact walk_range, fun _ _ => trivial, fun i H x H' d _ e y => .inl ⟨y.1, ?_⟩⟩
  have y2 := y.2
  subst y2
  unfold rangeD at e
  rw [List.getElem?_map] at e
  by_cases hi : i < n
  · rw [List.getElem?_range hi] at e
    cases e
    exact .int _
  · rw [List.getElem?_eq_none (by simp; omega)] at e
    cases e
abbrev QI := List PyData → (List PyData → Prop) → Prop
/-- what is walked, by arguments -/
def dIt (f : QI) (was : DA) (env : List SD) (P : List PyData → List SD → Prop) : Prop := was env fun ds env' => f ds fun items => P items env'
/-- K of l, sealed: the kernel doesn't look at what is walked -/
inductive At (l : List PyData) (K : List PyData → Prop) : Prop
  | mk : K l → At l K
theorem At.out {l : List PyData} {K : List PyData → Prop} (h : At l K) : K l := by
  cases h with
  | mk h => exact h
theorem At.eq {l : List PyData} {K : List PyData → Prop} : At l K = K l := propext ⟨At.out, At.mk⟩
def rng1 (ds : List PyData) (K : List PyData → Prop) : Prop := match ds with
  | [.int n] => (-1000000 ≤ n ∧ n ≤ 1000000) ∧ At (rangeD 0 n.toNat) K
  | _ => False
def rng2 (ds : List PyData) (K : List PyData → Prop) : Prop := match ds with
  | [.int m, .int n] => (-1000000 ≤ m ∧ m ≤ 1000000 ∧ -1000000 ≤ n ∧ n ≤ 1000000) ∧ At (rangeD m (n - m).toNat) K
  | _ => False
theorem irange1 {tg : Expr} {bb : Bool} {p : Pos} (hm : X.mg "range" = none) (ha : PA X [a] (liftA X.K Z was)) (hg : Gl X "range" := by rfl) (hs : starEach [a] X.env = [(false, eval a X.env)] := by rfl) : PI X tg (.Call (.Name "range" p) [a] [] pos) (liftI X.K Z bb (dIt rng1 was)) :=
  PI.of (pi_range1 hg hm ha hs) fun σ H R ⟨g, F, env, P, k, w, q⟩ => ⟨g, F, env, _, k, w, fun ds env1 vs F1 H1 p e1 k1 r1 => by
    unfold rng1 at p
    split at p
    · obtain ⟨v, rfl, r2⟩ := r1.inv1
      cases r2.inv_int
      have p1 := p.1
      exact ⟨_, rfl, by omega, by omega, q _ env1 _ F1 H1 p.2.out e1 k1 (walkD_range 0 _)⟩
    · exact p.elim⟩
theorem walkD_list {K : PySem.W.Frag} {bb : Bool} {F : Hp} {a : Addr} {xs : List V} {ds : List PyData} (h : RdL K F a xs) (r : DRs K F xs ds) : WalkD K bb F (Itl K a) ds :=
  ⟨fun H => SqL K H a xs, YAt xs, by rw [← r.length]; exact walk_list (xs := xs), fun H e => (h.mono e).sq, fun i H x H' d _ e y => .inl ⟨y.1, by
    obtain ⟨v, h1, h2⟩ := r.get e
    have y2 := y.2
    rw [h1] at y2
    cases y2
    exact h2⟩⟩
theorem walkD_tup {K : PySem.W.Frag} {bb : Bool} {F : Hp} {a : Addr} {xs : List V} {ds : List PyData} (h : SqT K F a xs) (r : DRs K F xs ds) : WalkD K bb F (Itt K a) ds :=
  ⟨fun H => SqT K H a xs, YAt xs, by rw [← r.length]; exact walk_tup (xs := xs), fun H e => Evl.ex_t e h, fun i H x H' d _ e y => .inl ⟨y.1, by
    obtain ⟨v, h1, h2⟩ := r.get e
    have y2 := y.2
    rw [h1] at y2
    cases y2
    exact h2⟩⟩
/-- a text's signs -/
@[irreducible] def signsD (x : Str) : List PyData := x.cps.toList.map fun c => .str ⟨#[c]⟩
theorem walkD_str {K : PySem.W.Frag} {bb : Bool} {F : Hp} (x : Str) : WalkD K bb F (Its x) (signsD x) :=
  ⟨fun _ => True, fun i H v H' => H' = H ∧ ∃ c, x.cps[i]? = some c ∧ v = .str ⟨#[c]⟩, by rw [show (signsD x).length = x.cps.size by unfold signsD; simp]; exact walk_str, fun _ _ => trivial, fun i H v H' d _ e y => .inl ⟨y.1, by
    obtain ⟨c, h1, rfl⟩ := y.2
    unfold signsD at e
    rw [List.getElem?_map, Array.getElem?_toList, h1] at e
    cases e
    exact .str _⟩⟩
/-- over a list, a tuple or a text -/
def iSeq (K : PySem.W.Frag) (tl : TE) : TI := fun σ H R => tl σ H fun x H1 => (∃ a, x = .ref a ∧ ((∃ xs, SqL K H1 a xs ∧ R (Itl K a) H1) ∨ ∃ xs, SqT K H1 a xs ∧ R (Itt K a) H1)) ∨ ∃ z, x = .str z ∧ R (Its z) H1
theorem pi_seq {tg l : Expr} {tl : TE} (hl : PE X l tl) : PI X tg l (iSeq X.K tl) := by
  refine ⟨fun pins s σ H R I h => thn (hl.run pins s σ H _ I h) fun v s1 ⟨x, H1, I1, r1, q1⟩ => ?_⟩
  rcases q1 with ⟨a, ea, q1⟩ | ⟨z, ez, q⟩
  · subst ea
    cases r1
    have fo : ∀ b ∈ [s1.heap.objs.size], FpOk X pins H1 b := fun b hb => by
      rw [List.mem_singleton.mp hb]
      exact I1.fpOk (Nat.le_refl _) (I1.hok.fresh (Nat.le_refl _))
    rcases q1 with ⟨xs, hq, q⟩ | ⟨xs, hq, q⟩
    · obtain ⟨its, rv, pl, hz⟩ := I1.list hq
      exact wpAny_pyIter_list pl.isList ⟨s1.heap.objs.size, [s1.heap.objs.size], _, _, H1, rfl, I1.kept (t' := s1.toks) (fun b o e => Heap.get?_push_of_some _ e), turn_list a _, ⟨_, Heap.get?_push_size _ rfl, rfl, rfl⟩, fo, q⟩
    · obtain ⟨its, rv, pl, hz⟩ := I1.tuple hq
      exact wpAny_pyIter_tuple (show s1.heap.IsTuple a its.toArray from pl) ⟨s1.heap.objs.size, [s1.heap.objs.size], _, _, H1, rfl, I1.kept (t' := s1.toks) (fun b o e => Heap.get?_push_of_some _ e), turn_tuple a _, ⟨_, Heap.get?_push_size _ rfl, rfl, rfl⟩, fo, q⟩
  · subst ez
    obtain ⟨t, rfl⟩ := r1
    cases ha : z.cps.all (· < 128)
    · exact wpAny_pyIter_wide ha (pi_one (tk := s1.toks) I1 _ (turn_str _ z t "str_iterator" (.inr rfl)) ⟨_, Heap.get?_push_size _ rfl, rfl, rfl⟩ q)
    · exact wpAny_pyIter_ascii ha (pi_one (tk := s1.toks) I1 _ (turn_str _ z t "str_ascii_iterator" (.inl rfl)) ⟨_, Heap.get?_push_size _ rfl, rfl, rfl⟩ q)
def itemsQ (d : PyData) (K : List PyData → Prop) : Prop := match d with
  | .list ds => At ds K
  | .tuple ds => At ds K
  | .str x => At (signsD x) K
  | _ => False
def dItF (f : PyData → (List PyData → Prop) → Prop) (we : DE) (env : List SD) (P : List PyData → List SD → Prop) : Prop := we env fun d env' => f d fun ds => P ds env'
theorem iseq {tg : Expr} {bb : Bool} (he : PE X e (liftE X.K Z we)) : PI X tg e (liftI X.K Z bb (dItF itemsQ we)) := PI.of (pi_seq he) fun σ H R ⟨g, F, env, P, k, w, q⟩ => ⟨g, F, env, _, k, w, fun d env1 v F1 H1 p e1 k1 r1 => by
  unfold itemsQ at p
  split at p
  · obtain ⟨a, xs, rfl, h1, h2⟩ := r1.inv_lst
    exact .inl ⟨a, rfl, .inl ⟨xs, (h1.mono k1.fh).sq, q _ env1 _ F1 H1 p.out e1 k1 (walkD_list h1 h2)⟩⟩
  · obtain ⟨a, xs, rfl, h1, h2⟩ := r1.inv_tup
    exact .inl ⟨a, rfl, .inr ⟨xs, Evl.ex_t k1.fh h1, q _ env1 _ F1 H1 p.out e1 k1 (walkD_tup h1 h2)⟩⟩
  · cases r1.inv_str
    exact .inr ⟨_, rfl, q _ env1 _ F1 H1 p.out e1 k1 (walkD_str _)⟩
  · exact p.elim⟩
/-- zip of two lists, of two tuples -/
def zipD : List PyData → List PyData → List PyData
  | x :: xs, y :: ys => .tuple [x, y] :: zipD xs ys
  | _, _ => []
theorem zipD_length : ∀ xs ys : List PyData, (zipD xs ys).length = min xs.length ys.length
  | [], _ => by simp [zipD]
  | _ :: _, [] => by simp [zipD]
  | x :: xs, y :: ys => by simp [zipD, zipD_length xs ys]
theorem zipD_get : ∀ {xs ys : List PyData} {i : Nat} {d : PyData}, (zipD xs ys)[i]? = some d → ∃ x y, xs[i]? = some x ∧ ys[i]? = some y ∧ d = .tuple [x, y]
  | [], _, _, _, h => by simp [zipD] at h
  | _ :: _, [], _, _, h => by simp [zipD] at h
  | x :: xs, y :: ys, 0, d, h => by simp [zipD] at h; exact ⟨x, y, rfl, rfl, h.symm⟩
  | x :: xs, y :: ys, i + 1, d, h => by
    obtain ⟨u, v, h1, h2, h3⟩ := zipD_get (xs := xs) (ys := ys) (i := i) (d := d) (by simpa [zipD] using h)
    exact ⟨u, v, by simpa using h1, by simpa using h2, h3⟩
theorem walk_zipT {K : PySem.W.Frag} {a b : Addr} {xs ys : List V} : Walk (RZ.ItzT K a b) (min xs.length ys.length) (fun H => SqT K H a xs ∧ SqT K H b ys) (YPair (fun i => xs[i]?) (fun i => ys[i]?)) :=
  ⟨fun i H hi q => ⟨xs, ys, xs[i]'(by omega), ys[i]'(by omega), q.1, q.2, by simp [show i < xs.length by omega], by simp [show i < ys.length by omega]⟩,
   fun H q => ⟨xs, ys, q.1, q.2, by omega⟩,
   fun i H x H' hi q y => by
    obtain ⟨T, u, v, h1, h2, h3, h4, h5⟩ := y
    exact ⟨T, u, v, h1, h2, h3, h4 xs q.1, h5 ys q.2⟩⟩
def zipQ (ds : List PyData) (K : List PyData → Prop) : Prop := match ds with
  | [.list xs, .list ys] => At (zipD xs ys) K
  | [.tuple xs, .tuple ys] => At (zipD xs ys) K
  | _ => False
theorem yld_pair {K : PySem.W.Frag} {F H H' : Hp} {us ws : List V} {xs ys : List PyData} {x : V} {i : Nat} {d : PyData} (r : DRs K F us xs) (r2 : DRs K F ws ys) (e : (zipD xs ys)[i]? = some d) (y : YPair (fun i => us[i]?) (fun i => ws[i]?) i H x H') : Yld K true F H x H' d := by
  obtain ⟨T, u, v, h1, h2, h3, h4, h5⟩ := y
  obtain ⟨dx, dy, e1, e2, rfl⟩ := zipD_get e
  obtain ⟨u', z1, z2⟩ := r.get e1
  obtain ⟨v', y1, y2⟩ := r2.get e2
  dsimp only at h4 h5
  rw [z1] at h4
  rw [y1] at h5
  cases h4
  cases h5
  exact .inr ⟨rfl, T, _, _, h1, h2, h3, rfl, .cons z2 (.one y2)⟩
theorem walkD_zipL {K : PySem.W.Frag} {F : Hp} {a b : Addr} {us ws : List V} {xs ys : List PyData} (h1 : RdL K F a us) (h3 : RdL K F b ws) (h2 : DRs K F us xs) (h4 : DRs K F ws ys) : WalkD K true F (Itz K a b) (zipD xs ys) :=
  ⟨fun H => SqL K H a us ∧ SqL K H b ws, YPair (fun i => us[i]?) (fun i => ws[i]?), walk_zip (by rw [zipD_length, h2.length, h4.length]), fun H e => ⟨(h1.mono e).sq, (h3.mono e).sq⟩, fun i H x H' d _ e y => yld_pair h2 h4 e y⟩
theorem walkD_zipT {K : PySem.W.Frag} {F : Hp} {a b : Addr} {us ws : List V} {xs ys : List PyData} (h1 : SqT K F a us) (h3 : SqT K F b ws) (h2 : DRs K F us xs) (h4 : DRs K F ws ys) : WalkD K true F (RZ.ItzT K a b) (zipD xs ys) :=
  ⟨fun H => SqT K H a us ∧ SqT K H b ws, YPair (fun i => us[i]?) (fun i => ws[i]?), by rw [zipD_length, ← h2.length, ← h4.length]; exact walk_zipT, fun H e => ⟨Evl.ex_t e h1, Evl.ex_t e h3⟩, fun i H x H' d _ e y => yld_pair h2 h4 e y⟩
theorem izip {elts : List Expr} {kk : Nat} {tpos p : Pos} (hm : X.mg "zip" = none) (ha : PA X [a, b] (liftA X.K Z was)) (hg : Gl X "zip" := by rfl) (hs : starEach [a, b] X.env = (false, eval a X.env) :: starEach [b] X.env := by rfl)
    (hpl : (backTo pos (starEach [b] X.env)).any (·.1) = false := by rfl) : PI X (.Tuple elts kk tpos) (.Call (.Name "zip" p) [a, b] [] pos) (liftI X.K Z true (dIt zipQ was)) :=
  PI.of (RZ.pi_zipA hg hm ha hs hpl) fun σ H R ⟨g, F, env, P, k, w, q⟩ => ⟨g, F, env, _, k, w, fun ds env1 vs F1 H1 p e1 k1 r1 => by
    unfold zipQ at p
    split at p
    · obtain ⟨v, u, rfl, r2, r3⟩ := r1.inv2
      obtain ⟨a, us, rfl, h1, h2⟩ := r2.inv_lst
      obtain ⟨b, ws, rfl, h3, h4⟩ := r3.inv_lst
      exact ⟨a, b, us, ws, rfl, .inl ⟨(h1.mono k1.fh).sq, (h3.mono k1.fh).sq, q _ env1 _ F1 H1 p.out e1 k1 (walkD_zipL h1 h3 h2 h4)⟩⟩
    · obtain ⟨v, u, rfl, r2, r3⟩ := r1.inv2
      obtain ⟨a, us, rfl, h1, h2⟩ := r2.inv_tup
      obtain ⟨b, ws, rfl, h3, h4⟩ := r3.inv_tup
      exact ⟨a, b, us, ws, rfl, .inr ⟨Evl.ex_t k1.fh h1, Evl.ex_t k1.fh h3, q _ env1 _ F1 H1 p.out e1 k1 (walkD_zipT h1 h3 h2 h4)⟩⟩
    · exact p.elim⟩
def qFor {I S : Type} (b : PyData → I → S → (I → S → Prop) → (I → S → Prop) → Prop) (i : I) : List PyData → S → (S → Prop) → Prop
  | [], s, K => K s
  | d :: r, s, K => b d i s (same i fun s => qFor b i r s K) (same i K)
def dForQ {κ I S : Type} (is : List Nat) (dec : List SD → Option (I × S)) (emb : I → S → List SD) (kk : RT → κ) (qb : κ → PyData → I → S → (I → S → Prop) → (I → S → Prop) → Prop) (wi : DI) (E : DEnds) (env : List SD) : Prop :=
  wi env fun items env1 => decP is dec (fun i s => qFor (qb (kk E.rt)) i items s fun s => E.nx (emb i s)) env1
theorem sforQ {κ I S : Type} (is : List Nat) (dec : List SD → Option (I × S)) (emb : I → S → List SD) (kk : RT → κ) (qb : κ → PyData → I → S → (I → S → Prop) → (I → S → Prop) → Prop)
    (hde : ∀ env i s, dec env = some (i, s) → env = emb i s) {tg iter : Expr} {body : List Stmt} {wi : DI} {t : DG} {bb : Bool} (hp : PassesOwn (model X.prog X.w) X.A X.env X.xe) (hc : X.calm = true) (hi : PI X tg iter (liftI X.K Z bb wi)) (hg : PG X tg (liftG X.K Z bb t)) (hb : PSs X body (liftS X.K Z m w))
    (hq : ∀ (R : RT) (d : PyData) (i : I) (s : S) (nx bk : I → S → Prop), qb (kk R) d i s nx bk → t d (emb i s) fun env1 => w { nx := decP is dec nx, ct := decP is dec nx, bk := decP is dec bk, rt := R } env1)
    (hs : ∀ x, foldedSetIterable iter X.env x = pure x := by intro _; rfl) : PS X (.For tg iter body [] pos) (liftS X.K Z m (dForQ is dec emb kk qb wi)) :=
  PS.of (ps_for hp hc hi hg hb hs) fun D σ H ⟨g, F, env, P, k, w0, q⟩ => ⟨g, F, env, _, k, w0, fun items env1 J F1 H1 p e1 k1 ⟨G, Y, wk, hG, hY⟩ => by
    have q := q.ex e1
    obtain ⟨i0, s0, d0, p⟩ := decP_inv p
    have fin : ∀ {env' : List SD} {σ' : L2.St} {F' H' : Hp}, decP is dec (same i0 fun s => P.nx (emb i0 s)) env' → Ex F1 F' → Ok X.K g F' env' σ' H' → D.nx σ' H' := fun {env' σ' F' H'} p e k => by
      obtain ⟨i, s, d, rfl, p⟩ := decP_inv p
      have k2 := k.unS (is := is)
      rw [hde _ _ _ d] at k2
      exact q.nx _ _ _ _ p e k2
    refine for_it wk (fun j σ' H' => ∃ env' F', Ex F1 F' ∧ Ok X.K g F' env' σ' H' ∧ decP is dec (same i0 fun s => qFor (qb (kk P.rt)) i0 (items.drop j) s fun s => P.nx (emb i0 s)) env') ⟨env1, F1, Ex.refl F1, k1, by unfold decP; rw [d0]; exact ⟨rfl, p⟩⟩ (fun i σ' H' _ ⟨env', F', e2, k2, _⟩ => hG H' (e2.trans k2.fh)) (fun j x σ' H' H2 hj ⟨env', F', e2, k2, w2⟩ y => ?_) fun σ' H' ⟨env', F', e2, k2, w2⟩ => ?_
    · obtain ⟨i, s, de, rfl, w3⟩ := decP_inv w2
      have k2 := k2.unS (is := is)
      rw [hde _ _ _ de] at k2
      have hd : items.drop j = items[j] :: items.drop (j + 1) := List.drop_eq_getElem_cons hj
      rw [hd] at w3
      obtain ⟨F3, e3, k3, r3⟩ := k2.yld e2 (hY j H' x H2 items[j] (e2.trans k2.fh) (by simp [hj]) y)
      have e13 := e2.trans e3
      refine ⟨g, F3, _, _, _, k3, r3, hq P.rt _ i s _ _ w3, fun env4 σ4 F4 H4 p4 e4 k4 => ⟨g, F4, env4, _, k4, p4, ?_⟩⟩
      have e14 := e13.trans e4
      exact .mk4 (.mk (fun env5 σ5 F5 H5 p5 e5 k5 => ⟨env5, F5, e14.trans e5, k5, p5⟩) (fun env5 σ5 F5 H5 p5 e5 k5 => fin p5 (e14.trans e5) k5) (fun env5 σ5 F5 H5 p5 e5 k5 => ⟨env5, F5, e14.trans e5, k5, p5⟩) (fun r env5 v σ5 F5 H5 p5 e5 k5 r5 => q.rt r env5 v σ5 F5 H5 p5 (e14.trans e5) k5 r5)) rfl
    · rw [List.drop_length] at w2
      exact fin w2 e2 k2⟩
end
end DL

namespace DL
variable {Z : Zx}
open PySem PySem.Spec PyProof.Rows L2
open Evl (Ex)

def wipeD (env : List SD) : List Nat → List SD
  | [] => env
  | v :: vs => (wipeD env vs).set v .un
def setAll (σ : L2.St) : List Nat → List V → L2.St
  | i :: is, v :: vs => setAll (σ.set i (some v)) is vs
  | _, _ => σ
def setAllD (env : List SD) : List Nat → List PyData → List SD
  | i :: is, d :: ds => setAllD (env.set i (.dat d)) is ds
  | _, _ => env
theorem wipe_get (σ : L2.St) : ∀ (vs : List Nat) (j : Nat), (wipe σ vs)[j]? = if j ∈ vs then (σ[j]?).map (fun _ => none) else σ[j]?
  | [], j => by simp [wipe]
  | v :: vs, j => by
    unfold wipe
    rw [List.getElem?_set]
    by_cases h : v = j
    · subst h
      rw [if_pos rfl, if_pos List.mem_cons_self, wipe_length]
      by_cases hl : v < σ.length
      · rw [if_pos hl]
        simp [hl]
      · rw [if_neg hl]
        simp [Nat.le_of_not_lt hl]
    · rw [if_neg h, wipe_get σ vs j]
      by_cases hj : j ∈ vs
      · rw [if_pos hj, if_pos (List.mem_cons_of_mem _ hj)]
      · rw [if_neg hj, if_neg (fun z => (List.mem_cons.mp z).elim (fun z => h z.symm) hj)]
theorem wipe_set {σ : L2.St} {vs : List Nat} {i : Nat} {o : Option V} (h : i ∈ vs) : wipe (σ.set i o) vs = wipe σ vs := List.ext_getElem? fun j => by
  rw [wipe_get, wipe_get]
  by_cases hj : j ∈ vs
  · rw [if_pos hj, if_pos hj, List.getElem?_set]
    by_cases e : i = j
    · subst e
      rw [if_pos rfl]
      by_cases hl : i < σ.length
      · simp [hl]
      · rw [if_neg hl]
        simp [Nat.le_of_not_lt hl]
    · rw [if_neg e]
  · have ne : i ≠ j := fun e => by subst e; exact hj h
    rw [if_neg hj, if_neg hj, List.getElem?_set, if_neg ne]
theorem wipe_all {vs : List Nat} : ∀ {is : List Nat} {us : List V} {σ : L2.St}, (∀ i ∈ is, i ∈ vs) → wipe (setAll σ is us) vs = wipe σ vs
  | [], _, _, _ => by simp [setAll]
  | i :: is, [], _, _ => by simp [setAll]
  | i :: is, u :: us, σ, h => by
    unfold setAll
    rw [wipe_all (fun j hj => h j (List.mem_cons_of_mem _ hj)), wipe_set (h i List.mem_cons_self)]
theorem wipe_wipe {vs : List Nat} {σ : L2.St} : wipe (wipe σ vs) vs = wipe σ vs := List.ext_getElem? fun j => by
  rw [wipe_get, wipe_get]
  by_cases hj : j ∈ vs
  · rw [if_pos hj, if_pos hj]
    cases σ[j]? <;> rfl
  · rw [if_neg hj, if_neg hj]
section
variable {K : PySem.W.Frag} {g : Gx Z} {F F' : Hp} {env : List SD} {σ : L2.St} {H : Hp}
theorem noPar_un {env : List SD} {i j : Nat} {r : SD} (h : NoPar env j) (hr : ∀ xs, r ≠ .cel true xs) : NoPar (env.set i r) j := fun xs e => by
  rcases get_set e with ⟨_, q⟩ | ⟨_, q⟩
  · exact hr xs q.symm
  · exact h xs q
theorem noPar_wipe {env : List SD} {j : Nat} (h : NoPar env j) : ∀ vs : List Nat, NoPar (wipeD env vs) j
  | [] => h
  | v :: vs => noPar_un (noPar_wipe h vs) (fun _ z => by cases z)
theorem Ok.wiped (k : Ok K g F env σ H) : ∀ {vs : List Nat}, (∀ v ∈ vs, NoPar env v) → Ok K g F (wipeD env vs) (wipe σ vs) H
  | [], _ => k
  | v :: vs, h => (k.wiped (vs := vs) fun u hu => h u (List.mem_cons_of_mem _ hu)).setU (noPar_wipe (h v List.mem_cons_self) vs)
theorem Ok.setAll : ∀ {is : List Nat} {us : List V} {ds : List PyData} {env : List SD} {σ : L2.St}, Ok K g F env σ H → (∀ i ∈ is, NoPar env i) → DRs K F us ds → Ok K g F (setAllD env is ds) (DL.setAll σ is us) H
  | [], _, _, _, _, k, _, _ => by simpa [DL.setAll, setAllD] using k
  | i :: is, _, _, _, _, k, h, .nil => by simpa [DL.setAll, setAllD] using k
  | i :: is, _, _, _, _, k, h, .cons a b => by
    unfold DL.setAll setAllD
    exact Ok.setAll (k.setD (h i List.mem_cons_self) a) (fun j hj => noPar_un (h j (List.mem_cons_of_mem _ hj)) (fun _ z => by cases z)) b
theorem Ok.unwiped {vs : List Nat} (k : Ok K g F env (wipe σ vs) H) : Ok K g F env σ H := by
  have up : ∀ {i : Nat} {v : V}, (wipe σ vs)[i]? = some (some v) → σ[i]? = some (some v) := fun {i v} e => by
    rw [wipe_get] at e
    by_cases hj : i ∈ vs
    · rw [if_pos hj] at e
      cases q : σ[i]? with
      | none => rw [q] at e; cases e
      | some o => rw [q] at e; cases e
    · rw [if_neg hj] at e
      exact e
  have dn : ∀ {j : Nat} {p : Bool} {ys : List PyData} {a : Addr}, env[j]? = some (.cel p ys) → σ[j]? = some (some (.ref a)) → (wipe σ vs)[j]? = some (some (.ref a)) := fun {j p ys a} e q => by
    obtain ⟨b, _, h1, _⟩ := k.cel j p ys e
    have := up h1
    rw [q] at this
    cases this
    exact h1
  refine ⟨k.len.trans (wipe_length σ vs), k.fh, fun i d e => ?_, fun i p xs e => ?_, fun i j p q xs ys a h1 h2 h3 h4 => k.sep i j p q xs ys a h1 h2 (dn h1 h3) (dn h2 h4), k.pin, k.frame, k.newF, k.oldF, fun a o e => ?_, fun i kvs e => ?_⟩
  · obtain ⟨v, h1, h2⟩ := k.dat i d e
    exact ⟨v, up h1, h2⟩
  · obtain ⟨a, us, h1, h2⟩ := k.cel i p xs e
    exact ⟨a, us, up h1, h2⟩
  · obtain ⟨z1, z2, z3⟩ := k.prot a o e
    exact ⟨z1, z2, fun j p ys e1 e2 => z3 j p ys e1 (dn e1 e2)⟩
  · obtain ⟨a, xs, h1, h2, h3, h4, h5, h6, h7⟩ := k.dic i kvs e
    refine ⟨a, xs, up h1, h2, h3, h4, h5, h6, fun j ys e2 z => h7 j ys e2 ?_⟩
    obtain ⟨b, _, y1, _⟩ := k.dic j ys e2
    have := up y1
    rw [z] at this
    cases this
    exact y1
theorem set_same {α : Type} {l : List α} {i : Nat} {x : α} (h : l[i]? = some x) : l.set i x = l := List.ext_getElem? fun j => by
  rw [List.getElem?_set]
  by_cases e : i = j
  · subst e
    rw [if_pos rfl, if_pos (List.getElem?_eq_some_iff.mp h).1, h]
  · rw [if_neg e]
/-- what stood at the slots vs is known again -/
def again (env1 : List SD) : List Nat → List SD → List SD
  | [], env2 => env2
  | v :: vs, env2 => match env1[v]? with
    | some (.dat d) => again env1 vs (env2.set v (.dat d))
    | _ => again env1 vs env2
theorem Ok.again {F1 H1 : Hp} {env1 : List SD} (k1 : Ok K g F1 env1 σ H1) (ex : Ex F1 F) : ∀ {vs : List Nat} {env2 : List SD}, Ok K g F env2 σ H → (∀ v ∈ vs, NoPar env2 v) → Ok K g F (DL.again env1 vs env2) σ H
  | [], _, k, _ => k
  | v :: vs, env2, k, h => by
    unfold DL.again
    split
    · rename_i d e
      obtain ⟨u, h1, h2⟩ := k1.dat v d e
      have k2 := k.setD (h v List.mem_cons_self) (h2.mono ex)
      rw [set_same h1] at k2
      exact Ok.again k1 ex k2 fun j hj => noPar_un (h j (List.mem_cons_of_mem _ hj)) (fun _ z => by cases z)
    · exact Ok.again k1 ex k fun j hj => h j (List.mem_cons_of_mem _ hj)
/-- the cell at D, no name's, protected -/
theorem Ok.hide (k : Ok K g F env σ H) {D : Addr} {vs : List V} (hF : F D = none) (hH : H D = some (.lst vs)) (nw : ∀ (j : Nat) (p : Bool) (ys : List PyData), env[j]? = some (.cel p ys) → σ[j]? ≠ some (some (.ref D))) (hp : g.Pr D = none) : Ok K (g.hid D vs hp) F env σ H :=
  ⟨k.len, k.fh, k.dat, k.cel, k.sep, k.pin, k.frame, k.newF, k.oldF, fun a o e => by
    by_cases z : a = D
    · subst z
      have e' : upd g.Pr a (.lst vs) a = some o := e
      rw [upd_same] at e'
      cases e'
      exact ⟨hH, hF, nw⟩
    · have e' : upd g.Pr D (.lst vs) a = some o := e
      rw [upd_ne z] at e'
      exact k.prot a o e',
    k.dic.keep (Ex.refl F) (fun a xs e n => by
      have ne : a ≠ D := fun z => by rw [z, hH] at e; cases e
      show upd g.Pr D (.lst vs) a = none
      rw [upd_ne ne]
      exact n) fun a xs _ n => ⟨n, rfl⟩⟩
theorem Ok.bare {D : Addr} {vs : List V} (hp : g.Pr D = none) (k : Ok K (g.hid D vs hp) F env σ H) :
    Ok K g F env σ H ∧ F D = none ∧ H D = some (.lst vs) ∧ ∀ (j : Nat) (p : Bool) (ys : List PyData), env[j]? = some (.cel p ys) → σ[j]? ≠ some (some (.ref D)) := by
  obtain ⟨z1, z2, z3⟩ := k.prot D (.lst vs) upd_same
  refine ⟨⟨k.len, k.fh, k.dat, k.cel, k.sep, k.pin, k.frame, k.newF, k.oldF, fun a o e => ?_, (k.dic.keep (Ex.refl F) (fun a xs e n => ?_) fun a xs _ n => ⟨n, rfl⟩)⟩, z2, z1, z3⟩
  · have ne : a ≠ D := fun z => by rw [z, hp] at e; cases e
    exact k.prot a o (show upd g.Pr D (.lst vs) a = some o by rw [upd_ne ne]; exact e)
  · have ne : a ≠ D := fun z => by rw [z, z1] at e; cases e
    have n : upd g.Pr D (.lst vs) a = none := n
    rw [upd_ne ne] at n
    exact n
/-- a cell of no name is written -/
theorem Ok.writeP (k : Ok K g F env σ H) {D : Addr} {o o0 : HO} (hD : H D = some o0) (hn : ∀ xs, o0 ≠ DicE Z.P Z.w D xs) (hF : F D = none) (h0 : g.H0 D = none) (hp : g.Pr D = none) (nw : ∀ (j : Nat) (p : Bool) (ys : List PyData), env[j]? = some (.cel p ys) → σ[j]? ≠ some (some (.ref D))) : Ok K g F env σ (upd H D o) := by
  refine ⟨k.len, fun a u e => ?_, k.dat, fun i p xs e => ?_, k.sep, k.pin, fun a u e n => ?_, k.newF, k.oldF, fun a u e => ?_, (k.dic.keep (Ex.refl F) (fun _ _ _ z => z) fun a xs e n => ⟨n, upd_ne fun z => ?_⟩)⟩
  · have ne : a ≠ D := fun z => by rw [z, hF] at e; cases e
    rw [upd_ne ne]
    exact k.fh a u e
  · obtain ⟨a, us, h1, h2, h3, h4⟩ := k.cel i p xs e
    have ne : a ≠ D := fun z => by subst z; exact nw i p xs e h1
    exact ⟨a, us, h1, h2, by rw [upd_ne ne]; exact h3, h4⟩
  · have ne : a ≠ D := fun z => by rw [z, h0] at e; cases e
    rw [upd_ne ne]
    exact k.frame a u e n
  · obtain ⟨z1, z2, z3⟩ := k.prot a u e
    have ne : a ≠ D := fun z => by rw [z, hp] at e; cases e
    exact ⟨by rw [upd_ne ne]; exact z1, z2, z3⟩
  · subst z
    rw [hD] at e
    exact hn xs (Option.some.inj e)
end

inductive CT where
  | one (i : Nat)
  | tup (is : List Nat)
def CT.slots : CT → List Nat
  | .one i => [i]
  | .tup is => is
def gNs : List Nat → TGs
  | [] => gNil
  | i :: is => gCons (gName i) (gNs is)
/-- the target's reading -/
def CT.g (K : PySem.W.Frag) : CT → TG
  | .one i => gName i
  | .tup is => gTup K is.length (gNs is)
def setK : List Nat → List PyData → List SD → (List SD → Prop) → Prop
  | [], ds, env, P => nilQ ds (P env)
  | i :: is, ds, env, P => consQ ds fun d r => setK is r (env.set i (.dat d)) P
theorem setK_inv : ∀ {is : List Nat} {ds : List PyData} {env : List SD} {P : List SD → Prop}, setK is ds env P → ds.length = is.length ∧ P (setAllD env is ds)
  | [], ds, env, P, h => by
    obtain ⟨rfl, h⟩ := nilQ_inv h
    exact ⟨rfl, h⟩
  | i :: is, ds, env, P, h => by
    obtain ⟨d, r, rfl, h⟩ := consQ_inv h
    obtain ⟨e, h⟩ := setK_inv (is := is) h
    exact ⟨by simp [e], h⟩
def CT.d : CT → DG
  | .one i => fun x env P => P (env.set i (.dat x))
  | .tup is => fun x env P => tupQ x fun ds => setK is ds env P
theorem gNs_ok : ∀ {is : List Nat} {vs : List V} {σ : L2.St} {H : Hp} {Q : L2.St → Hp → Prop}, vs.length = is.length → Q (setAll σ is vs) H → gNs is vs σ H Q
  | [], [], σ, H, Q, _, h => ⟨rfl, by simpa [setAll] using h⟩
  | [], _ :: _, _, _, _, e, _ => by simp at e
  | _ :: _, [], _, _, _, e, _ => by simp at e
  | i :: is, v :: vs, σ, H, Q, e, h => ⟨v, vs, rfl, gNs_ok (by simpa using e) (by unfold setAll at h; exact h)⟩
/-- whether the target is a tuple of names -/
def CT.isT : CT → Bool
  | .one _ => false
  | .tup _ => true
theorem CT.ok {K : PySem.W.Frag} {g : Gx Z} {F H : Hp} {env : List SD} {σ : L2.St} {t : CT} {x : V} {d : PyData} {P : List SD → Prop} {Q : L2.St → Hp → Prop} (k : Ok K g F env σ H) (hn : ∀ i ∈ t.slots, NoPar env i) (r : DRw K t.isT F x d) (w : t.d d env P)
    (q : ∀ env' σ', P env' → Ok K g F env' σ' H → (∃ us, σ' = setAll σ t.slots us) → Q σ' H) : t.g K x σ H Q := by
  cases t with
  | one i => exact q _ _ w (k.setD (hn i (List.mem_singleton.mpr rfl)) r.non) ⟨[x], by simp [CT.slots, setAll]⟩
  | tup is =>
    obtain ⟨ds, rfl, w⟩ := tupQ_inv w
    have w := setK_inv w
    obtain ⟨a, xs, rfl, h1, h2⟩ := r.tup
    exact ⟨a, xs, rfl, Evl.ex_t k.fh h1, h2.length.trans w.1, gNs_ok (h2.length.trans w.1) (q _ _ w.2 (k.setAll hn h2) ⟨xs, rfl⟩)⟩
def decQ {I S : Type} (dec : List SD → Option (I × S)) (N : I → S → Prop) (env : List SD) : Prop := match dec env with
  | some (i, s) => N i s
  | none => False
theorem decQ_inv {I S : Type} {dec : List SD → Option (I × S)} {N : I → S → Prop} {env : List SD} (h : decQ dec N env) : ∃ i s, dec env = some (i, s) ∧ N i s := by
  unfold decQ at h
  split at h
  · exact ⟨_, _, ‹_›, h⟩
  · exact h.elim
def qLc {I S : Type} (b : PyData → I → S → (I → S → Prop) → (PyData → I → S → Prop) → Prop) (i : I) : List PyData → List PyData → S → (List PyData → S → Prop) → Prop
  | [], acc, s, K => K acc s
  | d :: r, acc, s, K => b d i s (same i fun s => qLc b i r acc s K) fun y => same i fun s => acc.length < 100000 ∧ qLc b i r (acc ++ [y]) s K
def dLcQ {I S : Type} (dec : List SD → Option (I × S)) (emb : I → S → List SD) (qb : PyData → I → S → (I → S → Prop) → (PyData → I → S → Prop) → Prop) (wi : DI) (t : CT) (env : List SD) (P : SD → List SD → Prop) : Prop :=
  wi env fun items env1 => bIf (t.slots.all (noPar env1)) (decQ dec (fun i s => qLc qb i items [] s fun acc s => bIf (t.slots.all (noPar (emb i s))) (P (.cel false acc) (again env1 t.slots (emb i s))) False) (wipeD env1 t.slots)) False
def LcHyp {I S : Type} (dec : List SD → Option (I × S)) (emb : I → S → List SD) (qb : PyData → I → S → (I → S → Prop) → (PyData → I → S → Prop) → Prop) (t : CT) (c : DT) (we : DE) : Prop :=
  ∀ (d : PyData) (i : I) (s : S) (sk : I → S → Prop) (yd : PyData → I → S → Prop), qb d i s sk yd → t.d d (emb i s) fun env1 => c env1 fun b env2 => bIf b
    (we env2 fun y env3 => bIf (t.slots.all (noPar env3)) (decQ dec (yd y) (wipeD env3 t.slots)) False)
    (bIf (t.slots.all (noPar env2)) (decQ dec sk (wipeD env2 t.slots)) False)
theorem noPar_all {env : List SD} {vs : List Nat} (h : vs.all (noPar env) = true) : ∀ v ∈ vs, NoPar env v := fun v hv => noPar_of (List.all_eq_true.mp h v hv)
theorem lift_lc {K : PySem.W.Frag} {I S : Type} {dec : List SD → Option (I × S)} {emb : I → S → List SD} {qb : PyData → I → S → (I → S → Prop) → (PyData → I → S → Prop) → Prop} (hde : ∀ env i s, dec env = some (i, s) → env = emb i s)
    {wi : DI} {t : CT} {c : DT} {we : DE} (hq : LcHyp dec emb qb t c we) {σ : L2.St} {H : Hp} {Q : VK} (h : liftX K Z (dLcQ dec emb qb wi t) σ H Q) : tLc (liftI K Z t.isT wi) (t.g K) (liftT K Z c) (liftE K Z we) t.slots σ H Q := by
  obtain ⟨g, F, env, P, k, w, q⟩ := h
  refine ⟨g, F, env, _, k, w, fun items env1 J F1 H1 p e1 k1 ⟨G, Y, wk, hG, hY⟩ D hD => ?_⟩
  obtain ⟨np, p⟩ := bIf_and p
  obtain ⟨i0, s0, d0, p⟩ := decQ_inv p
  have kw := k1.wiped (noPar_all np)
  obtain ⟨kn, rn⟩ := kw.newCell hD (vs := []) (xs := []) .nil
  refine lc_it wk (fun j H' => ∃ env' F' acc, Ex F1 F' ∧ Ok K g F' env' (wipe σ t.slots) H' ∧ ResOk K g F' env' (wipe σ t.slots) H' (.ref D) (.cel false acc) ∧ (∀ v ∈ t.slots, NoPar env' v) ∧
      decQ dec (same i0 fun s => qLc qb i0 (items.drop j) acc s fun acc s => bIf (t.slots.all (noPar (emb i0 s))) (P (.cel false acc) (again env1 t.slots (emb i0 s))) False) env')
    ⟨_, F1, [], Ex.refl F1, kn, rn, fun v hv => noPar_wipe (noPar_all np v hv) _, by unfold decQ; rw [d0]; exact ⟨rfl, p⟩⟩ (fun i H' _ ⟨env', F', acc, e2, k2, _⟩ => hG H' (e2.trans k2.fh)) (fun j x H' H2 hi ⟨env', F', acc, e2, k2, r2, n2, w2⟩ y => ?_) fun H' ⟨env', F', acc, e2, k2, r2, n2, w2⟩ => ?_
  · obtain ⟨i, s, de, rfl, w3⟩ := decQ_inv w2
    obtain rfl := hde _ _ _ de
    rw [List.drop_eq_getElem_cons hi] at w3
    have w2 := hq _ _ _ _ _ w3
    obtain ⟨D', vsA, eD, hF, hHD, rA, h0, hpr, nw⟩ := r2
    cases eD
    have kh := k2.hide hF hHD nw hpr
    obtain ⟨F3, e3, k3, r3⟩ := kh.yld e2 (hY j H' x H2 items[j] (e2.trans k2.fh) (by simp [hi]) y)
    refine CT.ok k3 n2 r3 w2 fun env4 σ4 p4 k4 ⟨us, hσ⟩ => ?_
    have hw : wipe σ4 t.slots = wipe σ t.slots := by rw [hσ, wipe_all (fun i hi => hi), wipe_wipe]
    refine ⟨hw, _, F3, env4, _, k4, p4, fun b env5 F5 H5 p5 e5 k5 => ?_⟩
    cases b with
    | false =>
      refine iteF ?_
      have p5 := bIf_and p5
      obtain ⟨k6, z1, z2, z3⟩ := Ok.bare hpr k5
      have k7 := k6.wiped (noPar_all p5.1)
      rw [hw] at k7
      refine ⟨_, F5, acc, (e2.trans e3).trans e5, k7, ?_, fun v hv => noPar_wipe (noPar_all p5.1 v hv) _, p5.2⟩
      refine ⟨D, vsA, rfl, z1, z2, rA.mono (e3.trans e5), h0, hpr, fun j p ys ej ez => ?_⟩
      rw [← hw] at ez
      exact wiped_cell z3 ej ez
    | true =>
      refine iteT ⟨_, F5, env5, _, k5, p5, fun d env6 v F6 H6 p6 e6 k6 r6 => ?_⟩
      obtain ⟨np6, p6⟩ := bIf_and p6
      obtain ⟨i6, s6, d6, hi6, p6⟩ := decQ_inv p6
      obtain ⟨k7, z1, z2, z3⟩ := Ok.bare hpr k6
      refine ⟨vsA, z2, by rw [rA.length]; exact Evl.sz_lt p6.1, ?_⟩
      have k8 := k7.wiped (noPar_all np6)
      have z4 : ∀ (j : Nat) (p : Bool) (ys : List PyData), (wipeD env6 t.slots)[j]? = some (.cel p ys) → (wipe σ4 t.slots)[j]? ≠ some (some (.ref D)) := fun j p ys ej ez => wiped_cell z3 ej ez
      have k9 := k8.writeP (o := .lst (vsA ++ [v])) z2 (fun _ z => by cases z) z1 h0 hpr z4
      rw [hw] at k9 z4
      exact ⟨_, F6, acc ++ [d], ((e2.trans e3).trans e5).trans e6, k9, ⟨D, vsA ++ [v], rfl, z1, upd_same, (rA.mono ((e3.trans e5).trans e6)).append (.one r6), h0, hpr, z4⟩, fun v hv => noPar_wipe (noPar_all np6 v hv) _, by unfold decQ; rw [d6]; exact ⟨hi6, p6.2⟩⟩
  · obtain ⟨i, s, de, rfl, w3⟩ := decQ_inv w2
    obtain rfl := hde _ _ _ de
    rw [List.drop_length] at w3
    have w2 := bIf_and w3
    have k3 := k2.unwiped
    have k4 := Ok.again k1 e2 k3 (noPar_all w2.1)
    obtain ⟨D', vsA, eD, hF, hHD, rA, h0, hpr, nw⟩ := r2
    cases eD
    refine q _ _ _ F' H' w2.2 (e1.trans e2) k4 ⟨D, vsA, rfl, hF, hHD, rA, h0, hpr, fun j p ys ej ez => ?_⟩
    have ej' := again_cell ej
    obtain ⟨a, _, b1, _⟩ := k3.cel j p ys ej'
    obtain ⟨a2, _, b2, _⟩ := k2.cel j p ys ej'
    have b3 := wipe_some b2
    rw [ez] at b1
    cases b1
    rw [ez] at b3
    cases b3.1
    exact nw j p ys ej' b2
where
  wiped_cell {env : List SD} {σ : L2.St} {D : Addr} {vs : List Nat} (z : ∀ (j : Nat) (p : Bool) (ys : List PyData), env[j]? = some (.cel p ys) → σ[j]? ≠ some (some (.ref D))) {j : Nat} {p : Bool} {ys : List PyData} (e : (wipeD env vs)[j]? = some (.cel p ys)) (e2 : (wipe σ vs)[j]? = some (some (.ref D))) : False := by
    have h1 := (wipe_some e2).1
    have : ∀ vs : List Nat, (wipeD env vs)[j]? = some (.cel p ys) → env[j]? = some (.cel p ys) := fun vs => by
      induction vs with
      | nil => exact id
      | cons v vs ih =>
        intro h
        rcases get_set h with ⟨_, q⟩ | ⟨_, q⟩
        · cases q
        · exact ih q
    exact z j p ys (this vs e) h1
  again_cell {env1 : List SD} {vs : List Nat} {env2 : List SD} {j : Nat} {p : Bool} {ys : List PyData} (e : (again env1 vs env2)[j]? = some (.cel p ys)) : env2[j]? = some (.cel p ys) := by
    induction vs generalizing env2 with
    | nil => exact e
    | cons v vs ih =>
      unfold again at e
      split at e
      · have := ih e
        rcases get_set this with ⟨_, q⟩ | ⟨_, q⟩
        · cases q
        · exact q
      · exact ih e
section
variable {X : Cx} {elt tg iter : Expr} {ifs : List Expr} {scope : Scope} {own : List (Str × Nat)} {pos : Pos} {wi : DI} {t : CT} {c : DT} {we : DE} {m : Nat} {I S : Type} {dec : List SD → Option (I × S)} {emb : I → S → List SD} {qb : PyData → I → S → (I → S → Prop) → (PyData → I → S → Prop) → Prop}
def dYes (env : List SD) (P : Bool → List SD → Prop) : Prop := P true env
theorem tyes : PTs X [] (liftT X.K Z dYes) := ⟨fun pins s σ H Q I ⟨g, F, env, P, k, w, q⟩ => pts_nil.run pins s σ H Q I (q true env F H w (Ex.refl F) k)⟩
theorem tif1 {e : Expr} (h : PT X e (liftT X.K Z c)) : PTs X [e] (liftT X.K Z c) := pts_one h
/-- [elt for tg in iter if ..] -/
theorem dlc (own : List (Str × Nat)) (t : CT) (hde : ∀ env i s, dec env = some (i, s) → env = emb i s) (hc : X.calm = true) (hN : X.N.Nodup) (hi : PI X tg iter (liftI X.K Z t.isT wi)) (ok : BlkOk X.N X.env.scope scope own)
    (hg : ∀ (s : Shared) (H : Hp) (C : Addr) (cl : List (Str × Addr)) (fp : List Addr), PG (X.blk s H scope (compEnvC scope cl C X.env) fp) tg (t.g X.K)) (ht : ∀ (s : Shared) (H : Hp) (C : Addr) (cl : List (Str × Addr)) (fp : List Addr), PTs (X.blk s H scope (compEnvC scope cl C X.env) fp) ifs (liftT X.K Z c))
    (he : ∀ (s : Shared) (H : Hp) (C : Addr) (cl : List (Str × Addr)) (fp : List Addr), PE (X.blk s H scope (compEnvC scope cl C X.env) fp) elt (liftE X.K Z we)) (hq : LcHyp dec emb qb t c we) (hsl : t.slots = own.map (·.2) := by rfl) (hs : ∀ x, foldedSetIterable iter X.env x = pure x := by intro _; rfl) :
    PE X (.ListComp elt [⟨tg, iter, ifs, 0⟩] scope pos) (liftX X.K Z (dLcQ dec emb qb wi t)) := PE.of (pe_lc hc hN hi ok hg ht he hs) fun σ H Q h => by
  have h2 := lift_lc hde hq h
  rw [hsl] at h2
  exact h2
end
end DL

namespace DL
variable {Z : Zx}
open PySem PySem.Spec PyProof.Rows L2
open Evl (Ex)

section
variable {K : PySem.W.Frag} {F H : Hp} {vs : List V} {as : List SD}
/-- where the cells handed in stand -/
def cellsAt (vs : List V) (as : List SD) (i : Nat) : Option Addr := match as[i]?, vs[i]? with
  | some (.cel _ _), some (.ref a) => some a
  | _, _ => none
theorem cellsAt_of {i : Nat} {p : Bool} {xs : List PyData} {a : Addr} (h1 : as[i]? = some (.cel p xs)) (h2 : vs[i]? = some (.ref a)) : cellsAt vs as i = some a := by
  unfold cellsAt
  rw [h1, h2]
theorem cellsAt_inv {i : Nat} {a : Addr} (h : cellsAt vs as i = some a) : ∃ p xs, as[i]? = some (.cel p xs) ∧ vs[i]? = some (.ref a) := by
  unfold cellsAt at h
  split at h
  · rename_i p xs b h1 h2
    cases h
    exact ⟨p, xs, h1, h2⟩
  · cases h
def entryZ (P : Program) (w : World) (F H : Hp) (vs : List V) (as : List SD) : Zx := ⟨F, H, cellsAt vs as, fun _ => none, P, w⟩
def entryG (P : Program) (w : World) (F H : Hp) (vs : List V) (as : List SD) : Gx (entryZ P w F H vs as) := ⟨fun _ => none, fun _ _ h => h⟩
theorem start_get {N : List Str} {i : Nat} {v : V} (h : vs[i]? = some v) : (start N vs)[i]? = some (some v) := by
  unfold L2.start
  have hi : i < vs.length := (List.getElem?_eq_some_iff.mp h).1
  rw [List.getElem?_append_left (by simpa using hi), List.getElem?_map, h]
  rfl
theorem args_get {m i : Nat} {r : SD} (h : (as ++ List.replicate m SD.un)[i]? = some r) (hr : r ≠ .un) : as[i]? = some r := by
  by_cases hi : i < as.length
  · rwa [List.getElem?_append_left hi] at h
  · rw [List.getElem?_append_right (by omega), List.getElem?_replicate] at h
    split at h
    · cases h
      exact absurd rfl hr
    · cases h
theorem entry_ok {N ps : List Str} (ha : ArgsOk K F H vs as) (hl : as.length = ps.length) (hN : ps.length ≤ N.length) {P : Program} {w : World} : Ok K (entryG P w F H vs as) F (as ++ List.replicate (N.length - ps.length) .un) (start N vs) H where
  len := by
    unfold L2.start
    have := ha.len
    simp
    omega
  fh := ha.fh
  dat := fun i d e => by
    obtain ⟨v, h1, h2⟩ := ha.dat i d (args_get e (fun z => by cases z))
    exact ⟨v, start_get h1, h2⟩
  cel := fun i p xs e => by
    have e := args_get e (fun z => by cases z)
    obtain ⟨rfl, a, us, h1, h2, h3, h4⟩ := ha.cel i p xs e
    exact ⟨a, us, start_get h1, h2, h3, h4, fun _ => cellsAt_of e h1, fun z => by cases z⟩
  sep := fun i j p q xs ys a e1 e2 h1 h2 => by
    have e1 := args_get e1 (fun z => by cases z)
    have e2 := args_get e2 (fun z => by cases z)
    obtain ⟨_, b, _, b1, _⟩ := ha.cel i p xs e1
    obtain ⟨_, c, _, c1, _⟩ := ha.cel j q ys e2
    rw [start_get b1] at h1
    rw [start_get c1] at h2
    cases h1
    cases h2
    exact ha.sep i j p q xs ys _ e1 e2 b1 c1
  pin := fun i a e => by
    obtain ⟨p, xs, h1, h2⟩ := cellsAt_inv e
    obtain ⟨rfl, _⟩ := ha.cel i p xs h1
    refine ⟨xs, ?_⟩
    rw [List.getElem?_append_left (List.getElem?_eq_some_iff.mp h1).1]
    exact h1
  frame := fun a o e _ => e
  newF := fun a o e => .inl e
  oldF := Ex.refl F
  prot := fun a o e => by cases e
  dic := fun i kvs e => absurd (args_get e (fun z => by cases z)) (ha.nod i kvs)
theorem post_of {P : Program} {w : World} {env : List SD} {σ : L2.St} {F' H' : Hp} {v : V} {r : SD} {n : Nat} (k : Ok K (entryG P w F H vs as) F' env σ H') (hn : ∀ (i : Nat) (p : Bool) (xs : List PyData), as[i]? = some (.cel p xs) → i < n) (hr : ResOk K (entryG P w F H vs as) F' env σ H' v r) : PostOk K F H vs as F' H' (env.take n) v r where
  ex := k.oldF
  fh := k.fh
  newF := k.newF
  frame := fun a o e n => k.frame a o e fun i z => by
    obtain ⟨p, xs, h1, h2⟩ := cellsAt_inv z
    exact n i p xs h1 h2
  cel := fun i p xs a h1 h2 => by
    have e : (entryG P w F H vs as).A0 i = some a := cellsAt_of h1 h2
    obtain ⟨ys, h3⟩ := k.pin i a e
    obtain ⟨b, us, _, c2, c3, c4, c5, _⟩ := k.cel i true ys h3
    have c5 := c5 rfl
    rw [e] at c5
    cases c5
    refine ⟨ys, us, ?_, c2, c3, c4⟩
    rw [List.getElem?_take_of_lt (hn _ _ _ h1)]
    exact h3
  res := by
    cases r with
    | un => exact hr
    | dat d => exact hr
    | cel b xs =>
      obtain ⟨a, us, h1, h2, h3, h4, h5, _⟩ := hr
      exact ⟨a, us, h1, h2, h3, h4, h5⟩
    | dic kvs => exact hr.elim
end

section
variable {P : Program} {w : World} {K : PySem.W.Frag} {mg : Str → Option Value} {base : Heap}
/-- the ends of a def's body -/
def defEnds (m : Nat) (Q : SD → List SD → Prop) : DEnds := { nx := fun env => Q (.dat .none) (env.take m), rt := Q }
/-- cells stand ahead of place m alone -/
def CelsIn (m : Nat) (S : DSp) : Prop := ∀ as Q, S as Q → ∀ (i : Nat) (p : Bool) (xs : List PyData), as[i]? = some (.cel p xs) → i < m
/-- a def of the text, by its body read as data -/
theorem dfn (m : Nat) {x qual : Str} {st : Stmt} {f : Addr} {fd : FuncData} {N ps : List Str} {k : Nat} {S : DSp} (Fn : Fun K x qual st f fd) (sc : FnScope N ps (defScope st)) (len : ∀ as Q, S as Q → as.length = ps.length) (cels : CelsIn m S)
    (hbody : ∀ {Z : Zx} (cdv : Value) (A : Around) (outer : List Env) (s : Shared) (H : Hp), Room k (A.deeper (envOfC qual (defScope st) s.heap.objs.size f cdv)) → (A.deeper (envOfC qual (defScope st) s.heap.objs.size f cdv)).guards = some [] →
      ∃ t : DS, PSs (cxOf CX0 P w K mg base N qual (defScope st) f cdv A outer s H E0).nox (defBody st) (liftS K Z m t) ∧
        ∀ as Q, S as Q → t (defEnds m Q) (as ++ List.replicate (N.length - ps.length) .un)) : FnG P w K mg base (k + 1) f fd ps S := by
  obtain ⟨oc, od, kV, doc, pm, an, cdv, ct, osl, rfl, lk, hcd⟩ := Fn.ex
  refine ⟨len, fun A outer s H args us vs Q hr hg e0 hb rv ⟨F0, as, PP, ha, hS, hQ⟩ => ?_⟩
  have hl : vs.length = ps.length := ha.len.symm.trans (len as PP hS)
  have hpl : ps.length ≤ N.length := by
    have := congrArg List.length sc.pre
    rw [List.length_take] at this
    omega
  have KX : K.In s.heap := e0.mod.kin.keeps fun b o e => (e0.bs b o e).1
  refine codeAny_call_function hr.depth (KX _ _ lk) rfl sc.co sc.gen rfl (PySem.W.codeRec_of KX hcd) (hb _ _ _ _ (wpAny_newFunctionEnv_cells sc.kind (fun ⟨n, v⟩ hy => ?_) fun env he s1 x => ?_))
  · rcases sc.par n (List.of_mem_zip hy).1 with q | q
    · exact .inl q
    · exact .inr ⟨q, PySem.W.cellsFrom_some _ _ _ (.inl q)⟩
  · subst he
    obtain ⟨t, ht, hq⟩ := hbody (Z := entryZ P w F0 H vs as) cdv A outer s H (hr.deeper _) hg
    have I : Inv (cxOf CX0 P w K mg base N qual (defScope st) f cdv A outer s H E0) [] (start N vs) H s1 := inv_start sc hr.hd e0 hl rv x
    refine ⟨(e0.mod.nolimit.keeps fun b o e => (e0.bs b o e).1).keeps x.toInCall.keep, codeAny_func (wpAny_mono (ht.nox.run [] s1 (start N vs) H { nx := fun _ H' => Q .non H', rt := Q } I ?_) (fun fl s' hs => ?_) fun e s' hs => hs)⟩
    · have al : as.length = ps.length := len as PP hS
      refine ⟨entryG P w F0 H vs as, F0, _, _, entry_ok ha al hpl, hq as PP hS, ?_⟩
      exact .mk4 (.mk (fun env' σ' F' H' p _ k' => hQ _ _ _ _ _ p (post_of k' (cels _ _ hS) .non)) (fun _ _ _ _ p => p.elim) (fun _ _ _ _ p => p.elim) (fun r env' v σ' F' H' p _ k' r' => hQ _ _ _ _ _ p (post_of k' (cels _ _ hS) r'))) rfl
    · have fin : ∀ {σ' : L2.St} {H' : Hp} {v : V} {u : Value}, Inv (cxOf CX0 P w K mg base N qual (defScope st) f cdv A outer s H E0) [] σ' H' s' → RelV v u → Q v H' → CE outer P w H s Q u s' :=
        fun {σ' H' v u} J r q => ⟨v, H', J.os, J.bare, J.base, J.hok, r, q⟩
      match fl, hs with
      | .ret u, ⟨v, σ', H', J, r, q⟩ => exact fin J r q
      | .next, ⟨σ', H', J, q⟩ => exact fin (v := V.non) (u := Value.none) J rfl q
      | .brk, ⟨_, _, _, q⟩ => exact q.elim
      | .cont, ⟨_, _, _, q⟩ => exact q.elim
/-- what is asked of a law's def: of a list of the script's numbers it tells True -/
def lawS (n : Nat) : DSp := fun as Q => match as with
  | [.dat (.list ds)] => (∃ ns : List Int, ds = ns.map .int ∧ ns.length ≤ n) ∧ ∀ as', Q (.dat (.bool true)) as'
  | _ => False
theorem drs_ints {F : Hp} : ∀ ns : List Int, DRs K F (ns.map V.int) (ns.map PyData.int)
  | [] => .nil
  | n :: ns => .cons (.int n) (drs_ints ns)
/-- the modules' dict stands -/
def SysD (h : Heap) : Prop := ∃ o es ep, h.get? sysModules = some o ∧ o.data = .dict es ep
class SysB (base : Heap) : Prop where
  out : SysD base
theorem law_data {mb : Str → Option Value} {k n : Nat} {fa a : Addr} {fd : FuncData} {x : Str} {s₁ : Shared} {vs : List Value} {ns : List Int}
    (KX : K.In s₁.heap) (hns : s₁.heap.Ns mainGlobals mg) (hb : s₁.heap.Ns builtinsNs mb) (hbb : ∀ x : Str, x ≠ "__name__" → mb x = bootBuiltins x) (hlim : s₁.heap.NoLimit) (hgn : s₁.gens = #[])
    (ha : s₁.heap.get? a = some { cls := .type "list", data := .seq vs.toArray }) (hi : IntsAre vs ns) (hn : ns.length ≤ n) (hz : n ≤ sizeLine) (hr : Room k callerA)
    (hsys : SysD s₁.heap) (Fn : ∀ base : Heap, K.In base → base.Ns mainGlobals mg → SysD base → FnG P w K mg base k fa fd [x] (lawS n)) (hbind : ∀ (s : Shared) (u : Value), BindsTo s fd ⟨[u], []⟩ [(x, u)]) :
    codeAny (model P w) callerA (.call (.ref fa) ⟨[.ref a], []⟩) (fun r s' => r = .ok (.ret (.bool true)) ∧ OldK s₁.heap s'.heap ∧ s'.os = s₁.os ∧ AllBare s'.gens) s₁ := by
  have rv := vals_ints hi
  have lenV := hi.length
  have hl : ns.length ≤ sizeLine := Nat.le_trans hn hz
  have core : ∀ H : Hp, Only H → RdL K H a (ns.map V.int) → HOk P w H s₁.heap → (∀ b, H b ≠ none → b = a) → (H a ≠ none → K.lookup a = none) →
      codeAny (model P w) callerA (.call (.ref fa) ⟨[.ref a], []⟩) (fun r s' => r = .ok (.ret (.bool true)) ∧ OldK s₁.heap s'.heap ∧ s'.os = s₁.os ∧ AllBare s'.gens) s₁ := by
    intro H hO hS hok hA hK
    have isA : ∀ {b : Addr} {u : HO}, H b = some u → b = a := fun {b u} q => hA b (by rw [q]; simp)
    have noA : ∀ {b : Addr} {o : Obj} {es : Array DictEntry} {ep : Nat}, s₁.heap.get? b = some o → o.data = .dict es ep → H b = none := fun {b o es ep} e d => by
      cases q : H b with
      | none => rfl
      | some u =>
        cases isA q
        rw [ha] at e; cases e
        cases (show Data.seq vs.toArray _ = Data.dict es ep from d)
    have nsK : ∀ {b : Addr} {m : Str → Option Value}, s₁.heap.Ns b m → (hidT s₁.heap H).Ns b m := fun {b m} ⟨o, es, ep, e, d, r⟩ => ⟨o, es, ep, hidT_get e (noA e d), d, r⟩
    have hKb : K.In (hidT s₁.heap H) := fun b o e => hidT_get (KX b o e) (by
      cases q : H b with
      | none => rfl
      | some u =>
        cases isA q
        rw [hK (by rw [q]; simp)] at e; cases e)
    have hM : Mod K mg (hidT s₁.heap H) := ⟨hKb, nsK hns, ⟨mb, nsK hb, hbb⟩, let ⟨mc, h1, h2⟩ := hlim; ⟨mc, nsK h1, h2⟩⟩
    have e0 : Env0 P w K mg (hidT s₁.heap H) callerA [] s₁ H := ⟨rfl, hM, fun b o e => of_hidT e, Nat.le_of_eq (hidT_size _ _), trivial, fun b hb => absurd (show b ∈ ([] : List Addr) from hb) (by simp), hok, .of_eq hgn⟩
    have goal : spD K (lawS n) [.ref a] H (fun v _ => v = .bl true) := by
      refine ⟨H, [.dat (.list (ns.map .int))], fun r _ => r = .dat (.bool true), args_dat (Ex.refl H) (ds := [.list (ns.map .int)]) (.one (.lst hS (drs_ints ns))), ⟨⟨ns, rfl, hn⟩, fun _ => rfl⟩, fun r as' v F' H' p po => ?_⟩
      subst p
      exact DR.inv_bool po.res
    refine codeAny_mono ((Fn _ hKb (nsK hns) (let ⟨o, es, ep, e, d⟩ := hsys; ⟨o, es, ep, hidT_get e (noA e d), d⟩)).go callerA [] s₁ H ⟨[.ref a], []⟩ [.ref a] [.ref a] _ hr rfl e0 (hbind s₁ (.ref a)) (.cons rfl .nil) goal) fun r s' h => ?_
    match r, h with
    | .error e, h =>
      exact h.elim
    | .ok .next, h => exact h.elim
    | .ok .brk, h => exact h.elim
    | .ok .cont, h => exact h.elim
    | .ok (.ret u), ⟨v, H', os, bare, un, hok', r', q⟩ =>
      have q' : v = .bl true := q
      subst q'
      obtain rfl : u = Value.bool true := r'
      refine ⟨rfl, OldK.of_keep fun b o e => ?_, os, bare⟩
      cases q : H b with
      | none => exact un.keep b o e q (by intro z; exact absurd (show b ∈ ([] : List Addr) from z) (by simp)) (by simp)
      | some u =>
        rcases hO b with z | ⟨ob, xs, z⟩
        · rw [q] at z; cases z
        · have z2 := un.frzs b ob _ z
          obtain ⟨e1, _⟩ := hok b _ z
          obtain ⟨e2, _⟩ := hok' b _ z2
          rw [e] at e1; cases e1
          exact e2
  cases hk : K.lookup a with
  | some o =>
    have e := KX a o hk
    rw [ha] at e
    cases e
    exact core (fun _ => none) (fun _ => .inl rfl) (.inr ⟨vs, 0, hk, rv, by rw [lenV]; exact hl⟩) (fun b u z => by cases (show (none : Option HO) = some u from z)) (fun b z => absurd rfl z) fun z => absurd rfl z
  | none =>
    refine core (fun b => if b = a then some (.frz { cls := .type "list", data := .seq vs.toArray } (.lst (ns.map V.int))) else none) (fun b => ?_) (.inl (.inr ⟨{ cls := .type "list", data := .seq vs.toArray }, if_pos rfl⟩)) (fun b u z => ?_) (fun b z => ?_) fun _ => hk
    · by_cases hb : b = a
      · exact .inr ⟨_, _, if_pos hb⟩
      · exact .inl (if_neg hb)
    · by_cases hb : b = a
      · cases (if_pos hb).symm.trans z
        subst hb
        exact ⟨ha, by rw [List.length_map]; exact hl, vs, _, rv, ha⟩
      · cases (if_neg hb).symm.trans z
    · by_cases hb : b = a
      · exact hb
      · exact absurd (if_neg hb) z
end
end DL

namespace DL
variable {Z : Zx}
open PySem PySem.Spec PyProof.Rows L2
open Evl (Ex)

/-- a def of the top that keeps its promise -/
structure Dn (P : Program) (w : World) (K : PySem.W.Frag) (mg : Str → Option Value) (base : Heap) (x : Str) (k : Nat) (ps : List Str) (S : DSp) : Prop where
  ex : ∃ fd, FnG P w K mg base k (He.ga K x) fd ps S ∧ Binds K fd ps []
  glo : mg x = some (.ref (He.ga K x))
  kp : PySem.W.keepIn K (.ref (He.ga K x)) = true
/-- what the head says of the top -/
structure Top (fa : List He.Fa) (fn : List He.FnD) (K : PySem.W.Frag) (mg : Str → Option Value) : Prop where
  says : He.SaysE fa fn K
  ns : ∃ h, K.In h ∧ h.Ns mainGlobals mg
section
variable {fa : List He.Fa} {fn : List He.FnD} {K : PySem.W.Frag} {mg : Str → Option Value}
theorem Top.glo (T : Top fa fn K mg) (x : Str) (i : Nat) (h : fa[i]? = some (.glo x) := by rfl) : mg x = some (.ref (He.ga K x)) := by
  obtain ⟨hp, h1, h2⟩ := T.ns
  exact He.glo_ok h1 h2 (T.says.fact i h)
theorem Top.free (T : Top fa fn K mg) (x : Str) (i : Nat) (h : fa[i]? = some (.free x) := by rfl) : mg x = none := by
  obtain ⟨hp, h1, h2⟩ := T.ns
  exact He.free_ok h1 h2 (T.says.fact i h)
theorem Top.int (T : Top fa fn K mg) (x : Str) (n : Int) (i : Nat) (h : fa[i]? = some (.int x n) := by rfl) : ∃ t, mg x = some (.int n t) := by
  obtain ⟨hp, h1, h2⟩ := T.ns
  exact He.int_ok h1 h2 (T.says.fact i h)
theorem Top.keep (T : Top fa fn K mg) (x : Str) (i : Nat) (h : fa[i]? = some (.keep x) := by rfl) : PySem.W.keepIn K (.ref (He.ga K x)) = true := He.keep_ok (T.says.fact i h)
theorem Top.fun_ (T : Top fa fn K mg) (x : Str) (st : Stmt) (i j : Nat) (h : fn[i]? = some ⟨(x, none), x, x, defArgs st, defBody st, defScope st⟩ := by rfl) (hk : fa[j]? = some (.keep x) := by rfl) :
    ∃ kV doc pm an cdv ct, Fun K x x st (He.ga K x) (PySem.W.fnOf x x (defArgs st) (defBody st) (defScope st) .none kV doc pm an cdv ct) := by
  obtain ⟨oc, od, osl, kV, doc, pm, an, cdv, ct, h1, h2⟩ := T.says.def_ i h
  exact ⟨kV, doc, pm, an, cdv, ct, fun_mk h1 h2 (T.keep x j hk)⟩
/-- a module's whole number -/
theorem dnum {X : Cx} {x : Str} {n : Int} {pos : Pos} (hm : ∃ t, X.mg x = some (.int n t)) (hg : Gl X x := by rfl) (hdb : (x == ("__debug__" : Str)) = false := by decide) : PE X (.Name x pos) (liftE X.K Z (dC (.int n))) := by
  obtain ⟨t, h⟩ := hm
  exact dglob (v := .int n) h ⟨t, rfl⟩ (fun _ => .int n) hg hdb
end
section
variable {X : Cx} {k : Nat} {ps : List Str} {S : DSp} {x : Str} {p pos : Pos} {e : Expr} {es : List Expr} {was : DA}
theorem dcn (D : Dn X.prog X.w X.K X.mg X.base x k ps S) (hr : Room k X.A) (hA : X.A.guards = some [])
    (ha : PA X (e :: es) (liftA X.K Z was)) (hg : Gl X x := by rfl) (hdb : (x == ("__debug__" : Str)) = false := by decide)
    (he : starEach (e :: es) X.env = (false, eval e X.env) :: starEach es X.env := by rfl) (hpl : (backTo pos (starEach es X.env)).any (·.1) = false := by rfl) : PE X (.Call (.Name x p) (e :: es) [] pos) (liftX X.K Z (dCall S was)) := by
  obtain ⟨fd, h1, h2⟩ := D.ex
  exact dcall h1 hr hA D.glo D.kp h2 ha hg hdb he hpl
theorem dcnC (i : Nat) {y : Str} {p0 : Pos} (D : Dn X.prog X.w X.K X.mg X.base x k ps S) (hr : Room k X.A) (hA : X.A.guards = some [])
    (ha : PA X es (liftA X.K Z was)) (hN : X.N[i]? = some y := by rfl) (hv : Vis X.env.scope y := by first | exact Or.inl rfl | exact Or.inr (Or.inl rfl) | exact Or.inr (Or.inr rfl)) (hd : (y == ("__debug__" : Str)) = false := by decide)
    (hcd : (y == ("__classdict__" : Str)) = false := by decide) (hg : Gl X x := by rfl) (hdb : (x == ("__debug__" : Str)) = false := by decide)
    (he : starEach (.Name y p0 :: es) X.env = (false, eval (.Name y p0) X.env) :: starEach es X.env := by rfl) (hpl : (backTo pos (starEach es X.env)).any (·.1) = false := by rfl) :
    PE X (.Call (.Name x p) (.Name y p0 :: es) [] pos) (liftX X.K Z (dCallC S i was)) := by
  obtain ⟨fd, h1, h2⟩ := D.ex
  exact dcallC i h1 hr hA D.glo D.kp h2 ha hN hv hd hcd hg hdb he hpl
end
/-- the goal that a head by facts leaves -/
theorem walk_dataE {l : PySem.W.OpenLaw} {n k : Nat} {q : Program} {loose : List Str} {XP : (Str → Option Value) → Heap → Prop} {YP : World → Heap → Prop} {d : DefRec} {x : Str}
    (hn : l.most = some n) (hn2 : n ≤ sizeLine) (hdf : d.params.defaults = []) (hr : Room k callerA)
    (Fn : ∀ (w : World) (mg : Str → Option Value) (fa : Addr) (h : Heap), YP w h → h.Ns mainGlobals mg → mg d.name = some (.ref fa) →
      ∃ (K : PySem.W.Frag) (fd : FuncData), K.In h ∧ SysD h ∧ (∀ (s : Shared) (u : Value), BindsTo s fd ⟨[u], []⟩ [(x, u)]) ∧
        ∀ base : Heap, K.In base → base.Ns mainGlobals mg → SysD base → FnG l.prog w K mg base k fa fd [x] (lawS n)) :
    PySem.W.WalkO q loose XP YP l.row.toRowW d [] (fun f vs => PySem.call f vs) := by
  refine Att.attach_call hn hdf fun w s₀ s₁ mg mb fa o pm cd doc a vs ns G Y ho hd hcd hmg hobj hints hlen hg => ?_
  obtain ⟨K, fd, KX, hsys, hb, hF⟩ := Fn w mg fa _ Y G.T.g hmg
  exact law_data KX G.T.g G.T.b G.T.builtins G.T.nolimit hg hobj hints hlen hn2 hr hsys hF hb
/-- the head's facts, and that the modules' dict stands -/
def sysB (g : Addr → Option Obj) : Bool := match g sysModules with
  | some ⟨_, _, .dict _ _, _⟩ => true
  | _ => false
theorem sysB_of {h : Heap} (e : sysB h.get? = true) : SysD h := by
  unfold sysB at e
  split at e
  · rename_i c di es ep sl z
    exact ⟨_, es, ep, z, rfl⟩
  · cases e
end DL

namespace DL
variable {Z : Zx}
open PySem PySem.Spec PyProof.Rows L2
open Evl (Ex)

mutual
/-- leaves that can be shown -/
def rp : PyData → Bool
  | .none => true
  | .bool _ => true
  | .int i => decide (i.natAbs < 10 ^ 250)
  | .str x => x.cps.toList.all fun c => decide (c < 16 ^ 8)
  | .list xs => rpAll xs
  | .tuple xs => rpAll xs
  | .dict kvs => kvs.isEmpty
def rpAll : List PyData → Bool
  | [] => true
  | x :: xs => rp x && rpAll xs
end
theorem int_short {i : Int} (h : i.natAbs < 10 ^ 250) : (PyData.shown (.int i)).length ≤ 300 := by
  have e := int_text_length_le10 (k := 250) (by decide) h
  clear h
  show (Str.ofString (toString i)).length ≤ 300
  rw [PySem.ofString_length]
  omega
mutual
theorem rp_short : ∀ {d : PyData}, rp d = true → d.leavesShort 300 = true ∧ d.showable = true
  | .none, _ => ⟨by simp [PyData.leavesShort], by simp [PyData.showable]⟩
  | .bool _, _ => ⟨by simp [PyData.leavesShort], by simp [PyData.showable]⟩
  | .int i, h => by
    have h1 : i.natAbs < 10 ^ 250 := by simpa only [rp, decide_eq_true_eq] using h
    refine ⟨?_, ?_⟩
    · simp only [PyData.leavesShort, decide_eq_true_eq]
      exact int_short h1
    · simp only [PyData.showable, decide_eq_true_eq]
      exact Nat.lt_trans (log250 h1) (by decide)
  | .str x, h => by
    refine ⟨?_, by simp [PyData.showable]⟩
    simpa only [rp, PyData.leavesShort] using h
  | .list xs, h => by
    have := rp_shortAll (by simpa only [rp] using h : rpAll xs = true)
    simpa only [PyData.leavesShort, PyData.showable] using this
  | .tuple xs, h => by
    have := rp_shortAll (by simpa only [rp] using h : rpAll xs = true)
    simpa only [PyData.leavesShort, PyData.showable] using this
  | .dict [], h => ⟨by simp [PyData.leavesShort, PyData.leavesShortKv], by simp [PyData.showable, PyData.showableKv]⟩
  | .dict (_ :: _), h => by simp [rp] at h
theorem rp_shortAll : ∀ {ds : List PyData}, rpAll ds = true → PyData.leavesShortAll 300 ds = true ∧ PyData.showableAll ds = true
  | [], _ => ⟨by simp [PyData.leavesShortAll], by simp [PyData.showableAll]⟩
  | d :: ds, h => by
    simp only [rpAll, Bool.and_eq_true] at h
    obtain ⟨a1, a2⟩ := rp_short h.1
    obtain ⟨b1, b2⟩ := rp_shortAll h.2
    exact ⟨by simp [PyData.leavesShortAll, a1, b1], by simp [PyData.showableAll, a2, b2]⟩
end
theorem rp_len {d : PyData} (h : rp d = true) (hb : d.bulk ≤ 50000) : d.shown.length ≤ sizeLine := by
  have h1 := PyData.shown_le_bulk 300 (by decide) d (rp_short h).1
  have h2 : (300 + 2) * d.bulk ≤ 302 * 50000 := Nat.mul_le_mul_left _ hb
  rw [sizeLine_eq]
  omega
section
variable {X : Cx} {K : PySem.W.Frag} {e : Expr} {es : List Expr} {p pos : Pos} {was : DA} {k : Nat}
theorem no_sys (hB : SysD X.base) {pins : List (Addr × Obj)} {σ : L2.St} {H : Hp} {s : Shared} (I : Inv X pins σ H s) {a : Addr} {o : Obj} {its : Array Value} {n : Nat} (h : s.heap.get? a = some o) (hd : o.data = .seq its n) : sysModules ≠ a := fun e => by
  subst e
  obtain ⟨o', es, ep, h1, h2⟩ := hB
  have := I.bk _ _ h1
  rw [h] at this
  cases this
  rw [hd] at h2
  cases h2
mutual
theorem DR.readsS (hB : SysD X.base) {pins : List (Addr × Obj)} {σ : L2.St} {H : Hp} {s : Shared} (I : Inv X pins σ H s) : ∀ (d : PyData) (v : V) (u : Value), DR X.K H v d → rp d = true → RelV v u → ∃ as, Reads s.heap u d as ∧ sysModules ∉ as
  | .none, _, _, h, _, r => by
    cases h
    cases r
    exact ⟨_, Reads.none, by simp⟩
  | .bool b, _, _, h, _, r => by
    cases h
    cases r
    exact ⟨_, Reads.bool b, by simp⟩
  | .int i, _, _, h, _, r => by
    cases h
    obtain ⟨t, rfl⟩ := r
    exact ⟨_, Reads.int i t, by simp⟩
  | .str x, _, _, h, _, r => by
    cases h
    obtain ⟨t, rfl⟩ := r
    exact ⟨_, Reads.str x t, by simp⟩
  | .list ds, _, _, h, hr, r => by
    cases h with
    | lst hs ha =>
      cases r
      obtain ⟨_, its, n, rv, ho⟩ := hs.obj I
      obtain ⟨as, q, hn⟩ := DRs.readsS hB I ds _ its ha (by simpa only [rp] using hr) rv
      refine ⟨_, Reads.list ho rfl rfl q, fun hm => ?_⟩
      rcases List.mem_cons.mp hm with e | hm
      · exact no_sys hB I ho rfl e
      · exact hn hm
  | .tuple ds, _, _, h, hr, r => by
    cases h with
    | tup hs ha =>
      cases r
      obtain ⟨its, rv, ⟨o, ho, hc, n, hd⟩, _⟩ := I.tuple hs.sq
      obtain ⟨as, q, hn⟩ := DRs.readsS hB I ds _ its ha (by simpa only [rp] using hr) rv
      exact ⟨_, Reads.tuple ho hc hd q, hn⟩
  | .dict [], _, _, h, _, r => by
    cases h with
    | dct hs =>
      rename_i a
      cases r
      obtain ⟨_, hsm, vs, rel, dd⟩ := dk_of I.hok hs
      cases rel
      obtain ⟨o, es, ep, ho, hx, hd, hes⟩ : ∃ o es ep, s.heap.get? a = some o ∧ o.cls = .type "dict" ∧ o.data = .dict es ep ∧ es.toList = [] := by
        obtain ⟨o, es, ep, ho, hx, hd, _, hp, _⟩ := dd
        refine ⟨o, es, ep, ho, ?_, hd, ?_⟩
        · first | exact hx.1 | exact hx
        · have := hp.length
          exact List.eq_nil_of_length_eq_zero (by simpa using this)
      refine ⟨_, Reads.dict (as := []) (bs := []) ho hx hd (by rw [hes]; exact .nil) (by rw [hes]; exact .nil), fun hm => ?_⟩
      rcases List.mem_cons.mp hm with e | hm
      · rw [← e] at hsm
        simp at hsm
      · simp at hm
  | .dict (_ :: _), _, _, _, hr, _ => by simp [rp] at hr
theorem DRs.readsS (hB : SysD X.base) {pins : List (Addr × Obj)} {σ : L2.St} {H : Hp} {s : Shared} (I : Inv X pins σ H s) : ∀ (ds : List PyData) (vs : List V) (us : List Value), DRs X.K H vs ds → rpAll ds = true → Vals vs us → ∃ as, ReadsAll s.heap us ds as ∧ sysModules ∉ as
  | [], _, _, h, _, r => by
    cases h
    cases r
    exact ⟨_, ReadsAll.nil, by simp⟩
  | d :: ds, _, _, h, hr, r => by
    simp only [rpAll, Bool.and_eq_true] at hr
    cases h with
    | cons h1 h2 =>
      cases r with
      | cons r1 r2 =>
        obtain ⟨as, q1, n1⟩ := DR.readsS hB I d _ _ h1 hr.1 r1
        obtain ⟨bs, q2, n2⟩ := DRs.readsS hB I ds _ _ h2 hr.2 r2
        exact ⟨_, ReadsAll.cons q1 q2, fun hm => (List.mem_append.mp hm).elim n1 n2⟩
end
def rRepr (K : PySem.W.Frag) : List V → Hp → VK → Prop := fun xs H Q => ∃ x d, xs = [x] ∧ DR K H x d ∧ rp d = true ∧ d.depth ≤ 40 ∧ d.shown.length ≤ sizeLine ∧ Q (.str d.shown) H
theorem call_repr (hB : SysD X.base) (hg : X.A.guards = some []) (hu : X.A.units + 64 < cLine) : CallR X (.builtin "repr") (rRepr X.K) := by
  intro pins s σ H xs us Q I r h
  obtain ⟨x, d, rfl, dp, hr, hdep, hz, q⟩ := h
  obtain ⟨u, rfl, rx⟩ := vals1 r
  have hs := (rp_short hr).2
  have big : ∀ a, u = .ref a → wpAny (model X.prog X.w) X.A (call (.builtin "repr") [u]) (EP X pins σ Q) X.xe s := fun a ea => by
    obtain ⟨as, rd, hn⟩ := DR.readsS hB I d x u dp hr rx
    subst ea
    exact repr_of_reads' rd hs (fun _ => hn) hg (by omega) (fun _ _ e => e) (fun h' t tk kk => ⟨.str d.shown, H, I.kept kk, ⟨_, rfl⟩, q⟩) hz
  cases dp with
  | non =>
    cases rx
    exact PySem.P.repr_of_none ⟨.str _, H, I.tok _, ⟨_, rfl⟩, q⟩
  | bl b =>
    cases rx
    exact PySem.P.repr_of_bool ⟨.str _, H, I.tok _, ⟨_, rfl⟩, (by cases b <;> exact q)⟩
  | int i =>
    obtain ⟨t, rfl⟩ := rx
    exact PySem.P.repr_of_int (by simpa only [PyData.showable, decide_eq_true_eq] using hs) ⟨.str _, H, I.tok _, ⟨_, rfl⟩, q⟩
  | str z =>
    obtain ⟨t, rfl⟩ := rx
    exact PySem.P.repr_of_str ⟨.str _, H, I.tok _, ⟨_, rfl⟩, q⟩ hz
  | lst _ _ => cases rx; exact big _ rfl
  | tup _ _ => cases rx; exact big _ rfl
  | dct _ => cases rx; exact big _ rfl
  | row _ _ => simp [rp] at hr
  | exc _ _ => simp [rp] at hr
def nRepr (xs : List PyData) (P : PyData → Prop) : Prop := match xs with
  | [d] => (rp d = true ∧ d.bulk ≤ 50000 ∧ d.depth ≤ 40) ∧ P (.str d.shown)
  | _ => False
theorem drepr (hB : SysD X.base) (hm : X.mg "repr" = none) (hr : Room k X.A) (hA : X.A.guards = some []) (ha : PA X (e :: es) (liftA X.K Z was)) (hg : Gl X "repr" := by rfl)
    (he : starEach (e :: es) X.env = (false, eval e X.env) :: starEach es X.env := by rfl) (hpl : (backTo pos (starEach es X.env)).any (·.1) = false := by rfl) : PE X (.Call (.Name "repr" p) (e :: es) [] pos) (liftE X.K Z (dB nRepr was)) :=
  dcb (call_repr hB hA hr.units) (fun _ g F env σ H vs ds P Q k r f q => by
    unfold nRepr at f
    split at f
    · obtain ⟨v, rfl, r0⟩ := r.inv1
      obtain ⟨⟨h1, h2, h3⟩, f⟩ := f
      exact ⟨v, _, rfl, drH k r0, h1, h3, rp_len h1 h2, q _ _ F H f (Ex.refl F) k (.str _)⟩
    · exact f.elim) hm (by decide +kernel) ha hg (by decide) (by decide) he hpl
def nSum (xs : List PyData) (P : PyData → Prop) : Prop := match xs with
  | [.list ds] => (match intsD ds with | some ns => P (.int ns.sum) | none => False)
  | [.tuple ds] => (match intsD ds with | some ns => P (.int ns.sum) | none => False)
  | _ => False
end
end DL

namespace DL
variable {Z : Zx}
open PySem PySem.Spec PyProof.Rows L2

section
variable {I S : Type}
theorem qFor_go {b : PyData → I → S → (I → S → Prop) → (I → S → Prop) → Prop} {items : List PyData} {i : I} {K : S → Prop} (Inv : Nat → S → Prop)
    (step : ∀ (k : Nat) (d : PyData) (s : S) (nx : I → S → Prop), items[k]? = some d → Inv k s → (∀ s', Inv (k + 1) s' → nx i s') → b d i s nx (same i K))
    (fin : ∀ s, Inv items.length s → K s) : ∀ (m k : Nat) (s : S), k + m = items.length → Inv k s → qFor b i (items.drop k) s K
  | 0, k, s, hm, h => by
    have e : k = items.length := by omega
    subst e
    rw [List.drop_length]
    exact fin s h
  | m + 1, k, s, hm, h => by
    have hk : k < items.length := by omega
    rw [List.drop_eq_getElem_cons hk]
    exact step k _ s _ (by simp [hk]) h fun s' h' => ⟨rfl, qFor_go Inv step fin m (k + 1) s' (by omega) h'⟩
/-- a for, by what holds ahead of each turn -/
theorem qFor_ind {b : PyData → I → S → (I → S → Prop) → (I → S → Prop) → Prop} {items : List PyData} {i : I} {s : S} {K : S → Prop} (Inv : Nat → S → Prop) (h0 : Inv 0 s)
    (step : ∀ (k : Nat) (d : PyData) (s : S) (nx : I → S → Prop), items[k]? = some d → Inv k s → (∀ s', Inv (k + 1) s' → nx i s') → b d i s nx (same i K))
    (fin : ∀ s, Inv items.length s → K s) : qFor b i items s K := qFor_go Inv step fin items.length 0 s (by omega) h0
/-- a for over a range -/
theorem qFor_range {b : PyData → I → S → (I → S → Prop) → (I → S → Prop) → Prop} {lo : Int} {n : Nat} {i : I} {s : S} {K : S → Prop} (Inv : Nat → S → Prop) (h0 : Inv 0 s)
    (step : ∀ (k : Nat) (s : S) (nx : I → S → Prop), k < n → Inv k s → (∀ s', Inv (k + 1) s' → nx i s') → b (.int (lo + k)) i s nx (same i K))
    (fin : ∀ s, Inv n s → K s) : qFor b i (rangeD lo n) s K := by
  have hl : (rangeD lo n).length = n := by simp [rangeD]
  refine qFor_ind Inv h0 (fun k d s nx hd hi hn => ?_) fun s h => fin s (by rwa [hl] at h)
  unfold rangeD at hd
  rw [List.getElem?_map] at hd
  by_cases hk : k < n
  · rw [List.getElem?_range hk] at hd
    cases hd
    exact step k s nx hk hi hn
  · rw [List.getElem?_eq_none (by simp; omega)] at hd
    cases hd
/-- a for whose turns carry nothing -/
theorem qFor_all {b : PyData → I → S → (I → S → Prop) → (I → S → Prop) → Prop} {items : List PyData} {i : I} {s : S} {K : S → Prop} (Inv : S → Prop) (h0 : Inv s)
    (step : ∀ (d : PyData) (s : S) (nx : I → S → Prop), d ∈ items → Inv s → (∀ s', Inv s' → nx i s') → b d i s nx (same i K)) (fin : ∀ s, Inv s → K s) : qFor b i items s K :=
  qFor_ind (fun _ s => Inv s) h0 (fun _ d s nx hd hi hn => step d s nx (List.mem_of_getElem? hd) hi hn) fun s h => fin s h
theorem qWhile_go {b : I → S → (I → S → Prop) → (I → S → Prop) → Prop} {i : I} {K : S → Prop} (Inv : Nat → S → Prop)
    (step : ∀ (m : Nat) (s : S) (nx : I → S → Prop), Inv m s → (∀ m' s', m' < m → Inv m' s' → nx i s') → b i s nx (same i K)) : ∀ (n m : Nat) (s : S), m < n → Inv m s → qWhileN b i n s K
  | 0, _, _, h, _ => absurd h (Nat.not_lt_zero _)
  | n + 1, m, s, h, hi => step m s _ hi fun m' s' hm hi' => ⟨rfl, qWhile_go Inv step n m' s' (by omega) hi'⟩
/-- a while, by a measure that falls -/
theorem qWhile_ind {b : I → S → (I → S → Prop) → (I → S → Prop) → Prop} {i : I} {s : S} {K : S → Prop} (Inv : Nat → S → Prop) {m : Nat} (h0 : Inv m s)
    (step : ∀ (m : Nat) (s : S) (nx : I → S → Prop), Inv m s → (∀ m' s', m' < m → Inv m' s' → nx i s') → b i s nx (same i K)) : qWhile b i s K := ⟨m + 1, qWhile_go Inv step (m + 1) m s (Nat.lt_succ_self m) h0⟩
theorem qLc_go {b : PyData → I → S → (I → S → Prop) → (PyData → I → S → Prop) → Prop} {items : List PyData} {i : I} {K : List PyData → S → Prop} (Inv : Nat → List PyData → S → Prop)
    (step : ∀ (k : Nat) (d : PyData) (acc : List PyData) (s : S) (sk : I → S → Prop) (yd : PyData → I → S → Prop), items[k]? = some d → Inv k acc s → (∀ s', Inv (k + 1) acc s' → sk i s') →
      (∀ y s', acc.length < 100000 → Inv (k + 1) (acc ++ [y]) s' → yd y i s') → b d i s sk yd) (hz : ∀ k acc s, k < items.length → Inv k acc s → acc.length < 100000)
    (fin : ∀ acc s, Inv items.length acc s → K acc s) : ∀ (m k : Nat) (acc : List PyData) (s : S), k + m = items.length → Inv k acc s → qLc b i (items.drop k) acc s K
  | 0, k, acc, s, hm, h => by
    have e : k = items.length := by omega
    subst e
    rw [List.drop_length]
    exact fin acc s h
  | m + 1, k, acc, s, hm, h => by
    have hk : k < items.length := by omega
    rw [List.drop_eq_getElem_cons hk]
    exact step k _ acc s _ _ (by simp [hk]) h (fun s' h' => ⟨rfl, qLc_go Inv step hz fin m (k + 1) acc s' (by omega) h'⟩) fun y s' hl h' => ⟨rfl, hz k acc s hk h, qLc_go Inv step hz fin m (k + 1) (acc ++ [y]) s' (by omega) h'⟩
/-- a comprehension, by what holds ahead of each turn -/
theorem qLc_ind {b : PyData → I → S → (I → S → Prop) → (PyData → I → S → Prop) → Prop} {items : List PyData} {i : I} {s : S} {K : List PyData → S → Prop} (Inv : Nat → List PyData → S → Prop) (h0 : Inv 0 [] s)
    (hz : ∀ k acc s, k < items.length → Inv k acc s → acc.length < 100000)
    (step : ∀ (k : Nat) (d : PyData) (acc : List PyData) (s : S) (sk : I → S → Prop) (yd : PyData → I → S → Prop), items[k]? = some d → Inv k acc s → (∀ s', Inv (k + 1) acc s' → sk i s') →
      (∀ y s', Inv (k + 1) (acc ++ [y]) s' → yd y i s') → b d i s sk yd)
    (fin : ∀ acc s, Inv items.length acc s → K acc s) : qLc b i items [] s K :=
  qLc_go Inv (fun k d acc s sk yd hd hi h1 h2 => step k d acc s sk yd hd hi h1 fun y s' h => h2 y s' (hz k acc s (List.getElem?_eq_some_iff.mp hd).1 hi) h) hz fin items.length 0 [] s (by omega) h0
/-- each item gives one, a state is carried -/
theorem qLc_each {b : PyData → I → S → (I → S → Prop) → (PyData → I → S → Prop) → Prop} {items : List PyData} {i : I} {s : S} {K : List PyData → S → Prop} (T : PyData → Prop) (Inv : Nat → S → Prop) (h0 : Inv 0 s) (hz : items.length ≤ 100000)
    (step : ∀ (k : Nat) (d : PyData) (s : S) (sk : I → S → Prop) (yd : PyData → I → S → Prop), items[k]? = some d → Inv k s → (∀ y s', T y → Inv (k + 1) s' → yd y i s') → b d i s sk yd)
    (fin : ∀ acc s, acc.length = items.length → (∀ y ∈ acc, T y) → Inv items.length s → K acc s) : qLc b i items [] s K :=
  qLc_ind (fun k acc s => acc.length = k ∧ (∀ y ∈ acc, T y) ∧ Inv k s) ⟨rfl, by simp, h0⟩ (fun k acc s hk h => by have := h.1; omega) (fun k d acc s sk yd hd ⟨h1, h2, h3⟩ _ hy => step k d s sk yd hd h3 fun y s' ty h' => hy y s' ⟨by simp [h1], fun z hz => by
    rcases List.mem_append.mp hz with hz | hz
    · exact h2 z hz
    · rw [List.mem_singleton.mp hz]; exact ty, h'⟩) fun acc s ⟨h1, h2, h3⟩ => fin acc s h1 h2 h3
/-- [f x for x in items], nothing changed -/
theorem qLc_map {b : PyData → I → S → (I → S → Prop) → (PyData → I → S → Prop) → Prop} {items : List PyData} {i : I} {s : S} {K : List PyData → S → Prop} (f : PyData → PyData) (hz : items.length ≤ 100000)
    (step : ∀ d ∈ items, ∀ (sk : I → S → Prop) (yd : PyData → I → S → Prop), yd (f d) i s → b d i s sk yd) (fin : K (items.map f) s) : qLc b i items [] s K :=
  qLc_ind (fun k acc s' => acc = (items.take k).map f ∧ s' = s) ⟨by simp, rfl⟩ (fun k acc s' hk h => by rw [h.1]; simp; omega)
    (fun k d acc s' sk yd hd ⟨h1, h2⟩ _ hy => by
      subst h2
      refine step d (List.mem_of_getElem? hd) sk yd (hy _ _ ⟨?_, rfl⟩)
      rw [List.take_add_one, hd, h1]
      simp) fun acc s' ⟨h1, h2⟩ => by
      subst h1 h2
      rw [List.take_length]
      exact fin
/-- [.. for x in items if ..], nothing changed -/
theorem qLc_fmap {b : PyData → I → S → (I → S → Prop) → (PyData → I → S → Prop) → Prop} {items : List PyData} {i : I} {s : S} {K : List PyData → S → Prop} (f : PyData → Option PyData) (hz : items.length ≤ 100000)
    (step : ∀ d ∈ items, ∀ (sk : I → S → Prop) (yd : PyData → I → S → Prop), (∀ y, f d = some y → yd y i s) → (f d = none → sk i s) → b d i s sk yd) (fin : K (items.filterMap f) s) : qLc b i items [] s K :=
  qLc_ind (fun k acc s' => acc = (items.take k).filterMap f ∧ s' = s) ⟨by simp, rfl⟩ (fun k acc s' hk h => by
      rw [h.1]
      exact Nat.lt_of_le_of_lt (List.length_filterMap_le f _) (by simp; omega))
    (fun k d acc s' sk yd hd ⟨h1, h2⟩ hs hy => by
      subst h2
      refine step d (List.mem_of_getElem? hd) sk yd (fun y e => hy _ _ ⟨?_, rfl⟩) fun e => hs _ ⟨?_, rfl⟩
      · rw [List.take_add_one, hd, h1]
        simp [e]
      · rw [List.take_add_one, hd, h1]
        simp [e]) fun acc s' ⟨h1, h2⟩ => by
      subst h1 h2
      rw [List.take_length]
      exact fin
end
theorem ixN_in {n : Nat} {k : Int} (h0 : 0 ≤ k) (h1 : k < n) : ixN n k = some k.toNat := by
  unfold ixN
  rw [if_pos h0, if_pos h1]
theorem atI_in {xs : List PyData} {k : Int} (h0 : 0 ≤ k) (h1 : k < xs.length) : ∃ d, atI xs k = some d ∧ d ∈ xs := by
  unfold atI
  rw [ixN_in h0 h1]
  have hk : k.toNat < xs.length := by omega
  exact ⟨xs[k.toNat], by simp [hk], List.getElem_mem hk⟩
theorem at_of {xs : List PyData} {k : Int} {P : PyData → Prop} (h0 : 0 ≤ k) (h1 : k < xs.length) (h : ∀ d ∈ xs, P d) : pick xs k P := by
  obtain ⟨d, e, m⟩ := atI_in h0 h1
  unfold pick
  rw [e]
  exact h d m
theorem pick_at {xs : List PyData} {k : Nat} {P : PyData → Prop} {d : PyData} (e : xs[k]? = some d) (h : P d) : pick xs (k : Int) P := by
  unfold pick atI
  rw [ixN_in (by omega) (by have := (List.getElem?_eq_some_iff.mp e).1; omega)]
  show match xs[(k : Int).toNat]? with | some d => P d | none => False
  rw [Int.toNat_natCast, e]
  exact h
theorem pick_eq {xs : List PyData} {k : Int} {P : PyData → Prop} {d : PyData} (e : atI xs k = some d) : pick xs k P = P d := by
  unfold pick
  rw [e]
theorem range_get {lo : Int} {n i : Nat} {d : PyData} (h : (rangeD lo n)[i]? = some d) : i < n ∧ d = .int (lo + i) := by
  unfold rangeD at h
  rw [List.getElem?_map] at h
  by_cases hi : i < n
  · rw [List.getElem?_range hi] at h
    cases h
    exact ⟨hi, rfl⟩
  · rw [List.getElem?_eq_none (by simp; omega)] at h
    cases h
theorem range_len {lo : Int} {n : Nat} : (rangeD lo n).length = n := by simp [rangeD]
end DL

namespace DL
variable {Z : Zx}
open PySem PySem.Spec PyProof.Rows L2
open Evl (Ex)

section
variable {X : Cx} {a b e : Expr} {es : List Expr} {we wa wb : DE} {was : DA} {pos p2 p : Pos} {K : PySem.W.Frag}
abbrev DO := List SD → (Option Int → List SD → Prop) → Prop
def liftO (K : PySem.W.Frag) (Z : Zx) (w : DO) : TO := fun σ H Q => ∃ (g : Gx Z) (F : Hp) (env : List SD) (P : Option Int → List SD → Prop), Ok K g F env σ H ∧ w env P ∧
  ∀ o env' F' H', P o env' → Ex F F' → Ok K g F' env' σ H' → Q o H'
theorem PO.of {e : Option Expr} {t t' : TO} (h : PO X e t) (w : ∀ σ H Q, t' σ H Q → t σ H Q) : PO X e t' := ⟨fun pins s σ H Q I q => h.run pins s σ H Q I (w σ H Q q)⟩
def dNo (env : List SD) (P : Option Int → List SD → Prop) : Prop := P none env
def soQ (x : PyData) (K : Option Int → Prop) : Prop := match x with
  | .int i => K (some i)
  | _ => False
def dSo (w : DE) (env : List SD) (P : Option Int → List SD → Prop) : Prop := w env fun x env' => soQ x fun o => P o env'
theorem so_none : PO X none (liftO X.K Z dNo) := PO.of po_none fun σ H Q ⟨g, F, env, P, k, w, q⟩ => q none env F H w (Ex.refl F) k
theorem so_some (h : PE X e (liftE X.K Z we)) : PO X (some e) (liftO X.K Z (dSo we)) := PO.of (po_some h) fun σ H Q ⟨g, F, env, P, k, w, q⟩ =>
  ⟨g, F, env, _, k, w, fun d env1 v F1 H1 p e1 k1 r1 => by
    unfold soQ at p
    split at p
    · cases r1.inv_int
      exact ⟨_, rfl, q _ env1 F1 H1 p e1 k1⟩
    · exact p.elim⟩
/-- the items of ds[lo:hi] -/
def cutD (ds : List PyData) (lo hi : Option Int) : List PyData := (ds.drop (HT.sIx ds.length 0 lo)).take (HT.sIx ds.length ds.length hi - HT.sIx ds.length 0 lo)
theorem DRs.cut {H : Hp} {vs : List V} {ds : List PyData} (lo hi : Option Int) (h : DRs K H vs ds) : DRs K H (cutV vs lo hi) (cutD ds lo hi) := by
  unfold cutV cutD
  rw [h.length]
  exact (h.drop _).take _
def oSl (x : PyData) (lo hi : Option Int) (P : PyData → Prop) : Prop := match x with
  | .tuple ds => P (.tuple (cutD ds lo hi))
  | .list ds => P (.list (cutD ds lo hi))
  | .str z => z.length ≤ 100000 ∧ P (.str (cutS z lo hi))
  | _ => False
def dSl (w : DE) (l h : DO) (env : List SD) (P : PyData → List SD → Prop) : Prop := w env fun x env1 => l env1 fun lo env2 => h env2 fun hi env3 => oSl x lo hi fun d => P d env3
theorem cutD_whole {xs : List PyData} {lo hi : Option Int} (h : HT.sIx xs.length 0 lo = 0 ∧ HT.sIx xs.length xs.length hi = xs.length) : cutD xs lo hi = xs := by
  unfold cutD
  rw [h.1, h.2]
  simp
theorem dsl {l u : Option Expr} {tl tu : DO} (he : PE X e (liftE X.K Z we)) (hl : PO X l (liftO X.K Z tl)) (hu : PO X u (liftO X.K Z tu)) : PE X (.Subscript e (.Slice l u none p2) pos) (liftE X.K Z (dSl we tl tu)) :=
  PE.of (pe_slice (SlR.or sl_tupZ (SlR.or sl_list sl_str)) he hl hu) fun σ H Q ⟨g, F, env, P, k, w, q⟩ =>
    ⟨g, F, env, _, k, w, fun d env1 v F1 H1 p e1 k1 r1 => ⟨g, F1, env1, _, k1, p, fun lo env2 F2 H2 p2 e2 k2 => ⟨g, F2, env2, _, k2, p2, fun hi env3 F3 H3 p3 e3 k3 => by
      have r3 := (r1.mono e2).mono e3
      have e13 := e1.trans (e2.trans e3)
      unfold oSl at p3
      split at p3
      · rename_i ds
        obtain ⟨a, us, rfl, h1, h2⟩ := r3.inv_tup
        refine .inl ⟨a, us, rfl, Evl.ex_t k3.fh h1, fun hw => ?_, fun _ x o hx ho => ?_⟩
        · rw [h2.length] at hw
          rw [cutD_whole hw] at p3
          exact q _ env3 _ F3 H3 p3 e13 k3 r3
        · obtain ⟨e4, k4, r4⟩ := k3.newTup hx ho (h2.cut lo hi)
          exact q _ env3 _ _ _ p3 (e13.trans e4) k4 r4
      · rename_i ds
        obtain ⟨a, us, rfl, h1, h2⟩ := r3.inv_lst
        refine .inr (.inl ⟨a, us, rfl, (h1.mono k3.fh).sq, fun x hx => ?_⟩)
        obtain ⟨e4, k4, r4⟩ := k3.newLst hx (h2.cut lo hi)
        exact q _ env3 _ _ _ p3 (e13.trans e4) k4 r4
      · cases r3.inv_str
        exact .inr (.inr ⟨_, rfl, sz2 p3.1, q _ env3 _ F3 H3 p3.2 e13 k3 (.str _)⟩)
      · exact p3.elim⟩⟩⟩
def lstQ (x : PyData) (K : List PyData → Prop) : Prop := match x with
  | .list ds => K ds
  | _ => False
/-- a slice of a name's own cell, as a new cell -/
def dSlC (i : Nat) (l h : DO) (env : List SD) (P : SD → List SD → Prop) : Prop := match env[i]? with
  | some (.cel _ _) => l env fun lo env2 => h env2 fun hi env3 => match env3[i]? with
    | some (.cel _ xs) => P (.cel false (cutD xs lo hi)) env3
    | _ => False
  | _ => False
theorem dslC (i : Nat) {x : Str} {p0 : Pos} {l u : Option Expr} {tl tu : DO} (hl : PO X l (liftO X.K Z tl)) (hu : PO X u (liftO X.K Z tu)) (hN : X.N[i]? = some x := by rfl)
    (hv : Vis X.env.scope x := by first | exact Or.inl rfl | exact Or.inr (Or.inl rfl) | exact Or.inr (Or.inr rfl)) (hd : (x == ("__debug__" : Str)) = false := by decide) (hcd : (x == ("__classdict__" : Str)) = false := by decide) :
    PE X (.Subscript (.Name x p0) (.Slice l u none p2) pos) (liftX X.K Z (dSlC i tl tu)) :=
  PE.of (pe_slice sl_list (pe_var hN hv hd hcd) hl hu) fun σ H Q ⟨g, F, env, P, k, w, q⟩ => by
    unfold dSlC at w
    split at w
    · rename_i p xs e
      obtain ⟨a0, vs, h1, _⟩ := k.cel i p xs e
      refine ⟨_, h1, g, F, env, _, k, w, fun lo env2 F2 H2 p2 e2 k2 => ⟨g, F2, env2, _, k2, p2, fun hi env3 F3 H3 p3 e3 k3 => ?_⟩⟩
      split at p3
      · rename_i p' ys e'
        obtain ⟨a1, ws, z1, z2, z3, z4, z5⟩ := k3.cel i _ _ e'
        rw [h1] at z1
        cases z1
        refine ⟨a0, ws, rfl, SqL.of z3, fun x hx => ?_⟩
        obtain ⟨k4, r4⟩ := k3.newCell hx (z4.cut lo hi)
        exact q _ env3 _ _ _ p3 (e2.trans e3) k4 r4
      · exact p3.elim
    · exact w.elim
def nInt (xs : List PyData) (P : PyData → Prop) : Prop := match xs with
  | [.int i] => P (.int i)
  | [.bool i] => P (.int (if i then 1 else 0))
  | _ => False
theorem dintOf (hm : X.mg "int" = none) (ha : PA X (e :: es) (liftA X.K Z was)) (hg : Gl X "int" := by rfl)
    (he : starEach (e :: es) X.env = (false, eval e X.env) :: starEach es X.env := by rfl) (hpl : (backTo pos (starEach es X.env)).any (·.1) = false := by rfl) : PE X (.Call (.Name "int" p) (e :: es) [] pos) (liftE X.K Z (dB nInt was)) :=
  dct call_int1 (fun _ g F env σ H vs ds P Q k r f q => by
    unfold nInt at f
    split at f
    · obtain ⟨v, rfl, r0⟩ := r.inv1
      cases r0.inv_int
      exact .inl ⟨_, rfl, q _ _ F H f (Ex.refl F) k (.int _)⟩
    · obtain ⟨v, rfl, r0⟩ := r.inv1
      cases r0.inv_bool
      exact .inr ⟨_, rfl, q _ _ F H f (Ex.refl F) k (.int _)⟩
    · exact f.elim) hm (by decide +kernel) ha hg (by decide) (by decide) he hpl
def nTuple (xs : List PyData) (P : PyData → Prop) : Prop := match xs with
  | [.list ds] => P (.tuple ds)
  | [.tuple ds] => P (.tuple ds)
  | [.dict [(.none, .list ds)]] => P (.tuple ds)
  | _ => False
theorem call_tupleR : CallR X (.type "tuple") (fun xs H Q => ∃ x, xs = [x] ∧ kTupZ X.K x H Q) := by
  intro pins s σ H xs us Q I r h
  obtain ⟨x, rfl, q⟩ := h
  cases r with
  | cons r rr =>
    cases rr
    exact rl_tupleZ pins s σ H x _ Q I r q
theorem dtupleOf (hm : X.mg "tuple" = none) (ha : PA X (e :: es) (liftA X.K Z was)) (hg : Gl X "tuple" := by rfl)
    (he : starEach (e :: es) X.env = (false, eval e X.env) :: starEach es X.env := by rfl) (hpl : (backTo pos (starEach es X.env)).any (·.1) = false := by rfl) : PE X (.Call (.Name "tuple" p) (e :: es) [] pos) (liftE X.K Z (dB nTuple was)) :=
  dct call_tupleR (fun _ g F env σ H vs ds P Q k r f q => by
    unfold nTuple at f
    split at f
    · obtain ⟨v, rfl, r0⟩ := r.inv1
      obtain ⟨a, us, rfl, h1, h2⟩ := r0.inv_lst
      refine ⟨_, rfl, .inl ⟨a, us, rfl, (h1.mono k.fh).sq, fun x o hx ho => ?_⟩⟩
      obtain ⟨e4, k4, r4⟩ := k.newTup hx ho h2
      exact q _ _ _ _ f e4 k4 r4
    · obtain ⟨v, rfl, r0⟩ := r.inv1
      obtain ⟨a, us, rfl, h1, h2⟩ := r0.inv_tup
      exact ⟨_, rfl, .inr ⟨a, us, rfl, Evl.ex_t k.fh h1, q _ _ F H f (Ex.refl F) k r0⟩⟩
    · obtain ⟨v, rfl, r0⟩ := r.inv1
      cases r0 with
      | row h1 h2 =>
        refine ⟨_, rfl, .inl ⟨_, _, rfl, SqL.of (k.fh _ _ h1), fun x o hx ho => ?_⟩⟩
        obtain ⟨e4, k4, r4⟩ := k.newTup hx ho h2
        exact q _ _ _ _ f e4 k4 r4
    · exact f.elim) hm (by decide +kernel) ha hg (by decide) (by decide) he hpl
/-- tuple(xs) of a name's own cell -/
def dTupC (i : Nat) (env : List SD) (P : PyData → List SD → Prop) : Prop := match env[i]? with
  | some (.cel _ xs) => P (.tuple xs) env
  | _ => False
theorem dtupC (i : Nat) {x : Str} {p0 : Pos} (hm : X.mg "tuple" = none) (hN : X.N[i]? = some x := by rfl)
    (hv : Vis X.env.scope x := by first | exact Or.inl rfl | exact Or.inr (Or.inl rfl) | exact Or.inr (Or.inr rfl)) (hd : (x == ("__debug__" : Str)) = false := by decide) (hcd : (x == ("__classdict__" : Str)) = false := by decide) (hg : Gl X "tuple" := by rfl)
    (na : starEach [.Name x p0] X.env = (false, eval (.Name x p0) X.env) :: starEach [] X.env := by rfl) : PE X (.Call (.Name "tuple" p) [.Name x p0] [] pos) (liftE X.K Z (dTupC i)) :=
  PE.of (pe_tupleZ hg hm (pe_var hN hv hd hcd) na) fun σ H Q ⟨g, F, env, P, k, w, q⟩ => by
    unfold dTupC at w
    split at w
    · rename_i p xs e
      obtain ⟨a0, vs, h1, h2, h3, h4, h5⟩ := k.cel i p xs e
      refine ⟨_, h1, .inl ⟨a0, vs, rfl, SqL.of h3, fun x o hx ho => ?_⟩⟩
      obtain ⟨e4, k4, r4⟩ := k.newTup hx ho h4
      exact q _ _ _ _ _ w e4 k4 r4
    · exact w.elim
/-- len(xs) of a name's own cell -/
def dLenC (i : Nat) (env : List SD) (P : PyData → List SD → Prop) : Prop := match env[i]? with
  | some (.cel _ xs) => P (.int (xs.length : Nat)) env
  | _ => False
theorem dlenC (i : Nat) {x : Str} {p0 : Pos} (hm : X.mg "len" = none) (hN : X.N[i]? = some x := by rfl)
    (hv : Vis X.env.scope x := by first | exact Or.inl rfl | exact Or.inr (Or.inl rfl) | exact Or.inr (Or.inr rfl)) (hd : (x == ("__debug__" : Str)) = false := by decide) (hcd : (x == ("__classdict__" : Str)) = false := by decide) (hg : Gl X "len" := by rfl)
    (na : starEach [.Name x p0] X.env = (false, eval (.Name x p0) X.env) :: starEach [] X.env := by rfl) (hpl : (backTo pos (starEach [] X.env)).any (·.1) = false := by rfl) : PE X (.Call (.Name "len" p) [.Name x p0] [] pos) (liftE X.K Z (dLenC i)) :=
  PE.of (pe_callB call_len hg hm PySem.boot_len (pa_cons (pe_var hN hv hd hcd) pa_nil na) (by decide) (by decide) na hpl) fun σ H Q ⟨g, F, env, P, k, w, q⟩ => by
    unfold dLenC at w
    split at w
    · rename_i p xs e
      obtain ⟨a0, vs, h1, h2, h3, h4, h5⟩ := k.cel i p xs e
      exact ⟨_, h1, _, vs.length, rfl, .inl ⟨vs, SqL.of h3, rfl⟩, by rw [h4.length]; exact q _ _ _ F H w (Ex.refl F) k (.int _)⟩
    · exact w.elim
def nList (xs : List PyData) (P : List PyData → Prop) : Prop := match xs with
  | [.list ds] => P ds
  | [.tuple ds] => P ds
  | _ => False
/-- list(..): a new cell -/
def dListOf (wa : DA) (env : List SD) (P : SD → List SD → Prop) : Prop := wa env fun xs env' => nList xs fun ds => P (.cel false ds) env'
theorem dlistOf (hm : X.mg "list" = none) (ha : PA X (e :: es) (liftA X.K Z was)) (hg : Gl X "list" := by rfl)
    (he : starEach (e :: es) X.env = (false, eval e X.env) :: starEach es X.env := by rfl) (hpl : (backTo pos (starEach es X.env)).any (·.1) = false := by rfl) : PE X (.Call (.Name "list" p) (e :: es) [] pos) (liftX X.K Z (dListOf was)) :=
  PE.of (pe_callTy call_list_of hg hm (by decide +kernel) ha (by decide) (by decide) he hpl) fun σ H Q ⟨g, F, env, P, k, w, q⟩ =>
    ⟨g, F, env, _, k, w, fun ds env1 vs F1 H1 p e1 k1 r1 => by
      unfold nList at p
      split at p
      · obtain ⟨v, rfl, r0⟩ := r1.inv1
        obtain ⟨a, us, rfl, h1, h2⟩ := r0.inv_lst
        refine ⟨a, us, rfl, .inl (h1.mono k1.fh).sq, fun x hx => ?_⟩
        obtain ⟨k4, r4⟩ := k1.newCell hx h2
        exact q _ _ _ _ _ p e1 k4 r4
      · obtain ⟨v, rfl, r0⟩ := r1.inv1
        obtain ⟨a, us, rfl, h1, h2⟩ := r0.inv_tup
        refine ⟨a, us, rfl, .inr (Evl.ex_t k1.fh h1), fun x hx => ?_⟩
        obtain ⟨k4, r4⟩ := k1.newCell hx h2
        exact q _ _ _ _ _ p e1 k4 r4
      · exact p.elim⟩
/-- a name's own cell stays as it is from here on, or its datum -/
def dFreeze2 (i : Nat) (w : DS) (E : DEnds) (env : List SD) : Prop := match env[i]? with
  | some (.cel false xs) => w E (env.set i (.dat (.list xs)))
  | some (.dat _) => w E env
  | _ => False
theorem ssfreeze2 {sts : List Stmt} {m : Nat} {w : DS} (i : Nat) (h : PSs X sts (liftS X.K Z m w)) : PSs X sts (liftS X.K Z m (dFreeze2 i w)) := PSs.of h fun D σ H ⟨g, F, env, P, k, w, q⟩ => by
  unfold dFreeze2 at w
  split at w
  · rename_i xs e
    obtain ⟨F', e1, k1⟩ := k.freeze e
    exact ⟨g, F', _, P, k1, w, q.ex e1⟩
  · exact ⟨g, F, env, P, k, w, q⟩
  · exact w.elim
end
end DL

namespace DL
variable {Z : Zx}
open PySem PySem.Spec PyProof.Rows L2
open Evl (Ex)

section
variable {X : Cx} {a b e : Expr} {es : List Expr} {we wa wb : DE} {was : DA} {pos p p1 p2 p3 : Pos} {K : PySem.W.Frag}
theorem DRs.snoc {H : Hp} {v : V} {d : PyData} : ∀ {vs : List V} {ds : List PyData}, DRs K H vs ds → DR K H v d → DRs K H (vs ++ [v]) (ds ++ [d])
  | _, _, .nil, r => .cons r .nil
  | _, _, .cons h t, r => .cons h (DRs.snoc t r)
end
end DL

namespace DL
variable {Z : Zx}
open PySem PySem.Spec PyProof.Rows L2
open Evl (Ex)

def jn {α : Type} (f : α → Prop) (k : α) : Prop := f k
def tAnd (b : Bool) (u : (Bool → Prop) → Prop) (K : Bool → Prop) : Prop := bIf b (u K) (K false)
def tOr (b : Bool) (u : (Bool → Prop) → Prop) (K : Bool → Prop) : Prop := bIf b (K true) (u K)
def vAnd (b : Bool) (u : (PyData → Prop) → Prop) (K : PyData → Prop) : Prop := bIf b (u K) (K (.bool false))
def vOr (b : Bool) (u : (PyData → Prop) → Prop) (K : PyData → Prop) : Prop := bIf b (K (.bool true)) (u K)
def vIf (b : Bool) (u v : (PyData → Prop) → Prop) (K : PyData → Prop) : Prop := bIf b (u K) (v K)
theorem at_env {t : DS} {E : DEnds} {a b : List SD} (e : a = b) (h : t E b) : t E a := e ▸ h
theorem cels1 {c : List PyData} {ds : List PyData} {i : Nat} {p : Bool} {xs : List PyData} (e : (SD.cel true c :: ds.map .dat)[i]? = some (.cel p xs)) : i < 1 := by
  cases i with
  | zero => exact Nat.zero_lt_one
  | succ i => exact absurd (by simpa using e) (no_cel (ds := ds) i p xs)
end DL

namespace DL
variable {Z : Zx}
open PySem PySem.Spec PyProof.Rows L2
open Evl (Ex)
section
variable {X : Cx} {a b e : Expr} {es : List Expr} {we wa wb : DE} {was : DA} {pos p p1 p2 p3 : Pos} {K : PySem.W.Frag} {m : Nat}
theorem DRs.flat {F : Hp} {vs : List V} {ds : List PyData} (r : DRs K F vs ds) : ∀ n : Nat, DRs K F (List.replicate n vs).flatten (List.replicate n ds).flatten
  | 0 => .nil
  | n + 1 => by
    rw [List.replicate_succ, List.replicate_succ, List.flatten_cons, List.flatten_cons]
    exact r.append (DRs.flat r n)
theorem tuple_mul1 (l : Addr) (items : Array Value) (n : Nat) (dd : Option Addr) (sl : Array (Option Value)) (u : Tok) :
    Meets (Builtin.«tuple.__mul__» ⟨[.ref l, .int 1 u], []⟩) (fun _ R s => s.heap.get? l = some { cls := .type "tuple", dict := dd, data := .seq items n, slots := sl } ∧ R (.ok (.ret (Value.ref l))) s) :=
  .of_wp fun prog w A R s h => by
    obtain ⟨hp, g, d, tk, os⟩ := s
    obtain ⟨hl, h⟩ := h
    have f1 := AutoSeq1.idx_int
    have c1 : (items.isEmpty || (1 : Int) == 1) = true := by simp
    wp_walk using wpAny_loadPart' hl
    repeat (first
      | (refine wpAny_ite_false (decide_eq_false (by decide)) ?_; wp_walk using wpAny_loadPart' hl)
      | (refine wpAny_ite_true (decide_eq_true c1) ?_; wp_walk using wpAny_loadPart' hl))
    exact ⟨_, rfl, h⟩
def rRepT1 (K : PySem.W.Frag) : R2 := fun x y H Q => ∃ l xs, x = .ref l ∧ y = .int 1 ∧ SqT K H l xs ∧ Q (.ref l) H
theorem op_repT1 {X : Cx} : OpR X (binaryOp .Mult) (rRepT1 X.K) := by
  intro pins s σ H x y v u Q I rx ry h
  obtain ⟨l, xs, rfl, rfl, hT, q⟩ := h
  cases rx
  obtain ⟨t, rfl⟩ := ry
  obtain ⟨its, r, ⟨⟨cls, dd, data, sl⟩, ho, hc, n, hd⟩, hs⟩ := I.tuple hT
  simp only at hc hd
  subst hc hd
  exact wpAny_binaryOp_repeat_ref (T := "tuple") (U := "int") (by decide) ⟨_, ho, rfl⟩ (fun s' => typeIs_int s' 1 t) noFill_tuple_mul F.fills_int_mul F.slot_int_rmul repeat_tuple F.slot_int_index.lookup
    (call_meets F.slot_int_rmul (typeIs_int s 1 t) F.entry_int_rmul (F.args_int_rmul_2 _ _) (int_rmul_tuple 1 t l its.toArray n dd sl)
      ⟨ho, rfl, ⟨_, ho, rfl⟩, call_meets F.slot_tuple_mul ⟨_, ho, rfl⟩ F.entry_tuple_mul (F.args_tuple_mul_2 _ _) (tuple_mul1 l its.toArray n dd sl t) ⟨ho, ⟨.ref l, H, I, rfl, q⟩⟩⟩)
def oMul (x y : PyData) (P : PyData → Prop) : Prop := match x, y with
  | .int i, .int j => (Sz i ∧ Sz j) ∧ P (.int (i * j))
  | .tuple xs, .int k => (xs ≠ [] ∧ 1 ≤ k ∧ k ≤ 1000 ∧ xs.length ≤ 1000) ∧ P (.tuple (List.replicate k.toNat xs).flatten)
  | _, _ => False
theorem opd_mul {r : R2} (h : OpD K r oMulI) : OpD K (fun x y H Q => r x y H Q ∨ (rRepT1 K x y H Q ∨ rRepZ K x y H Q)) oMul := by
  intro _ g F env σ H vx vy dx dy P Q k rx ry p q
  unfold oMul at p
  split at p
  · exact .inl (h _ g F env σ H vx vy _ _ P Q k rx ry p q)
  · rename_i xs n
    cases ry.inv_int
    obtain ⟨a, us, rfl, h1, h2⟩ := rx.inv_tup
    obtain ⟨⟨z1, z2, z3, z4⟩, p⟩ := p
    by_cases e1 : n = 1
    · subst e1
      have e : (List.replicate (Int.toNat 1) xs).flatten = xs := by
        show (List.replicate 1 xs).flatten = xs
        simp
      rw [e] at p
      exact .inr (.inl ⟨a, us, rfl, rfl, Evl.ex_t k.fh h1, q _ _ F H p (Ex.refl F) k rx⟩)
    refine .inr (.inr ⟨a, n, us, rfl, rfl, Evl.ex_t k.fh h1, fun e => z1 ?_, by omega, z3, by rw [h2.length]; exact z4, fun x o hx ho => ?_⟩)
    · subst e
      cases h2
      rfl
    · obtain ⟨e2, k2, r2⟩ := k.newTup hx ho (DRs.flat h2 n.toNat)
      exact q _ _ _ _ p e2 k2 r2
  · exact p.elim
theorem dmul (ha : PE X a (liftE X.K Z wa)) (hb : PE X b (liftE X.K Z wb)) : PE X (.BinOp a .Mult b pos) (liftE X.K Z (dOp oMul wa wb)) := dop (OpR.or op_mulW (OpR.or op_repT1 op_repZ)) (opd_mul (opd_I (fun _ _ h => by have h1 := h.1.log; have h2 := h.2.log; unfold CMulW; omega) fun _ _ _ => .int _)) ha hb
/-- xs[::-1] of a list, that stays -/
def oRev (x : PyData) (P : PyData → Prop) : Prop := lstQ x fun ds => P (.list ds.reverse)
end
end DL

namespace DL
variable {Z : Zx}
open PySem PySem.Spec PyProof.Rows L2
section
variable {P K : PyData → Prop} {a b c : Int} {x y : PyData} {xs ys : List PyData} {T : Bool → Prop}
theorem q_bT : bT (.bool t) T = T t := rfl
theorem q_add : oAdd (.int a) (.int b) P = P (.int (a + b)) := rfl
theorem q_addT : oAdd (.tuple xs) (.tuple ys) P = (xs.length + ys.length ≤ 100000 ∧ P (.tuple (xs ++ ys))) := rfl
theorem q_addL : oAdd (.list xs) (.list ys) P = (xs.length + ys.length ≤ 100000 ∧ P (.list (xs ++ ys))) := rfl
theorem q_addS {i j : Str} : oAdd (.str i) (.str j) P = (i.length + j.length ≤ 100000 ∧ P (.str (i ++ j))) := rfl
theorem q_sub : oSub (.int a) (.int b) P = P (.int (a - b)) := rfl
theorem q_mul : oMul (.int a) (.int b) P = ((Sz a ∧ Sz b) ∧ P (.int (a * b))) := rfl
theorem q_mulT : oMul (.tuple xs) (.int b) P = ((xs ≠ [] ∧ 1 ≤ b ∧ b ≤ 1000 ∧ xs.length ≤ 1000) ∧ P (.tuple (List.replicate b.toNat xs).flatten)) := rfl
theorem q_div : oDiv (.int a) (.int b) P = ((0 < b ∧ Sz b) ∧ P (.int (a / b))) := rfl
theorem q_mod : oMod (.int a) (.int b) P = (0 < b ∧ P (.int (a % b))) := rfl
theorem q_pow : oPow (.int a) (.int b) P = ((Sz a ∧ 0 ≤ b ∧ b ≤ 10000) ∧ P (.int (a ^ b.toNat))) := rfl
theorem q_neg : oNeg (.int a) P = P (.int (-a)) := rfl
theorem q_lt : oLt (.int a) (.int b) P = P (.bool (decide (a < b))) := rfl
theorem q_le : oLe (.int a) (.int b) P = P (.bool (decide (a ≤ b))) := rfl
theorem q_gt : oGt (.int a) (.int b) P = P (.bool (decide (b < a))) := rfl
theorem q_ge : oGe (.int a) (.int b) P = P (.bool (decide (b ≤ a))) := rfl
theorem q_oI {f : Int → Int → PyData} : oI f (.int a) (.int b) P = P (f a b) := rfl
theorem shaped_int : SeqAt.shaped (.int a) = true := by unfold SeqAt.shaped; rfl
theorem q_eq : oEq (.int a) (.int b) P = P (.bool (decide (a = b))) := by
  show ((SeqAt.shaped (.int a) = true ∧ SeqAt.shaped (.int b) = true) ∧ P (.bool (eqD (.int a) (.int b)))) = _
  rw [eqD_int]
  simp only [shaped_int, and_self, true_and]
theorem q_ne : oNe (.int a) (.int b) P = P (.bool (!decide (a = b))) := by
  show ((SeqAt.shaped (.int a) = true ∧ SeqAt.shaped (.int b) = true) ∧ P (.bool (!eqD (.int a) (.int b)))) = _
  rw [eqD_int]
  simp only [shaped_int, and_self, true_and]
theorem shaped_bool {t : Bool} : SeqAt.shaped (.bool t) = true := by unfold SeqAt.shaped; rfl
theorem eqD_bool {t u : Bool} : eqD (.bool t) (.bool u) = decide (t = u) := by
  rw [eqD_eq]
  cases t <;> cases u <;> simp [PyData.eqv]
theorem q_eqB {t u : Bool} : oEq (.bool t) (.bool u) P = P (.bool (decide (t = u))) := by
  show ((SeqAt.shaped (.bool t) = true ∧ SeqAt.shaped (.bool u) = true) ∧ P (.bool (eqD (.bool t) (.bool u)))) = _
  rw [eqD_bool]
  simp only [shaped_bool, and_self, true_and]
theorem q_neB {t u : Bool} : oNe (.bool t) (.bool u) P = P (.bool (!decide (t = u))) := by
  show ((SeqAt.shaped (.bool t) = true ∧ SeqAt.shaped (.bool u) = true) ∧ P (.bool (!eqD (.bool t) (.bool u)))) = _
  rw [eqD_bool]
  simp only [shaped_bool, and_self, true_and]
theorem q_eqS {i j : Str} : oEq (.str i) (.str j) P = P (.bool (decide (i = j))) := rfl
theorem q_neS {i j : Str} : oNe (.str i) (.str j) P = P (.bool (!decide (i = j))) := rfl
theorem q_isN : oIsN .none P = P (.bool true) := rfl
theorem q_isNi : oIsN (.int a) P = P (.bool false) := rfl
theorem q_isNt : oIsN (.tuple xs) P = P (.bool false) := rfl
theorem q_isNs {i : Str} : oIsN (.str i) P = P (.bool false) := rfl
theorem q_notN : oNotN .none P = P (.bool false) := rfl
theorem q_notNi : oNotN (.int a) P = P (.bool true) := rfl
theorem q_notNt : oNotN (.tuple xs) P = P (.bool true) := rfl
theorem q_ix : oIx (.tuple xs) (.int a) P = pick xs a P := rfl
theorem q_ixL : oIx (.list xs) (.int a) P = pick xs a P := rfl
theorem q_ixQ : ixQ xs (.int a) P = pick xs a P := rfl
theorem q_len : nLen [.list xs] P = P (.int (xs.length : Nat)) := rfl
theorem q_lenT : nLen [.tuple xs] P = P (.int (xs.length : Nat)) := rfl
theorem q_lenS {i : Str} : nLen [.str i] P = (i.length ≤ 100000 ∧ P (.int (i.length : Nat))) := rfl
theorem q_abs : nAbs [.int a] P = P (.int (if a < 0 then -a else a)) := rfl
theorem q_min : nMin2 [.int a, .int b] P = P (.int (if b < a then b else a)) := rfl
theorem q_max : nMax2 [.int a, .int b] P = P (.int (if b > a then b else a)) := rfl
theorem q_tupleOf : nTuple [.list xs] P = P (.tuple xs) := rfl
theorem q_tupleOfT : nTuple [.tuple xs] P = P (.tuple xs) := rfl
theorem q_int : nInt [.int a] P = P (.int a) := rfl
theorem q_intB {t : Bool} : nInt [.bool t] P = P (.int (if t then 1 else 0)) := rfl
theorem q_list {P : List PyData → Prop} : nList [.list xs] P = P xs := rfl
theorem q_listT {P : List PyData → Prop} : nList [.tuple xs] P = P xs := rfl
theorem q_tup {K : List PyData → Prop} : tupQ (.tuple xs) K = K xs := rfl
theorem q_cons {K : PyData → List PyData → Prop} : consQ (x :: xs) K = K x xs := rfl
theorem q_nil {p : Prop} : nilQ [] p = p := rfl
theorem q_so {K : Option Int → Prop} : soQ (.int a) K = K (some a) := rfl
theorem q_lst {K : List PyData → Prop} : lstQ (.list xs) K = K xs := rfl
theorem q_items {K : List PyData → Prop} : itemsQ (.list xs) K = K xs := At.eq
theorem q_itemsT {K : List PyData → Prop} : itemsQ (.tuple xs) K = K xs := At.eq
theorem q_slT {lo hi : Option Int} : oSl (.tuple xs) lo hi P = P (.tuple (DL.cutD xs lo hi)) := rfl
theorem q_slL {lo hi : Option Int} : oSl (.list xs) lo hi P = P (.list (DL.cutD xs lo hi)) := rfl
theorem q_rev : oRev (.list xs) P = P (.list xs.reverse) := rfl
theorem q_zip {K : List PyData → Prop} : zipQ [.list xs, .list ys] K = K (zipD xs ys) := At.eq
theorem q_zipT {K : List PyData → Prop} : zipQ [.tuple xs, .tuple ys] K = K (zipD xs ys) := At.eq
theorem q_rng1 {K : List PyData → Prop} : rng1 [.int a] K = ((-1000000 ≤ a ∧ a ≤ 1000000) ∧ K (rangeD 0 a.toNat)) := by
  show (_ ∧ At _ _) = _
  rw [At.eq]
theorem q_rng2 {K : List PyData → Prop} : rng2 [.int a, .int b] K = ((-1000000 ≤ a ∧ a ≤ 1000000 ∧ -1000000 ≤ b ∧ b ≤ 1000000) ∧ K (rangeD a (b - a).toNat)) := by
  show (_ ∧ At _ _) = _
  rw [At.eq]
theorem q_all : nAll [.list xs] P = (match boolsD xs with | some bs => P (.bool (bs.all id)) | none => False) := rfl
theorem q_any : nAny [.list xs] P = (match boolsD xs with | some bs => P (.bool (bs.any id)) | none => False) := rfl
theorem q_sum : nSum [.list xs] P = (match intsD xs with | some bs => P (.int bs.sum) | none => False) := rfl
theorem q_sumT : nSum [.tuple xs] P = (match intsD xs with | some bs => P (.int bs.sum) | none => False) := rfl
theorem q_ap {K : List PyData → Prop} : apQ xs x K = (xs.length < 100000 ∧ K (xs ++ [x])) := rfl
theorem bools_map (ds : List PyData) (f : PyData → Bool) : boolsD (ds.map fun d => .bool (f d)) = some (ds.map f) := by
  induction ds with
  | nil => rfl
  | cons d ds ih => simp [boolsD, ih]
theorem ints_map (ns : List Int) : intsD (ns.map .int) = some ns := by
  induction ns with
  | nil => rfl
  | cons d ds ih => simp [intsD, ih]
theorem q_sumI {ns : List Int} : nSum [.list (ns.map .int)] P = P (.int ns.sum) := by rw [q_sum, ints_map]
theorem q_sumTI {ns : List Int} : nSum [.tuple (ns.map .int)] P = P (.int ns.sum) := by rw [q_sumT, ints_map]
theorem q_allB {ds : List PyData} {f : PyData → Bool} : nAll [.list (ds.map fun d => .bool (f d))] P = P (.bool (ds.all f)) := by
  rw [q_all, bools_map]
  simp only [List.all_map]
  rfl
theorem q_anyB {ds : List PyData} {f : PyData → Bool} : nAny [.list (ds.map fun d => .bool (f d))] P = P (.bool (ds.any f)) := by
  rw [q_any, bools_map]
  simp only [List.any_map]
  rfl
theorem cut1 {a : PyData} {l : List PyData} : DL.cutD (a :: l) (some 1) none = l := by
  unfold DL.cutD HT.sIx
  simp
theorem cut_len {xs : List PyData} {lo hi : Option Int} : (DL.cutD xs lo hi).length ≤ xs.length := by
  unfold DL.cutD
  rw [List.length_take, List.length_drop]
  omega
section
variable {S : Prop} {t : Bool} {u : (Bool → Prop) → Prop} {v : (PyData → Prop) → Prop} {K : Bool → Prop} {L : PyData → Prop}
theorem q_same {I S : Type} {i : I} {N : S → Prop} {s : S} : same i N i s = N s := propext ⟨fun h => h.2, fun h => ⟨rfl, h⟩⟩
theorem q_jn {α : Type} {f : α → Prop} {k : α} : jn f k = f k := rfl
theorem q_tAnd_k {b c : Bool} {K : Bool → Prop} : tAnd b (fun k => k c) K = K (b && c) := by cases b <;> rfl
theorem q_tOr_k {b c : Bool} {K : Bool → Prop} : tOr b (fun k => k c) K = K (b || c) := by cases b <;> rfl
theorem q_vAnd_k {b c : Bool} : vAnd b (fun k => k (.bool c)) L = L (.bool (b && c)) := by cases b <;> rfl
theorem q_vOr_k {b c : Bool} : vOr b (fun k => k (.bool c)) L = L (.bool (b || c)) := by cases b <;> rfl
theorem q_tAnd_s {b c : Bool} {K : Bool → Prop} {S : Prop} : tAnd b (fun k => S ∧ k c) K = ((b = true → S) ∧ K (b && c)) := by
  cases b
  · simp only [Bool.false_eq_true, false_imp_iff, true_and]; rfl
  · simp only [true_imp_iff, Bool.true_and]; rfl
theorem q_tOr_s {b c : Bool} {K : Bool → Prop} {S : Prop} : tOr b (fun k => S ∧ k c) K = ((b = false → S) ∧ K (b || c)) := by
  cases b
  · simp only [true_imp_iff, Bool.false_or]; rfl
  · simp only [Bool.true_eq_false, false_imp_iff, true_and]; rfl
theorem q_vAnd_s {b c : Bool} {S : Prop} : vAnd b (fun k => S ∧ k (.bool c)) L = ((b = true → S) ∧ L (.bool (b && c))) := by
  cases b
  · simp only [Bool.false_eq_true, false_imp_iff, true_and]; rfl
  · simp only [true_imp_iff, Bool.true_and]; rfl
theorem q_vOr_s {b c : Bool} {S : Prop} : vOr b (fun k => S ∧ k (.bool c)) L = ((b = false → S) ∧ L (.bool (b || c))) := by
  cases b
  · simp only [true_imp_iff, Bool.false_or]; rfl
  · simp only [Bool.true_eq_false, false_imp_iff, true_and]; rfl
theorem q_vIf_k {b : Bool} {x y : PyData} : vIf b (fun k => k x) (fun k => k y) L = L (if b then x else y) := by cases b <;> rfl
theorem q_tAnd_t {K : Bool → Prop} : tAnd true u K = u K := rfl
theorem q_tAnd_f {K : Bool → Prop} : tAnd false u K = K false := rfl
theorem q_tOr_t {K : Bool → Prop} : tOr true u K = K true := rfl
theorem q_tOr_f {K : Bool → Prop} : tOr false u K = u K := rfl
theorem q_vAnd_t : vAnd true v L = v L := rfl
theorem q_vAnd_f : vAnd false v L = L (.bool false) := rfl
theorem q_vOr_t : vOr true v L = L (.bool true) := rfl
theorem q_vOr_f : vOr false v L = v L := rfl
theorem q_vIf_t {v' : (PyData → Prop) → Prop} : vIf true v v' L = v L := rfl
theorem q_vIf_f {v' : (PyData → Prop) → Prop} : vIf false v v' L = v' L := rfl
theorem bIf_of {b : Bool} {p q : Prop} (h1 : b = true → p) (h2 : b = false → q) : bIf b p q := by
  cases b
  · exact h2 rfl
  · exact h1 rfl
theorem bIf_d {c : Prop} [Decidable c] {p q : Prop} (h1 : c → p) (h2 : ¬ c → q) : bIf (decide c) p q := by
  by_cases h : c
  · rw [decide_eq_true h]; exact h1 h
  · rw [decide_eq_false h]; exact h2 h
end
theorem pick_lit {xs : List PyData} (n : Nat) {d : PyData} (e : xs[n]? = some d) : pick xs (n : Int) P = P d := pick_eq (by
  unfold atI
  rw [ixN_in (by omega) (by have := (List.getElem?_eq_some_iff.mp e).1; omega)]
  exact e)
theorem at0 {a : PyData} {l : List PyData} : pick (a :: l) 0 P = P a := pick_lit 0 rfl
theorem at1 {a b : PyData} {l : List PyData} : pick (a :: b :: l) 1 P = P b := pick_lit 1 rfl
theorem at2 {a b c : PyData} {l : List PyData} : pick (a :: b :: c :: l) 2 P = P c := pick_lit 2 rfl
theorem at3 {a b c d : PyData} {l : List PyData} : pick (a :: b :: c :: d :: l) 3 P = P d := pick_lit 3 rfl
theorem at4 {a b c d e : PyData} {l : List PyData} : pick (a :: b :: c :: d :: e :: l) 4 P = P e := pick_lit 4 rfl
theorem at5 {a b c d e f : PyData} {l : List PyData} : pick (a :: b :: c :: d :: e :: f :: l) 5 P = P f := pick_lit 5 rfl
theorem at6 {a b c d e f g : PyData} {l : List PyData} : pick (a :: b :: c :: d :: e :: f :: g :: l) 6 P = P g := pick_lit 6 rfl
theorem atLast {xs : List PyData} {d : PyData} : pick (xs ++ [d]) (-1) P = P d := pick_eq (by
  unfold atI ixN
  rw [if_neg (by decide), if_pos (by simp; omega)]
  show (xs ++ [d])[((-1 : Int) + ((xs ++ [d]).length : Nat)).toNat]? = some d
  rw [show ((-1 : Int) + ((xs ++ [d]).length : Nat)).toNat = xs.length by simp; omega]
  simp)
/-- any item -/
theorem pick_mem {xs : List PyData} {k : Int} (h0 : 0 ≤ k) (h1 : k < xs.length) (h : ∀ d ∈ xs, P d) : pick xs k P := at_of h0 h1 h
theorem st0 {x a : PyData} {r : List PyData} {K : List PyData → Prop} : stQ (a :: r) (.int 0) x K = K (x :: r) := by
  show (match ixN (a :: r).length 0 with | some j => K ((a :: r).set j x) | none => False) = _
  rw [ixN_in (by decide) (by simp)]
  rfl
theorem st1 {x a b : PyData} {r : List PyData} {K : List PyData → Prop} : stQ (a :: b :: r) (.int 1) x K = K (a :: x :: r) := by
  show (match ixN (a :: b :: r).length 1 with | some j => K ((a :: b :: r).set j x) | none => False) = _
  rw [ixN_in (by decide) (by simp; omega)]
  rfl
theorem st2 {x a b c : PyData} {r : List PyData} {K : List PyData → Prop} : stQ (a :: b :: c :: r) (.int 2) x K = K (a :: b :: x :: r) := by
  show (match ixN (a :: b :: c :: r).length 2 with | some j => K ((a :: b :: c :: r).set j x) | none => False) = _
  rw [ixN_in (by decide) (by simp; omega)]
  rfl
theorem st3 {x a b c d : PyData} {r : List PyData} {K : List PyData → Prop} : stQ (a :: b :: c :: d :: r) (.int 3) x K = K (a :: b :: c :: x :: r) := by
  show (match ixN (a :: b :: c :: d :: r).length 3 with | some j => K ((a :: b :: c :: d :: r).set j x) | none => False) = _
  rw [ixN_in (by decide) (by simp; omega)]
  rfl
theorem st4 {x a b c d e : PyData} {r : List PyData} {K : List PyData → Prop} : stQ (a :: b :: c :: d :: e :: r) (.int 4) x K = K (a :: b :: c :: d :: x :: r) := by
  show (match ixN (a :: b :: c :: d :: e :: r).length 4 with | some j => K ((a :: b :: c :: d :: e :: r).set j x) | none => False) = _
  rw [ixN_in (by decide) (by simp; omega)]
  rfl
theorem st_in {x : PyData} {k : Int} {K : List PyData → Prop} (h0 : 0 ≤ k) (h1 : k < xs.length) (h : K (xs.set k.toNat x)) : stQ xs (.int k) x K := by
  show (match ixN xs.length k with | some j => K (xs.set j x) | none => False)
  rw [ixN_in h0 h1]
  exact h
end
theorem isi_non_int : isiB .none "int" = false := rfl
theorem isi_non_bool : isiB .none "bool" = false := rfl
theorem isi_non_str : isiB .none "str" = false := rfl
theorem isi_non_list : isiB .none "list" = false := rfl
theorem isi_non_tuple : isiB .none "tuple" = false := rfl
theorem isi_non_dict : isiB .none "dict" = false := rfl
theorem isi_bl_int {t : Bool} : isiB (.bool t) "int" = true := rfl
theorem isi_bl_bool {t : Bool} : isiB (.bool t) "bool" = true := rfl
theorem isi_bl_str {t : Bool} : isiB (.bool t) "str" = false := rfl
theorem isi_bl_list {t : Bool} : isiB (.bool t) "list" = false := rfl
theorem isi_bl_tuple {t : Bool} : isiB (.bool t) "tuple" = false := rfl
theorem isi_bl_dict {t : Bool} : isiB (.bool t) "dict" = false := rfl
theorem isi_int_int {a : Int} : isiB (.int a) "int" = true := rfl
theorem isi_int_bool {a : Int} : isiB (.int a) "bool" = false := rfl
theorem isi_int_str {a : Int} : isiB (.int a) "str" = false := rfl
theorem isi_int_list {a : Int} : isiB (.int a) "list" = false := rfl
theorem isi_int_tuple {a : Int} : isiB (.int a) "tuple" = false := rfl
theorem isi_int_dict {a : Int} : isiB (.int a) "dict" = false := rfl
theorem isi_str_int {x : Str} : isiB (.str x) "int" = false := rfl
theorem isi_str_bool {x : Str} : isiB (.str x) "bool" = false := rfl
theorem isi_str_str {x : Str} : isiB (.str x) "str" = true := rfl
theorem isi_str_list {x : Str} : isiB (.str x) "list" = false := rfl
theorem isi_str_tuple {x : Str} : isiB (.str x) "tuple" = false := rfl
theorem isi_str_dict {x : Str} : isiB (.str x) "dict" = false := rfl
theorem isi_lst_int {xs : List PyData} : isiB (.list xs) "int" = false := rfl
theorem isi_lst_bool {xs : List PyData} : isiB (.list xs) "bool" = false := rfl
theorem isi_lst_str {xs : List PyData} : isiB (.list xs) "str" = false := rfl
theorem isi_lst_list {xs : List PyData} : isiB (.list xs) "list" = true := rfl
theorem isi_lst_tuple {xs : List PyData} : isiB (.list xs) "tuple" = false := rfl
theorem isi_lst_dict {xs : List PyData} : isiB (.list xs) "dict" = false := rfl
theorem isi_tup_int {xs : List PyData} : isiB (.tuple xs) "int" = false := rfl
theorem isi_tup_bool {xs : List PyData} : isiB (.tuple xs) "bool" = false := rfl
theorem isi_tup_str {xs : List PyData} : isiB (.tuple xs) "str" = false := rfl
theorem isi_tup_list {xs : List PyData} : isiB (.tuple xs) "list" = false := rfl
theorem isi_tup_tuple {xs : List PyData} : isiB (.tuple xs) "tuple" = true := rfl
theorem isi_tup_dict {xs : List PyData} : isiB (.tuple xs) "dict" = false := rfl
theorem isi_dct_int : isiB (.dict []) "int" = false := rfl
theorem isi_dct_bool : isiB (.dict []) "bool" = false := rfl
theorem isi_dct_str : isiB (.dict []) "str" = false := rfl
theorem isi_dct_list : isiB (.dict []) "list" = false := rfl
theorem isi_dct_tuple : isiB (.dict []) "tuple" = false := rfl
theorem isi_dct_dict : isiB (.dict []) "dict" = true := rfl
end DL

namespace DL
variable {Z : Zx}
open PySem PySem.Spec PyProof.Rows L2
open Evl (Ex)
section
variable {X : Cx} {a b e : Expr} {es : List Expr} {we wa wb : DE} {was : DA} {pos p p1 p2 p3 p0 : Pos} {K : PySem.W.Frag} {m : Nat}
def rEmp (K : PySem.W.Frag) (n : Bool) : R2 := fun x y H Q => ∃ a b xs, x = .ref a ∧ y = .ref b ∧ ((SqL K H a xs ∧ SqL K H b []) ∨ (SqT K H a xs ∧ SqT K H b [])) ∧ Q (.bl (xs.isEmpty != n)) H
theorem op_empN (hu : X.A.units + 64 < cLine) : OpR X (compareOp .NotEq) (rEmp X.K true) := by
  intro pins s σ H x y v u Q I rx ry h
  obtain ⟨a, b, xs, rfl, rfl, h, q⟩ := h
  cases rx
  cases ry
  have hu2 : X.A.units < cLine := by omega
  rcases h with ⟨h1, h2⟩ | ⟨h1, h2⟩
  · obtain ⟨its, r1, t1, _⟩ := I.list h1
    obtain ⟨its2, r2, t2, _⟩ := I.list h2
    cases r2
    cases r1 with
    | nil => exact SeqAt.RcNeAt.lists (e := fun _ => true) t1.isList t2.isList rfl hu2 (fun j h1 => absurd h1 (by simp)) _ _ _ _ ⟨.bl false, H, I, rfl, q⟩
    | cons _ _ => exact SeqAt.RcNeAt.lists_lengths t1.isList t2.isList (by simp) hu2 _ _ _ _ ⟨.bl true, H, I, rfl, q⟩
  · obtain ⟨its, r1, t1, _⟩ := I.tuple h1
    obtain ⟨its2, r2, t2, _⟩ := I.tuple h2
    cases r2
    refine SeqAt.RcNeAt.tuples (e := fun _ => true) t1 t2 hu2 (fun j h1 h2 => absurd h2 (by simp)) _ _ _ _ ?_
    cases r1 with
    | nil => exact ⟨.bl false, H, I, rfl, q⟩
    | cons _ _ => exact ⟨.bl true, H, I, rfl, q⟩
/-- x == [] of a list, x == () of a tuple -/
def oEmp (n : Bool) (x y : PyData) (P : PyData → Prop) : Prop := match x, y with
  | .list xs, .list [] => P (.bool (xs.isEmpty != n))
  | .tuple xs, .tuple [] => P (.bool (xs.isEmpty != n))
  | _, _ => False
theorem drs_empty {F : Hp} {vs : List V} {ds : List PyData} (r : DRs K F vs ds) : vs.isEmpty = ds.isEmpty := by cases r <;> rfl
theorem q_empL {n : Bool} {xs : List PyData} {P : PyData → Prop} : oEmp n (.list xs) (.list []) P = P (.bool (xs.isEmpty != n)) := rfl
theorem q_empT {n : Bool} {xs : List PyData} {P : PyData → Prop} : oEmp n (.tuple xs) (.tuple []) P = P (.bool (xs.isEmpty != n)) := rfl
/-- x == [] of a name's own cell -/
def dEmpC (n : Bool) (i : Nat) (env : List SD) (P : PyData → List SD → Prop) : Prop := match env[i]? with
  | some (.cel _ xs) => P (.bool (xs.isEmpty != n)) env
  | _ => False
theorem lift_empC {n : Bool} {i : Nat} {σ : L2.St} {H : Hp} {Q : VK} (h : liftE K Z (dEmpC n i) σ H Q) : tOp (rEmp K n) (tVar i) (tLst tNil) σ H Q := by
  obtain ⟨g, F, env, P, k, w, q⟩ := h
  unfold dEmpC at w
  split at w
  · rename_i p xs e
    obtain ⟨a0, vs, h1, h2, h3, h4, h5⟩ := k.cel i p xs e
    refine ⟨_, h1, Nat.zero_le _, fun p hp => ?_⟩
    have ne : a0 ≠ p := ne_of_none h3 hp
    refine ⟨a0, p, vs, rfl, rfl, .inl ⟨SqL.of (by rw [upd_ne ne]; exact h3), SqL.of upd_same⟩, ?_⟩
    rw [drs_empty h4]
    exact q _ env _ _ _ w (Ex.refl F) (k.extra hp) (.bl _)
  · exact w.elim
variable {x : Str}
theorem tempCn (i : Nat) {pl : Pos} (hu : X.A.units + 64 < cLine) (hN : X.N[i]? = some x := by rfl) (hv : Vis X.env.scope x := by first | exact Or.inl rfl | exact Or.inr (Or.inl rfl) | exact Or.inr (Or.inr rfl)) (hd : (x == ("__debug__" : Str)) = false := by decide)
    (hcd : (x == ("__classdict__" : Str)) = false := by decide) : PT X (.Compare (.Name x p0) [.NotEq] [.List [] pl] pos) (liftT X.K Z (dTest (dEmpC true i))) := PT.of (pt_cmpR (op_empN hu) (pe_var hN hv hd hcd) (pe_lst pa_nil) (nomark _)) fun _ _ _ h => lift_test (fun _ _ _ h => lift_empC h) h
def oIsB (n t : Bool) (x : PyData) (P : PyData → Prop) : Prop := match x with
  | .bool b => P (.bool (decide (b = t) != n))
  | _ => False
theorem q_isB {n t b : Bool} {P : PyData → Prop} : oIsB n t (.bool b) P = P (.bool (decide (b = t) != n)) := rfl
theorem ddict0 : PE X (.Dict [] [] pos) (liftE X.K Z (dC (.dict []))) := PE.of pe_dnewK fun σ H Q ⟨g, F, env, P, k, w, q⟩ => fun p hp =>
  q _ env _ (upd F p (.dK [])) _ w (Ex.new (fnone k.fh hp)) (k.alloc hp) (.dct upd_same)
end

section
variable {prog : Program} {w : World} {A : Around} {E : Value → Shared → Prop} {s : Shared}
end
end DL

namespace DL
variable {Z : Zx}
open PySem PySem.Spec PyProof.Rows L2
open Evl (Ex)
section
variable {X : Cx} {a b e : Expr} {es : List Expr} {we wa wb : DE} {was : DA} {pos p p1 p2 p3 p0 : Pos} {K : PySem.W.Frag} {m : Nat}
def oRevA (x : PyData) (P : PyData → Prop) : Prop := match x with
  | .list ds => P (.list ds.reverse)
  | .tuple ds => P (.tuple ds.reverse)
  | _ => False
theorem q_revL {ds : List PyData} {P : PyData → Prop} : oRevA (.list ds) P = P (.list ds.reverse) := rfl
theorem q_revT {ds : List PyData} {P : PyData → Prop} : oRevA (.tuple ds) P = P (.tuple ds.reverse) := rfl
end
end DL

namespace DL
variable {Z : Zx}
open PySem PySem.Spec PyProof.Rows L2
open Evl (Ex)
section
variable {X : Cx} {a b e : Expr} {es : List Expr} {we wa wb : DE} {was : DA} {pos p p1 p2 p3 p0 : Pos} {K : PySem.W.Frag} {m : Nat}
/-- [e] * n, a new cell -/
def repQ (x y : PyData) (K : List PyData → Prop) : Prop := match y with
  | .int k => (-1000000 ≤ k ∧ k ≤ 100000) ∧ K (List.replicate k.toNat x)
  | _ => False
theorem q_rep {x : PyData} {k : Int} {K : List PyData → Prop} : repQ x (.int k) K = ((-1000000 ≤ k ∧ k ≤ 100000) ∧ K (List.replicate k.toNat x)) := rfl
def dRep (wa wb : DE) (env : List SD) (P : SD → List SD → Prop) : Prop := wa env fun x env1 => wb env1 fun y env2 => repQ x y fun xs => P (.cel false xs) env2
theorem rep_flat {α : Type} (x : α) : ∀ n : Nat, (List.replicate n [x]).flatten = List.replicate n x
  | 0 => rfl
  | n + 1 => by rw [List.replicate_succ, List.flatten_cons, rep_flat x n, List.replicate_succ]; rfl
theorem DRs.rep {F : Hp} {v : V} {d : PyData} (r : DR K F v d) : ∀ n : Nat, DRs K F (List.replicate n v) (List.replicate n d)
  | 0 => .nil
  | n + 1 => by rw [List.replicate_succ, List.replicate_succ]; exact .cons r (DRs.rep r n)
theorem drep {lp : Pos} (ha : PE X a (liftE X.K Z wa)) (hb : PE X b (liftE X.K Z wb)) (hs : starEach [a] X.env = (false, eval a X.env) :: starEach [] X.env := by rfl) : PE X (.BinOp (.List [a] lp) .Mult b pos) (liftX X.K Z (dRep wa wb)) :=
  PE.of (pe_op op_rep (pe_lst (pa_cons ha pa_nil hs)) hb) fun σ H Q ⟨g, F, env, P, k, w, q⟩ =>
    ⟨g, F, env, _, k, w, fun x env1 v F1 H1 p1 e1 k1 r1 => ⟨by show 1 ≤ sizeLine; decide, fun D hD => by
      obtain ⟨k2, rc⟩ := k1.newCell hD (DRs.one r1)
      obtain ⟨D', vs, eD, hF, hH, rr, h0, hpr, nw⟩ := rc
      cases eD
      refine ⟨_, F1, env1, _, k2.hide hF hH nw hpr, p1, fun y env2 v2 F2 H2 p2 e2 k3 r2 => ?_⟩
      obtain ⟨n, rfl, ⟨h1, h2⟩, p2⟩ : ∃ n, y = .int n ∧ (-1000000 ≤ n ∧ n ≤ 100000) ∧ P (.cel false (List.replicate n.toNat x)) env2 := by
        cases y <;> first | exact ⟨_, rfl, p2⟩ | exact p2.elim
      cases r2.inv_int
      obtain ⟨k4, z1, z2, z3⟩ := Ok.bare hpr k3
      have hvs : vs = [v] := by
        rw [upd_same] at hH
        cases hH
        rfl
      subst hvs
      refine ⟨D, n, [v], rfl, rfl, z2, by omega, by omega, ?_, fun p hp => ?_⟩
      · show 1 * n.toNat ≤ sizeLine
        exact Evl.sz_of (by omega)
      · rw [rep_flat]
        obtain ⟨k5, r5⟩ := k4.newCell hp (DRs.rep (r1.mono e2) n.toNat)
        exact q _ env2 _ _ _ p2 (e1.trans e2) k5 r5⟩⟩
end
theorem Dn.imp {P : Program} {w : World} {K : PySem.W.Frag} {mg : Str → Option Value} {base : Heap} {x : Str} {k : Nat} {ps : List Str} {S S' : DSp} (D : Dn P w K mg base x k ps S) (h : ∀ as Q, S' as Q → S as Q) : Dn P w K mg base x k ps S' :=
  ⟨let ⟨fd, F, b⟩ := D.ex; ⟨fd, F.imp h, b⟩, D.glo, D.kp⟩
theorem FnG.never {P : Program} {w : World} {K : PySem.W.Frag} {mg : Str → Option Value} {base : Heap} {k : Nat} {f : Addr} {fd : FuncData} {ps : List Str} {S : DSp} (h : ∀ as Q, ¬ S as Q) : FnG P w K mg base k f fd ps S :=
  ⟨fun as Q q => absurd q (h as Q), fun _ _ _ _ _ _ _ _ _ _ _ _ _ ⟨_, as, _, _, q, _⟩ => absurd q (h as _)⟩
end DL

namespace DL
variable {Z : Zx}
open PySem PySem.Spec PyProof.Rows L2
open Evl (Ex)
section
variable {X : Cx} {a b e : Expr} {wa wb : DE} {pos : Pos} {K : PySem.W.Frag}
theorem op_fdivA : OpR X (binaryOp .FloorDiv) (rI (fun _ j => j ≠ 0 ∧ j.natAbs.log2 < 9000) fun i j => .int (i.fdiv j)) := opI fun i j _ _ _ _ _ hc q => floordiv_int hc.1 q (.inl (PyProof.noPylong_of_log2 hc.2))
abbrev oFd : D2 := oIc (fun _ j => j ≠ 0 ∧ Sz j) fun i j => .int (i.fdiv j)
theorem q_fd {i j : Int} {P : PyData → Prop} : oFd (.int i) (.int j) P = ((j ≠ 0 ∧ Sz j) ∧ P (.int (i.fdiv j))) := rfl
theorem dfd (ha : PE X a (liftE X.K Z wa)) (hb : PE X b (liftE X.K Z wb)) : PE X (.BinOp a .FloorDiv b pos) (liftE X.K Z (dOp oFd wa wb)) :=
  dop op_fdivA (opd_I (fun _ _ h => ⟨h.1, Nat.lt_trans h.2.log (by decide)⟩) fun _ _ _ => .int _) ha hb
end
end DL

namespace DL
variable {Z : Zx}
open PySem PySem.Spec PyProof.Rows L2
open Evl (Ex)
section
variable {X : Cx} {a b e : Expr} {es : List Expr} {pos p : Pos} {was : DA} {wa wb we : DE} {K : PySem.W.Frag}
def max3 (i j k : Int) : Int := max (max i j) k
def min3 (i j k : Int) : Int := min (min i j) k
def nMax3 (xs : List PyData) (P : PyData → Prop) : Prop := match xs with
  | [.int i, .int j, .int k] => P (.int (max3 i j k))
  | _ => False
def nMin3 (xs : List PyData) (P : PyData → Prop) : Prop := match xs with
  | [.int i, .int j, .int k] => P (.int (min3 i j k))
  | _ => False
theorem q_max3 {i j k : Int} {P : PyData → Prop} : nMax3 [.int i, .int j, .int k] P = P (.int (max3 i j k)) := rfl
theorem q_min3 {i j k : Int} {P : PyData → Prop} : nMin3 [.int i, .int j, .int k] P = P (.int (min3 i j k)) := rfl
theorem DRs.inv3 {F : Hp} {vs : List V} {d e f : PyData} (h : DRs K F vs [d, e, f]) : ∃ v w u, vs = [v, w, u] ∧ DR K F v d ∧ DR K F w e ∧ DR K F u f := by
  cases h with
  | cons a b =>
    obtain ⟨w, u, rfl, r⟩ := b.inv2
    exact ⟨_, w, u, rfl, a, r⟩
theorem nuMax2_int (i j : Int) : nuMax2 (.int i) (.int j) = some (.int (max i j)) := by
  show some (if decide (i < j) = true then V.int j else V.int i) = some (V.int (max i j))
  by_cases h : i < j
  · rw [if_pos (by simpa using h), Int.max_eq_right (by omega)]
  · rw [if_neg (by simpa using h), Int.max_eq_left (by omega)]
theorem nuMin2_int (i j : Int) : nuMin2 (.int i) (.int j) = some (.int (min i j)) := by
  show some (if decide (j < i) = true then V.int j else V.int i) = some (V.int (min i j))
  by_cases h : j < i
  · rw [if_pos (by simpa using h), Int.min_eq_right (by omega)]
  · rw [if_neg (by simpa using h), Int.min_eq_left (by omega)]
theorem nuMax3_int (i j k : Int) : nuMax3 (.int i) (.int j) (.int k) = some (.int (max3 i j k)) := by
  unfold nuMax3 max3
  rw [nuMax2_int]
  exact nuMax2_int _ _
theorem nuMin3_int (i j k : Int) : nuMin3 (.int i) (.int j) (.int k) = some (.int (min3 i j k)) := by
  unfold nuMin3 min3
  rw [nuMin2_int]
  exact nuMin2_int _ _
theorem dmax3 (hm : X.mg "max" = none) (hc : X.calm = true) (ha : PA X (e :: es) (liftA X.K Z was)) (hg : Gl X "max" := by rfl)
    (he : starEach (e :: es) X.env = (false, eval e X.env) :: starEach es X.env := by rfl) (hpl : (backTo pos (starEach es X.env)).any (·.1) = false := by rfl) : PE X (.Call (.Name "max" p) (e :: es) [] pos) (liftE X.K Z (dB nMax3 was)) :=
  dcb (call_max3Nu hc) (fun _ g F env σ H vs ds P Q k r f q => by
    unfold nMax3 at f
    split at f
    · obtain ⟨v, w, u, rfl, r1, r2, r3⟩ := r.inv3
      cases r1.inv_int
      cases r2.inv_int
      cases r3.inv_int
      exact ⟨_, _, _, _, rfl, nuMax3_int _ _ _, q _ _ F H f (Ex.refl F) k (.int _)⟩
    · exact f.elim) hm (by decide +kernel) ha hg (by decide) (by decide) he hpl
theorem dmin3 (hm : X.mg "min" = none) (hc : X.calm = true) (ha : PA X (e :: es) (liftA X.K Z was)) (hg : Gl X "min" := by rfl)
    (he : starEach (e :: es) X.env = (false, eval e X.env) :: starEach es X.env := by rfl) (hpl : (backTo pos (starEach es X.env)).any (·.1) = false := by rfl) : PE X (.Call (.Name "min" p) (e :: es) [] pos) (liftE X.K Z (dB nMin3 was)) :=
  dcb (call_min3Nu hc) (fun _ g F env σ H vs ds P Q k r f q => by
    unfold nMin3 at f
    split at f
    · obtain ⟨v, w, u, rfl, r1, r2, r3⟩ := r.inv3
      cases r1.inv_int
      cases r2.inv_int
      cases r3.inv_int
      exact ⟨_, _, _, _, rfl, nuMin3_int _ _ _, q _ _ F H f (Ex.refl F) k (.int _)⟩
    · exact f.elim) hm (by decide +kernel) ha hg (by decide) (by decide) he hpl
/-- the figures of a whole number -/
@[irreducible] def shInt (i : Int) : Str := toString i
def nStr (xs : List PyData) (P : PyData → Prop) : Prop := match xs with
  | [.int i] => i.natAbs < 10 ^ 250 ∧ P (.str (shInt i))
  | _ => False
theorem q_str {i : Int} {P : PyData → Prop} : nStr [.int i] P = (i.natAbs < 10 ^ 250 ∧ P (.str (shInt i))) := rfl
def catQ (xs : List PyData) (y : PyData) (K : List PyData → Prop) : Prop := match y with
  | .list ys => xs.length + ys.length ≤ 100000 ∧ K (xs ++ ys)
  | _ => False
theorem q_cat {xs ys : List PyData} {K : List PyData → Prop} : catQ xs (.list ys) K = (xs.length + ys.length ≤ 100000 ∧ K (xs ++ ys)) := rfl
theorem catQ_inv {xs : List PyData} {y : PyData} {K : List PyData → Prop} (h : catQ xs y K) : ∃ ys, y = .list ys ∧ xs.length + ys.length ≤ 100000 ∧ K (xs ++ ys) := by
  cases y <;> first | exact ⟨_, rfl, h⟩ | exact h.elim
def dCatN (wa wb : DE) (env : List SD) (P : SD → List SD → Prop) : Prop := wa env fun x env1 => wb env1 fun y env2 => match x with
  | .list xs => catQ xs y fun zs => P (.cel false zs) env2
  | _ => False
/-- a list, as a row of items -/
def catN (x y : PyData) (K : List PyData → Prop) : Prop := match x with
  | .list xs => catQ xs y K
  | _ => False
theorem q_catN {xs ys : List PyData} {K : List PyData → Prop} : catN (.list xs) (.list ys) K = (xs.length + ys.length ≤ 100000 ∧ K (xs ++ ys)) := rfl
theorem dcatN (ha : PE X a (liftE X.K Z wa)) (hb : PE X b (liftE X.K Z wb)) : PE X (.BinOp a .Add b pos) (liftX X.K Z (dCatN wa wb)) :=
  PE.of (pe_op op_catL ha hb) fun σ H Q ⟨g, F, env, P, k, w, q⟩ => ⟨g, F, env, _, k, w, fun x env1 v F1 H1 p1 e1 k1 r1 => ⟨g, F1, env1, _, k1, p1, fun y env2 v2 F2 H2 p2 e2 k2 r2 => by
    split at p2
    · obtain ⟨zs, rfl, hz, p2⟩ := catQ_inv p2
      obtain ⟨a1, us, rfl, y1, y2⟩ := r1.inv_lst
      obtain ⟨b1, ws, rfl, y3, y4⟩ := r2.inv_lst
      refine ⟨a1, b1, us, ws, rfl, rfl, y1.mono (e2.trans k2.fh), y3.mono k2.fh, by rw [y2.length, y4.length]; exact sz2 hz, fun p hp => ?_⟩
      obtain ⟨k3, r3⟩ := k2.newCell hp ((y2.mono e2).append y4)
      exact q _ env2 _ _ _ p2 (e1.trans e2) k3 r3
    · exact p2.elim⟩⟩
def scalQ (d : PyData) (p : Prop) : Prop := match d with
  | .none => p
  | .bool _ => p
  | .int _ => p
  | .str _ => p
  | _ => False
theorem q_scalN {p : Prop} : scalQ .none p = p := rfl
theorem q_scalB {b : Bool} {p : Prop} : scalQ (.bool b) p = p := rfl
theorem q_scalI {i : Int} {p : Prop} : scalQ (.int i) p = p := rfl
theorem q_scalS {x : Str} {p : Prop} : scalQ (.str x) p = p := rfl
def frz1 : SD → SD
  | .cel _ xs => .dat (.list xs)
  | .dic _ => .un
  | s => s
def frz (env : List SD) : List SD := env.map frz1
/-- the tuple at a as it stands at each turn, each item in a new pair -/
def IteT (K : PySem.W.Frag) (a : Addr) : It :=
  ⟨fun i H => ∃ (xs : List V) (x : V), SqT K H a xs ∧ xs[i]? = some x, fun i H v H' => ∃ T x, v = .ref T ∧ H T = none ∧ H' = upd H T (.tup [.int (i : Nat), x]) ∧ ∀ xs, SqT K H a xs → xs[i]? = some x, fun i H => ∃ xs : List V, SqT K H a xs ∧ xs.length ≤ i⟩
theorem turn_enumT {P : Program} {w : World} {K : PySem.W.Frag} {elts : List Expr} {kk : Nat} {tpos : Pos} (a e it : Addr) (hai : a ≠ it) (hae : e ≠ a) :
    Turn P w K (.Tuple elts kk tpos) (IteT K a) [e, it] e (fun i h => (∃ old, IsEnum h e it ((i : Nat) : Int) old) ∧ h.IsTupleIter it a i ∧ e ≠ it) where
  mem := by simp
  obj := fun i h st b hb => by
    obtain ⟨⟨old, he⟩, ⟨o, ho, hc, hd⟩, _⟩ := st
    have e' : b = e ∨ b = it := by simpa using hb
    rcases e' with z | z
    · rw [z]; exact ⟨_, he, fun v q => nomatch q⟩
    · rw [z]; exact ⟨o, ho, fun v q => by rw [hd] at q; cases q⟩
  keep := fun i h h' st k => let ⟨⟨old, he⟩, hi, hne⟩ := st; ⟨⟨old, k e (by simp) _ he⟩, hi.at fun o q => k it (by simp) o q, hne⟩
  item := by
    intro X hP hw hK hc i pins s σ H E I hf st hg
    subst hP hw hK
    obtain ⟨⟨old, he⟩, hit, hne⟩ := st
    obtain ⟨xs, x, hq, hx⟩ := hg
    obtain ⟨its, rv, p, hz⟩ := I.tuple hq
    obtain ⟨u, hu, ru⟩ := rv.get hx
    have hel : e < s.heap.objs.size := Heap.lt_size he
    have hil : it < s.heap.objs.size := by obtain ⟨_, q, _⟩ := hit; exact Heap.lt_size q
    have hii : i < its.toArray.size := by
      rcases Nat.lt_or_ge i its.toArray.size with z | z
      · exact z
      · rw [List.getElem?_eq_none (by simpa using z)] at hu; cases hu
    refine wpAny_pyNext_enum_itemD (Draws.tuple (A := X.A.in1) (show X.A.in1.handled = none from I.ok.hd hc) it a hai its.toArray) he ⟨hit, p⟩ hii hne (by simp [hne, hae]) fun y h' tk hy ho hit' hT hsz hk => ?_
    have hyu : y = u := by
      have : its.toArray[i]? = some u := by simpa using hu
      rw [this] at hy
      exact (Option.some.inj hy).symm
    subst hyu
    refine ⟨_, rfl, wpAny_letOwnedTupleGo_enum (s := { s with heap := h', toks := tk + 1 }) ho fun h'' he' sb => ?_⟩
    have hT2 : h''.get? s.heap.objs.size = some { cls := .type "tuple", data := .seq #[.int i tk, y] } := (sb.2 _ (Nat.ne_of_gt hel)).trans hT
    have new : ObjOk X.prog X.w (upd H s.heap.objs.size (.tup [.int (i : Nat), x])) h'' s.heap.objs.size (.tup [.int (i : Nat), x]) :=
      ⟨by show 2 ≤ sizeLine; decide, [.int i tk, y], .cons ⟨_, rfl⟩ (.cons ru .nil), ⟨_, hT2, rfl, _, rfl⟩⟩
    have I1 : Inv X pins σ (upd H s.heap.objs.size (.tup [.int (i : Nat), x])) { s with heap := h'', toks := tk + 1 } :=
      I.turnedNew (ch := [e, it]) (fun b ob hb q => (sb.2 b (fun z => hb (by simp [z]))).trans (hk b ob (fun z => hb (by simp [z])) (fun z => hb (by simp [z])) q)) hf (Nat.le_refl _) new
    refine ⟨.ref s.heap.objs.size, _, I1, rfl, ⟨_, x, rfl, I.hok.fresh (Nat.le_refl _), rfl, fun ys hy => by rw [I.tuple_inj hy hq]; exact hx⟩, ⟨⟨y, ?_⟩, hit'.1.at fun o q => (sb.2 it (Ne.symm hne)).trans q, hne⟩, fun b hb => ?_⟩
    · have e1 : ((i + 1 : Nat) : Int) = (i : Int) + 1 := by omega
      rw [e1]; exact he'
    · have hb' : b < s.heap.objs.size := by
        have e' : b = e ∨ b = it := by simpa using hb
        rcases e' with z | z
        · rw [z]; exact hel
        · rw [z]; exact hil
      rw [upd_ne (Nat.ne_of_lt hb')]
      exact (hf b hb).1
  done := by
    intro X hP hw hK hc i pins s σ H E I hf st hg
    subst hP hw hK
    obtain ⟨⟨old, he⟩, hit, hne⟩ := st
    obtain ⟨xs, hq, hx⟩ := hg
    obtain ⟨its, rv, p, hz⟩ := I.tuple hq
    obtain ⟨f0, f1, f2, f3, f4, f5⟩ := hf it (by simp)
    have hl := rv.length
    have hd : X.A.handled = none := I.ok.hd hc
    have hT : s.TypeIs (.ref e) "enumerate" := ⟨_, he, rfl⟩
    unfold pyNext
    refine wpAny_bind (wpAny_attempt (wpAny_callSpecial?_slot (name := Str.ofString "__next__") hT F.slot_enumerate_next
      (wpAny_call_entry F.slot_enumerate_next hT F.entry_enumerate_next ?_ (F.args_enumerate_next_1 _))))
    show wpAny _ _ (field (.ref e) 2 >>= _) _ _ _
    refine wpAny_bind (wpAny_field he rfl (x := .ref it) rfl ?_)
    refine wpAny_bind (RZ.nextOf_tuple_end hd hit p (by simp; omega) fun h' x he' hx' => ?_)
    obtain ⟨o, ho, hc⟩ := hx'
    refine wpAny_bind (wpAny_isInstance (T := "StopIteration") (b := true) ⟨o, ho, hc⟩ isSubtype_stop ?_)
    exact wpAny_pure ⟨rfl, I.turned (t' := s.toks) (fun b o hb q => he' b o hb q) f0 f1 f3 f4 f5⟩
  self := fun A i s Q E st h => let ⟨⟨_, he⟩, _⟩ := st; wpAny_pyIter_enum he h
set_option maxHeartbeats 1000000 in
theorem meets_enumerate_new1 {v : Value} {o : Obj} {H : Heap → Prop} (B : Begins v o H) :
    Meets (Builtin.«enumerate.__new__» ⟨[.type "enumerate", v], []⟩) (fun _ R s => H s.heap ∧
      R (.ok (.ret (.ref (s.heap.push o).objs.size))) { s with heap := (s.heap.push o).push { cls := .type "enumerate", data := .fields #[.none, .bool false, .ref s.heap.objs.size, rawInt 0, .none, .none] } }) :=
  .of_wp fun prog w A R s h => by
    obtain ⟨hp, g, d, tk, os⟩ := s; obtain ⟨h1, h⟩ := h
    have hsub := sub_enumerate
    have q1 : ∀ {A' : Around} {E : Value → Shared → Prop} {Q : Value → Shared → Prop}, Q (.ref hp.objs.size) ⟨hp.push o, g, d, tk, os⟩ → wpAny (model prog w) A' (pyIter v) Q E ⟨hp, g, d, tk, os⟩ :=
      fun q => B.iter prog w _ _ ⟨hp, g, d, tk, os⟩ _ h1 q
    wp_walk using q1
    refine wpAny_stack_any fun st => wpAny_pure ?_
    split
    · rename_i c _ _ _ _ _
      cases (c == Value.type "enumerate")
      · wp_walk using q1
        exact ⟨_, rfl, h⟩
      · wp_walk using q1
        exact ⟨_, rfl, h⟩
    · wp_walk using q1
      exact ⟨_, rfl, h⟩
theorem enum_begins1 {prog : Program} {w : World} {A : Around} {E : Value → Shared → Prop} {s : Shared} {v : Value} {o : Obj} {H : Heap → Prop} {Q : Value → Shared → Prop} (B : Begins v o H) (h1 : H s.heap)
    (h : ∀ h', IsEnum h' (s.heap.objs.size + 1) s.heap.objs.size 0 .none → h'.get? s.heap.objs.size = some o → h'.objs.size = s.heap.objs.size + 2 →
      (∀ b o, s.heap.get? b = some o → h'.get? b = some o) → Q (.ref (s.heap.objs.size + 1)) { s with heap := h' }) :
    wpAny (model prog w) A (call (.type "enumerate") [v]) Q E s := by
  refine callType_new F.called_enumerate (by decide) (F.typeCall_enumerate_1 _) (F.newCall_enumerate_1 _) (fun obj => F.args_object_init_2 obj _) F.entry_enumerate_new
    (meets_enumerate_new1 B) ⟨h1, ?_⟩
  have hz : (s.heap.push o).objs.size = s.heap.objs.size + 1 := Heap.size_push ..
  show _ ∧ _
  rw [hz]
  have he : IsEnum ((s.heap.push o).push { cls := .type "enumerate", data := .fields #[.none, .bool false, .ref s.heap.objs.size, rawInt 0, .none, .none] }) (s.heap.objs.size + 1) s.heap.objs.size 0 .none := by
    have := Heap.get?_push_size (s.heap.push o) (o := { cls := .type "enumerate", data := .fields #[.none, .bool false, .ref s.heap.objs.size, rawInt 0, .none, .none] }) rfl
    rw [hz] at this; exact this
  refine ⟨⟨_, he, rfl⟩, h _ he (Heap.get?_push_of_some _ (Heap.get?_push_size _ B.free)) (by rw [Heap.size_push, hz]) fun b o x => Heap.get?_push_of_some _ (Heap.get?_push_of_some _ x)⟩
def iEnumA (K : PySem.W.Frag) (ta : TA) : TI := fun σ H R => ta σ H fun vs H1 => ∃ a xs, vs = [.ref a] ∧ ((SqL K H1 a xs ∧ R (Ite K a) H1) ∨ (SqT K H1 a xs ∧ R (IteT K a) H1))
theorem pi_enumA {ta : TA} {tpos : Pos} {elts : List Expr} {kk : Nat} (hg : Gl X "enumerate") (hm : X.mg "enumerate" = none) (ha : PA X [e] ta) (hs : starEach [e] X.env = [(false, eval e X.env)] := by rfl) :
    PI X (.Tuple elts kk tpos) (.Call (.Name "enumerate" p) [e] [] pos) (iEnumA X.K ta) := by
  refine ⟨fun pins s σ H R I h => ?_⟩
  refine Call_ (ld_blt I hg hm boot_enumerate (PyProof.Rows.callWith_type1 (thn (ha.run pos pins s σ H _ I h) fun us s1 ⟨vs, H1, I1, r1, q1⟩ => ?_) hs rfl))
  obtain ⟨a, xs, ex, q1⟩ := q1
  subst ex
  cases r1 with
  | cons r rr =>
    cases rr
    cases r
    rcases q1 with ⟨hq, q⟩ | ⟨hq, q⟩
    · obtain ⟨its, rv, p', hz⟩ := I1.list hq
      refine call_enumerate_list p'.isList fun h' he hit hsz hk => wpAny_pyIter_enum he ?_
      have I2 : Inv X pins σ H1 { s1 with heap := h' } := I1.kept (t' := s1.toks) hk
      refine ⟨s1.heap.objs.size + 1, [s1.heap.objs.size + 1, s1.heap.objs.size], _, _, H1, rfl, I2, turn_enum a (s1.heap.objs.size + 1) s1.heap.objs.size, ⟨⟨.none, he⟩, hit, Nat.succ_ne_self _⟩, fun b hb => ?_, q⟩
      have e' : b = s1.heap.objs.size + 1 ∨ b = s1.heap.objs.size := by simpa using hb
      have hle : s1.heap.objs.size ≤ b := by
        rcases e' with z | z
        · rw [z]; exact Nat.le_add_right _ _
        · rw [z]; exact Nat.le_refl _
      exact I1.fpOk hle (I1.hok.fresh hle)
    · obtain ⟨its, rv, p', hz⟩ := I1.tuple hq
      have hal : a < s1.heap.objs.size := by obtain ⟨_, z, _⟩ := p'; exact Heap.lt_size z
      refine enum_begins1 (begins_tuple a its.toArray) p' fun h' he hit hsz hk => wpAny_pyIter_enum he ?_
      have I2 : Inv X pins σ H1 { s1 with heap := h' } := I1.kept (t' := s1.toks) hk
      refine ⟨s1.heap.objs.size + 1, [s1.heap.objs.size + 1, s1.heap.objs.size], _, _, H1, rfl, I2, turn_enumT a (s1.heap.objs.size + 1) s1.heap.objs.size (Nat.ne_of_lt hal) (Nat.ne_of_gt (Nat.lt_succ_of_lt hal)), ⟨⟨.none, he⟩, ⟨_, hit, rfl, rfl⟩, Nat.succ_ne_self _⟩, fun b hb => ?_, q⟩
      have e' : b = s1.heap.objs.size + 1 ∨ b = s1.heap.objs.size := by simpa using hb
      have hle : s1.heap.objs.size ≤ b := by
        rcases e' with z | z
        · rw [z]; exact Nat.le_add_right _ _
        · rw [z]; exact Nat.le_refl _
      exact I1.fpOk hle (I1.hok.fresh hle)
/-- 0, 1, .. beside the items -/
def enumD : Nat → List PyData → List PyData
  | _, [] => []
  | n, x :: xs => .tuple [.int (n : Nat), x] :: enumD (n + 1) xs
theorem enumD_length : ∀ (xs : List PyData) (n : Nat), (enumD n xs).length = xs.length
  | [], _ => rfl
  | _ :: xs, n => congrArg (· + 1) (enumD_length xs (n + 1))
theorem enumD_get : ∀ {xs : List PyData} {n i : Nat} {d : PyData}, (enumD n xs)[i]? = some d → ∃ x, xs[i]? = some x ∧ d = .tuple [.int ((n + i : Nat) : Int), x]
  | [], _, _, _, h => by simp [enumD] at h
  | x :: xs, n, 0, d, h => by simp [enumD] at h; exact ⟨x, rfl, h.symm⟩
  | x :: xs, n, i + 1, d, h => by
    obtain ⟨u, h1, h2⟩ := enumD_get (xs := xs) (n := n + 1) (i := i) (d := d) (by simpa [enumD] using h)
    exact ⟨u, by simpa using h1, by rw [h2, show n + 1 + i = n + (i + 1) by omega]⟩
def enumQ (ds : List PyData) (K : List PyData → Prop) : Prop := match ds with
  | [.list xs] => At (enumD 0 xs) K
  | [.tuple xs] => At (enumD 0 xs) K
  | _ => False
theorem q_enumL {xs : List PyData} {K : List PyData → Prop} : enumQ [.list xs] K = K (enumD 0 xs) := At.eq
theorem q_enumT {xs : List PyData} {K : List PyData → Prop} : enumQ [.tuple xs] K = K (enumD 0 xs) := At.eq
theorem walkD_enumL {F : Hp} {a : Addr} {us : List V} {xs : List PyData} (h1 : RdL K F a us) (h2 : DRs K F us xs) : WalkD K true F (Ite K a) (enumD 0 xs) := by
  refine ⟨fun H => SqL K H a us, fun i H v H' => ∃ T x, v = .ref T ∧ H T = none ∧ H' = upd H T (.tup [.int (i : Nat), x]) ∧ us[i]? = some x, ⟨fun i H hi q => ?_, fun H q => ?_, fun i H x H' hi q y => ?_⟩, fun H e => (h1.mono e).sq, fun i H x H' d _ e y => ?_⟩
  · rw [enumD_length, ← h2.length] at hi
    exact ⟨us, us[i]'hi, q, by simp [hi]⟩
  · exact ⟨us, q, by rw [enumD_length, ← h2.length]; exact Nat.le_refl _⟩
  · obtain ⟨T, u, z1, z2, z3, z4⟩ := y
    exact ⟨T, u, z1, z2, z3, z4 us q⟩
  · obtain ⟨T, u, z1, z2, z3, z4⟩ := y
    obtain ⟨dx, e1, rfl⟩ := enumD_get e
    obtain ⟨u', y1, y2⟩ := h2.get e1
    rw [z4] at y1
    cases y1
    refine .inr ⟨rfl, T, _, _, z1, z2, z3, rfl, .cons ?_ (.one y2)⟩
    rw [Nat.zero_add]
    exact .int _
theorem walkD_enumT {F : Hp} {a : Addr} {us : List V} {xs : List PyData} (h1 : SqT K F a us) (h2 : DRs K F us xs) : WalkD K true F (IteT K a) (enumD 0 xs) := by
  refine ⟨fun H => SqT K H a us, fun i H v H' => ∃ T x, v = .ref T ∧ H T = none ∧ H' = upd H T (.tup [.int (i : Nat), x]) ∧ us[i]? = some x, ⟨fun i H hi q => ?_, fun H q => ?_, fun i H x H' hi q y => ?_⟩, fun H e => Evl.ex_t e h1, fun i H x H' d _ e y => ?_⟩
  · rw [enumD_length, ← h2.length] at hi
    exact ⟨us, us[i]'hi, q, by simp [hi]⟩
  · exact ⟨us, q, by rw [enumD_length, ← h2.length]; exact Nat.le_refl _⟩
  · obtain ⟨T, u, z1, z2, z3, z4⟩ := y
    exact ⟨T, u, z1, z2, z3, z4 us q⟩
  · obtain ⟨T, u, z1, z2, z3, z4⟩ := y
    obtain ⟨dx, e1, rfl⟩ := enumD_get e
    obtain ⟨u', y1, y2⟩ := h2.get e1
    rw [z4] at y1
    cases y1
    refine .inr ⟨rfl, T, _, _, z1, z2, z3, rfl, .cons ?_ (.one y2)⟩
    rw [Nat.zero_add]
    exact .int _
theorem ienum {elts : List Expr} {kk : Nat} {tpos : Pos} (hm : X.mg "enumerate" = none) (ha : PA X [a] (liftA X.K Z was)) (hg : Gl X "enumerate" := by rfl) (hs : starEach [a] X.env = [(false, eval a X.env)] := by rfl) :
    PI X (.Tuple elts kk tpos) (.Call (.Name "enumerate" p) [a] [] pos) (liftI X.K Z true (dIt enumQ was)) :=
  PI.of (pi_enumA hg hm ha hs) fun σ H R ⟨g, F, env, P, k, w, q⟩ => ⟨g, F, env, _, k, w, fun ds env1 vs F1 H1 p e1 k1 r1 => by
    unfold enumQ at p
    split at p
    · obtain ⟨v, rfl, r2⟩ := r1.inv1
      obtain ⟨a, us, rfl, h1, h2⟩ := r2.inv_lst
      exact ⟨a, us, rfl, .inl ⟨(h1.mono k1.fh).sq, q _ env1 _ F1 H1 p.out e1 k1 (walkD_enumL h1 h2)⟩⟩
    · obtain ⟨v, rfl, r2⟩ := r1.inv1
      obtain ⟨a, us, rfl, h1, h2⟩ := r2.inv_tup
      exact ⟨a, us, rfl, .inr ⟨Evl.ex_t k1.fh h1, q _ env1 _ F1 H1 p.out e1 k1 (walkD_enumT h1 h2)⟩⟩
    · exact p.elim⟩
end
end DL

namespace DL
variable {Z : Zx}
open PySem PySem.Spec PyProof.Rows L2
open Evl (Ex)
section
variable {X : Cx} {a b e : Expr} {es : List Expr} {pos p : Pos} {was : DA} {wa wb we : DE} {K : PySem.W.Frag}
@[irreducible] def memD (x : PyData) (ds : List PyData) : Bool := ds.any fun z => PyData.eqv z x
/-- a text within a text -/
@[irreducible] def inStr (a z : Str) : Bool := !(Builtin.Str.occurrences z a 0 z.length 1).isEmpty
/-- may be looked for -/
def shp (x : PyData) (ds : List PyData) : Prop := SeqAt.shaped x = true ∧ SeqAt.shaped (.list ds) = true
def oMem (n : Bool) (x y : PyData) (P : PyData → Prop) : Prop := match y with
  | .list ds => shp x ds ∧ P (.bool (memD x ds != n))
  | .tuple ds => shp x ds ∧ P (.bool (memD x ds != n))
  | .str z => (match x with
    | .str a => P (.bool (inStr a z != n))
    | _ => False)
  | _ => False
def oIn (x y : PyData) (P : PyData → Prop) : Prop := oMem false x y P
def oNin (x y : PyData) (P : PyData → Prop) : Prop := oMem true x y P
theorem q_inL {x : PyData} {ds : List PyData} {P : PyData → Prop} : oIn x (.list ds) P = (shp x ds ∧ P (.bool (memD x ds != false))) := rfl
theorem q_inT {x : PyData} {ds : List PyData} {P : PyData → Prop} : oIn x (.tuple ds) P = (shp x ds ∧ P (.bool (memD x ds != false))) := rfl
theorem q_inS {a z : Str} {P : PyData → Prop} : oIn (.str a) (.str z) P = P (.bool (inStr a z != false)) := rfl
theorem q_ninL {x : PyData} {ds : List PyData} {P : PyData → Prop} : oNin x (.list ds) P = (shp x ds ∧ P (.bool (memD x ds != true))) := rfl
theorem q_ninT {x : PyData} {ds : List PyData} {P : PyData → Prop} : oNin x (.tuple ds) P = (shp x ds ∧ P (.bool (memD x ds != true))) := rfl
theorem q_ninS {a z : Str} {P : PyData → Prop} : oNin (.str a) (.str z) P = P (.bool (inStr a z != true)) := rfl
theorem _root_.L2.Room.u65 {k : Nat} {A : Around} (r : Room k A) : A.units + 65 < cLine := by have := r.un; omega
end
end DL

namespace DL
variable {Z : Zx}
open PySem PySem.Spec PyProof.Rows L2
structure Sm (b k : Nat) (d : PyData) : Prop where
  rp : rp d = true
  bulk : d.bulk ≤ b
  depth : d.depth ≤ k
theorem Sm.mono {b k b' k' : Nat} {d : PyData} (h : Sm b k d) (hb : b ≤ b' := by omega) (hk : k ≤ k' := by omega) : Sm b' k' d := ⟨h.rp, Nat.le_trans h.bulk hb, Nat.le_trans h.depth hk⟩
theorem sm_all {b k : Nat} : ∀ {xs : List PyData}, (∀ x ∈ xs, Sm b k x) → rpAll xs = true ∧ PyData.bulkAll xs ≤ xs.length * (b + 1) ∧ PyData.depthAll xs ≤ k
  | [], _ => ⟨by simp [rpAll], by simp [PyData.bulkAll], by simp [PyData.depthAll]⟩
  | x :: xs, h => by
    obtain ⟨h1, h2, h3⟩ := sm_all (xs := xs) fun y hy => h y (List.mem_cons_of_mem _ hy)
    have hx := h x List.mem_cons_self
    refine ⟨?_, ?_, ?_⟩
    · rw [rpAll, hx.rp, h1]; rfl
    · rw [PyData.bulkAll, List.length_cons, Nat.add_mul]
      have := hx.bulk
      omega
    · rw [PyData.depthAll]
      have := hx.depth
      omega
theorem Sm.tup {n b k : Nat} {xs : List PyData} (hl : xs.length ≤ n) (h : ∀ x ∈ xs, Sm b k x) : Sm (n * (b + 1)) (k + 1) (.tuple xs) := by
  obtain ⟨h1, h2, h3⟩ := sm_all h
  refine ⟨by simpa only [DL.rp] using h1, ?_, ?_⟩
  · rw [PyData.bulk]
    exact Nat.le_trans h2 (Nat.mul_le_mul_right _ hl)
  · rw [PyData.depth]
    omega
theorem Sm.lst {n b k : Nat} {xs : List PyData} (hl : xs.length ≤ n) (h : ∀ x ∈ xs, Sm b k x) : Sm (n * (b + 1)) (k + 1) (.list xs) := by
  obtain ⟨h1, h2, h3⟩ := sm_all h
  refine ⟨by simpa only [DL.rp] using h1, ?_, ?_⟩
  · rw [PyData.bulk]
    exact Nat.le_trans h2 (Nat.mul_le_mul_right _ hl)
  · rw [PyData.depth]
    omega
theorem Sm.int {i : Int} (h : i.natAbs < 10 ^ 250) (b k : Nat) : Sm b k (.int i) := ⟨by simpa only [DL.rp, decide_eq_true_eq] using h, by rw [PyData.bulk]; omega, by rw [PyData.depth]; omega⟩
theorem Sm.int' {i : Int} {b k : Nat} (h0 : -(10 ^ 100) ≤ i) (h1 : i ≤ 10 ^ 100) : Sm b k (.int i) := Sm.int (lt_of h0 h1) b k
theorem Sm.bool {t : Bool} (b k : Nat) : Sm b k (.bool t) := ⟨rfl, by rw [PyData.bulk]; omega, by rw [PyData.depth]; omega⟩
theorem Sm.none (b k : Nat) : Sm b k .none := ⟨rfl, by rw [PyData.bulk]; omega, by rw [PyData.depth]; omega⟩
theorem Sm.dict0 (b k : Nat) : Sm b (k + 1) (.dict []) := ⟨rfl, by rw [PyData.bulk, PyData.bulkKv]; omega, by rw [PyData.depth, PyData.depthKv]; omega⟩
theorem cut_mem {xs : List PyData} {lo hi : Option Int} {x : PyData} (h : x ∈ DL.cutD xs lo hi) : x ∈ xs := by
  unfold DL.cutD at h
  exact List.mem_of_mem_drop (List.mem_of_mem_take h)
/-- repr of small data -/
theorem repr_q {d : PyData} (h : Sm 50000 40 d) {K : PyData → Prop} (hK : K (.str d.shown)) : nRepr [d] K := ⟨⟨h.rp, h.bulk, h.depth⟩, hK⟩
end DL

namespace DL
variable {Z : Zx}
open PySem PySem.Spec PyProof.Rows L2
open Evl (Ex)

/-- a list that a def made and may still change -/
abbrev rowD (ds : List PyData) : PyData := .dict [(.none, .list ds)]
mutual
/-- no list in it -/
def lf : PyData → Bool
  | .none => true
  | .bool _ => true
  | .int _ => true
  | .str _ => true
  | .list _ => false
  | .tuple ds => lfs ds
  | .dict [] => true
  | .dict (_ :: _) => false
def lfs : List PyData → Bool
  | [] => true
  | d :: ds => lf d && lfs ds
end
section
variable {K : PySem.W.Frag} {F H : Hp} {b : Addr} {us us' : List V}
theorem keep_upd {F : Hp} {b a : Addr} {us us' : List V} {o : HO} (hb : F b = some (.lst us)) (ho : F a = some o) (n : ∀ xs, o ≠ .lst xs) : upd F b (.lst us') a = some o := by
  have ne : a ≠ b := fun z => by
    subst z
    rw [hb] at ho
    cases ho
    exact n _ rfl
  rw [upd_ne ne]
  exact ho
mutual
theorem DR.chg (hb : F b = some (.lst us)) : ∀ {d : PyData} {v : V}, lf d = true → DR K F v d → DR K (upd F b (.lst us')) v d
  | .none, _, _, .non => .non
  | .bool _, _, _, .bl b => .bl b
  | .int _, _, _, .int i => .int i
  | .str _, _, _, .str x => .str x
  | .list _, _, h, _ => by simp [lf] at h
  | .tuple ds, _, h, .tup s r => .tup (by
      rcases s with ⟨o, s, p⟩ | s
      · exact .inl ⟨o, keep_upd hb s (fun _ z => by cases z), p⟩
      · exact .inr s) (DRs.chg hb (by simpa only [lf] using h) r)
  | .dict [], _, _, .dct s => .dct (keep_upd hb s fun _ z => by cases z)
  | .dict (_ :: _), _, h, _ => by simp [lf] at h
theorem DRs.chg (hb : F b = some (.lst us)) : ∀ {ds : List PyData} {vs : List V}, lfs ds = true → DRs K F vs ds → DRs K (upd F b (.lst us')) vs ds
  | [], _, _, .nil => .nil
  | d :: ds, _, h, .cons x y => .cons (DR.chg hb (by simp only [lfs, Bool.and_eq_true] at h; exact h.1) x) (DRs.chg hb (by simp only [lfs, Bool.and_eq_true] at h; exact h.2) y)
end
/-- rows with no list in them -/
def rowB : PyData → Bool
  | .dict [(.none, .list ds)] => lfs ds
  | d => lf d
theorem rows_chg {ds' : List PyData} (hb : F b = some (.lst us)) (r' : DRs K (upd F b (.lst us')) us' ds') : ∀ {vs : List V} {xs : List PyData}, DRs K F vs xs → xs.all rowB = true →
    ∃ xs', xs'.length = xs.length ∧ (∀ d ∈ xs', d ∈ xs ∨ d = rowD ds') ∧ DRs K (upd F b (.lst us')) vs xs'
  | _, _, .nil, _ => ⟨[], rfl, fun d hd => by simp at hd, .nil⟩
  | v :: vs, d :: xs, .cons x y, h => by
    simp only [List.all_cons, Bool.and_eq_true] at h
    obtain ⟨ys, l, m, q⟩ := rows_chg hb r' y h.2
    have go : ∀ e : PyData, (e = d ∨ e = rowD ds') → DR K (upd F b (.lst us')) v e → ∃ xs', xs'.length = (d :: xs).length ∧ (∀ d' ∈ xs', d' ∈ d :: xs ∨ d' = rowD ds') ∧ DRs K (upd F b (.lst us')) (v :: vs) xs' := fun e he r => by
      refine ⟨e :: ys, by simp [l], fun d' hd => ?_, .cons r q⟩
      rcases List.mem_cons.mp hd with rfl | hd
      · rcases he with rfl | rfl
        · exact .inl (List.mem_cons_self ..)
        · exact .inr rfl
      · exact (m d' hd).imp (List.mem_cons_of_mem _) id
    by_cases hl : lf d = true
    · exact go d (.inl rfl) (DR.chg hb hl x)
    · have h1 := h.1
      unfold rowB at h1
      split at h1
      · rename_i ds
        cases x with
        | row s r =>
          rename_i a u0
          by_cases e : a = b
          · subst e
            exact go _ (.inr rfl) (.row upd_same r')
          · exact go _ (.inl rfl) (.row (by rw [upd_ne e]; exact s) (DRs.chg hb h1 r))
      · exact absurd h1 hl
/-- no list but in the cell at i -/
def lfE : List SD → Bool
  | [] => true
  | .un :: r => lfE r
  | .dat d :: r => lf d && lfE r
  | .cel _ xs :: r => lfs xs && lfE r
  | .dic _ :: _ => false
def lfX : List SD → Nat → Bool
  | [], _ => true
  | _ :: r, 0 => lfE r
  | .un :: r, i + 1 => lfX r i
  | .dat d :: r, i + 1 => lf d && lfX r i
  | .cel _ xs :: r, i + 1 => lfs xs && lfX r i
  | .dic _ :: _, _ + 1 => false
theorem lfE_get : ∀ {env : List SD} {j : Nat} {s : SD}, lfE env = true → env[j]? = some s → match s with | .un => True | .dat d => lf d = true | .cel _ xs => lfs xs = true | .dic _ => False
  | [], j, s, _, e => by simp at e
  | .un :: r, 0, s, h, e => by simp at e; subst e; trivial
  | .dat d :: r, 0, s, h, e => by simp only [lfE, Bool.and_eq_true] at h; simp at e; subst e; exact h.1
  | .cel p xs :: r, 0, s, h, e => by simp only [lfE, Bool.and_eq_true] at h; simp at e; subst e; exact h.1
  | .dic _ :: r, _, s, h, e => by simp [lfE] at h
  | .un :: r, j + 1, s, h, e => lfE_get (env := r) (j := j) h (by simpa using e)
  | .dat d :: r, j + 1, s, h, e => by simp only [lfE, Bool.and_eq_true] at h; exact lfE_get (env := r) (j := j) h.2 (by simpa using e)
  | .cel p xs :: r, j + 1, s, h, e => by simp only [lfE, Bool.and_eq_true] at h; exact lfE_get (env := r) (j := j) h.2 (by simpa using e)
theorem lfX_get : ∀ {env : List SD} {i j : Nat} {s : SD}, lfX env i = true → i ≠ j → env[j]? = some s → match s with | .un => True | .dat d => lf d = true | .cel _ xs => lfs xs = true | .dic _ => False
  | [], i, j, s, _, _, e => by simp at e
  | x :: r, 0, 0, s, _, n, _ => absurd rfl n
  | x :: r, 0, j + 1, s, h, n, e => lfE_get (env := r) (j := j) h (by simpa using e)
  | .un :: r, i + 1, 0, s, h, n, e => by simp at e; subst e; trivial
  | .dat d :: r, i + 1, 0, s, h, n, e => by simp only [lfX, Bool.and_eq_true] at h; simp at e; subst e; exact h.1
  | .cel p xs :: r, i + 1, 0, s, h, n, e => by simp only [lfX, Bool.and_eq_true] at h; simp at e; subst e; exact h.1
  | .dic _ :: r, i + 1, _, s, h, n, e => by simp [lfX] at h
  | .un :: r, i + 1, j + 1, s, h, n, e => lfX_get (env := r) (i := i) (j := j) h (by omega) (by simpa using e)
  | .dat d :: r, i + 1, j + 1, s, h, n, e => by simp only [lfX, Bool.and_eq_true] at h; exact lfX_get (env := r) (i := i) (j := j) h.2 (by omega) (by simpa using e)
  | .cel p xs :: r, i + 1, j + 1, s, h, n, e => by simp only [lfX, Bool.and_eq_true] at h; exact lfX_get (env := r) (i := i) (j := j) h.2 (by omega) (by simpa using e)
theorem Ok.nest {g : Gx Z} {env : List SD} {σ : L2.St} (k : Ok K g F env σ H) (h0 : ∀ a, g.F0 a = none) {i : Nat} {xs ds' : List PyData} (he : env[i]? = some (.cel false xs)) (hl : lfX env i = true) (hr : xs.all rowB = true)
    (hb : F b = some (.lst us)) (r' : DRs K (upd F b (.lst us')) us' ds') : ∃ xs', xs'.length = xs.length ∧ (∀ d ∈ xs', d ∈ xs ∨ d = rowD ds') ∧ Ok K g (upd F b (.lst us')) (env.set i (.cel false xs')) σ (upd H b (.lst us')) := by
  obtain ⟨a, vs, h1, h2, h3, h4, h5, h6⟩ := k.cel i false xs he
  obtain ⟨xs', l, m, r⟩ := rows_chg (us' := us') hb r' h4 hr
  have hb0 : g.H0 b = none := (k.newF b _ hb).elim (fun z => by rw [h0 b] at z; cases z) id
  have nb : ∀ {c : Addr}, F c = none → c ≠ b := fun {c} z e => by rw [e, hb] at z; cases z
  refine ⟨xs', l, m, by simp [k.len], fun c u q => ?_, fun j e hj => ?_, fun j q ys hj => ?_, fun j l q r us ws c z1 z2 z3 z4 => ?_, fun j c e => ?_, fun c o e n => ?_, fun c u q => ?_, fun c u q => ?_, fun c u e => ?_, fun j kvs e => ?_⟩
  · by_cases z : c = b
    · subst z
      rw [upd_same] at q ⊢
      exact q
    · rw [upd_ne z] at q ⊢
      exact k.fh c u q
  · rcases get_set hj with ⟨_, q⟩ | ⟨n, q⟩
    · cases q
    · obtain ⟨v, z1, z2⟩ := k.dat j e q
      exact ⟨v, z1, DR.chg hb (lfX_get hl n q) z2⟩
  · rcases get_set hj with ⟨rfl, q⟩ | ⟨n, q⟩
    · cases q
      exact ⟨a, vs, h1, by rw [upd_ne (nb h2)]; exact h2, by rw [upd_ne (nb h2)]; exact h3, r, h5, h6⟩
    · obtain ⟨c, ws, z1, z2, z3, z4, z5⟩ := k.cel j _ ys q
      exact ⟨c, ws, z1, by rw [upd_ne (nb z2)]; exact z2, by rw [upd_ne (nb z2)]; exact z3, DRs.chg hb (lfX_get hl n q) z4, z5⟩
  · have f : ∀ {j : Nat} {q : Bool} {us : List PyData}, (env.set i (SD.cel false xs'))[j]? = some (.cel q us) → ∃ q' us', env[j]? = some (.cel q' us') := fun {j q us} z => by
      rcases get_set z with ⟨rfl, _⟩ | ⟨_, z⟩
      · exact ⟨_, _, he⟩
      · exact ⟨_, _, z⟩
    obtain ⟨_, _, f1⟩ := f z1
    obtain ⟨_, _, f2⟩ := f z2
    exact k.sep j l _ _ _ _ c f1 f2 z3 z4
  · obtain ⟨us, q⟩ := k.pin j c e
    have n : i ≠ j := fun z => by subst z; rw [he] at q; cases q
    exact ⟨us, by rw [set_ne n]; exact q⟩
  · have ne : c ≠ b := fun z => by rw [z, hb0] at e; cases e
    rw [upd_ne ne]
    exact k.frame c o e n
  · by_cases z : c = b
    · subst z
      exact .inr hb0
    · rw [upd_ne z] at q
      exact k.newF c u q
  · rw [h0 c] at q
    cases q
  · obtain ⟨z1, z2, z3⟩ := k.prot c u e
    refine ⟨by rw [upd_ne (nb z2)]; exact z1, by rw [upd_ne (nb z2)]; exact z2, fun j q us hj => ?_⟩
    rcases get_set hj with ⟨rfl, _⟩ | ⟨_, z⟩
    · exact z3 _ _ xs he
    · exact z3 j q us z
  · rcases get_set e with ⟨_, q⟩ | ⟨n, q⟩
    · cases q
    · exact (lfX_get hl n q).elim
end
section
variable {X : Cx} {e b b2 : Expr} {we wb wb2 : DE} {wx : DX} {m : Nat} {pos : Pos}
/-- a new list as a row -/
def dRow (w : DX) (env : List SD) (P : PyData → List SD → Prop) : Prop := w env fun r env' => match r with
  | .cel _ xs => P (rowD xs) env'
  | _ => False
theorem drow (h : PE X e (liftX X.K Z wx)) : PE X e (liftE X.K Z (dRow wx)) := PE.of h fun σ H Q h => by
  obtain ⟨g, F, env, P, k, w, q⟩ := h
  refine ⟨g, F, env, _, k, w, fun r env1 v F1 H1 p e1 k1 r1 => ?_⟩
  cases r with
  | un => exact p.elim
  | dic _ => exact p.elim
  | dat d => exact p.elim
  | cel b xs =>
    obtain ⟨F2, e2, k2, _, r2⟩ := k1.freezeR r1
    exact q _ env1 v F2 H1 p (e1.trans e2) k2 r2
/-- x[i][j] = e, x the name's own cell of rows that the def made: the row's other names see it, too -/
def neQ (xs : List PyData) (r y d : PyData) (K : List PyData → Prop) : Prop := match r with
  | .dict [(.none, .list ds)] => bIf (xs.all rowB && lfs ds && lf d) (stQ ds y d fun ds' => ∀ xs', xs'.length = xs.length → (∀ z ∈ xs', z ∈ xs ∨ z = rowD ds') → K xs') False
  | _ => False
def dSetN (i : Nat) (wi wj we : DE) (E : DEnds) (env : List SD) : Prop := we env fun d env1 => dIxC i wi env1 fun r env2 => wj env2 fun y env3 => match env3[i]? with
  | some (.cel false xs) => bIf (E.nol && lfX env3 i) (neQ xs r y d fun xs' => E.nx (env3.set i (.cel false xs'))) False
  | _ => False
theorem neQ_inv {xs : List PyData} {r y d : PyData} {K : List PyData → Prop} (h : neQ xs r y d K) : ∃ ds n j, r = rowD ds ∧ y = .int n ∧ ixN ds.length n = some j ∧ xs.all rowB = true ∧ lfs ds = true ∧ lf d = true ∧
    ∀ xs', xs'.length = xs.length → (∀ z ∈ xs', z ∈ xs ∨ z = rowD (ds.set j d)) → K xs' := by
  unfold neQ at h
  split at h
  · rename_i ds
    obtain ⟨hc, h⟩ := bIf_and h
    simp only [Bool.and_eq_true] at hc
    cases y with
    | int n =>
      unfold stQ at h
      dsimp only at h
      split at h
      · rename_i j ej
        exact ⟨ds, n, j, rfl, rfl, ej, hc.1.1, hc.1.2, hc.2, h⟩
      · exact h.elim
    | _ => exact h.elim
  · exact h.elim
theorem lfs_set : ∀ {ds : List PyData} {j : Nat} {d : PyData}, lfs ds = true → lf d = true → lfs (ds.set j d) = true
  | [], _, _, h, _ => h
  | x :: ds, 0, d, h, hd => by simp only [lfs, Bool.and_eq_true, List.set] at h ⊢; exact ⟨hd, h.2⟩
  | x :: ds, j + 1, d, h, hd => by simp only [lfs, Bool.and_eq_true, List.set] at h ⊢; exact ⟨h.1, lfs_set h.2 hd⟩
theorem ssetN (i : Nat) {x : Str} {p0 p1 p2 : Pos} (he : PE X e (liftE X.K Z we)) (hi : PE X b (liftE X.K Z wb)) (hj : PE X b2 (liftE X.K Z wb2)) (hN : X.N[i]? = some x := by rfl) (hv : Vis X.env.scope x := by first | exact Or.inl rfl | exact Or.inr (Or.inl rfl) | exact Or.inr (Or.inr rfl)) (hd : (x == ("__debug__" : Str)) = false := by decide)
    (hcd : (x == ("__classdict__" : Str)) = false := by decide) (hpi : PlainIx b := by intro _ _; rfl)
    (hs : swapsWithSole [.Subscript (.Subscript (.Name x p0) b p1) b2 p2] e pos.line X.env = pure false := by rfl) (hw : swappedStores [.Subscript (.Subscript (.Name x p0) b p1) b2 p2] e X.env = pure none := by rfl)
    (h1 : (assignEach [.Subscript (.Subscript (.Name x p0) b p1) b2 p2] X.env).map (·.2) = [assign (.Subscript (.Subscript (.Name x p0) b p1) b2 p2) X.env] := by rfl)
    (ha : ∀ v, assign (.Subscript (.Subscript (.Name x p0) b p1) b2 p2) X.env v = (do
      let ov ← holding [v] (eval (.Subscript (.Name x p0) b p1) X.env)
      let iv ← holding [v, ov] (eval b2 X.env)
      standAt p2
      holding [v, ov, iv] (setItem ov iv v)
      release [v, ov, iv] []) := by intro _; rfl) : PS X (.Assign [.Subscript (.Subscript (.Name x p0) b p1) b2 p2] e pos) (liftS X.K Z m (dSetN i wb wb2 we)) :=
  PS.of (ps_asg he (pg_sub (dixC i hi hN hv hd hcd hpi) hj set_list ha) hs hw h1) fun D σ H ⟨g, F, env, P, k, w, q⟩ =>
  ⟨g, F, env, _, k, w, fun d env1 v F1 H1 p e1 k1 r1 => ⟨g, F1, env1, _, k1, p, fun r env2 v2 F2 H2 p2 e2 k2 r2 => ⟨g, F2, env2, _, k2, p2, fun y env3 v3 F3 H3 p3 e3 k3 r3 => by
    split at p3
    · rename_i xs ex
      obtain ⟨hb, p3⟩ := bIf_and p3
      rw [Bool.and_eq_true] at hb
      obtain ⟨ds, n, j, rfl, rfl, ej, c1, c2, c3, p3⟩ := neQ_inv p3
      cases r3.inv_int
      have r2 := r2.mono e3
      cases r2 with
      | row s rr =>
        rename_i a us
        have r4 : DRs X.K F3 (us.set j v) (ds.set j d) := rr.set j (r1.mono (e2.trans e3))
        have r5 := DRs.chg (us' := us.set j v) s (lfs_set c2 c3) r4
        obtain ⟨xs', l, mm, k4⟩ := k3.nest (q.free hb.1).1 ex hb.2 c1 s r5
        exact ⟨a, us, n, j, rfl, rfl, k3.fh _ _ s, by rw [rr.length]; exact ej, ((q.free hb.1).2 _).nx _ σ _ _ (p3 xs' l mm) (Ex.refl _) k4⟩
    · exact p3.elim⟩⟩⟩
end
section
variable {K : PySem.W.Frag} {F H : Hp} {vs : List V} {as : List SD}
def atB : PyData → Bool
  | .none => true
  | .bool _ => true
  | .int _ => true
  | .str _ => true
  | _ => false
def atoms : List SD → Bool
  | [] => true
  | .un :: r => atoms r
  | .dat d :: r => atB d && atoms r
  | .cel _ xs :: r => xs.all atB && atoms r
  | .dic _ :: _ => false
theorem atoms_get : ∀ {env : List SD} {j : Nat} {s : SD}, atoms env = true → env[j]? = some s → match s with | .un => True | .dat d => atB d = true | .cel _ xs => xs.all atB = true | .dic _ => False
  | [], j, s, _, e => by simp at e
  | .un :: r, 0, s, h, e => by simp at e; subst e; trivial
  | .dat d :: r, 0, s, h, e => by simp only [atoms, Bool.and_eq_true] at h; simp at e; subst e; exact h.1
  | .cel p xs :: r, 0, s, h, e => by simp only [atoms, Bool.and_eq_true] at h; simp at e; subst e; exact h.1
  | .dic _ :: r, _, s, h, e => by simp [atoms] at h
  | .un :: r, j + 1, s, h, e => atoms_get (env := r) (j := j) h (by simpa using e)
  | .dat d :: r, j + 1, s, h, e => by simp only [atoms, Bool.and_eq_true] at h; exact atoms_get (env := r) (j := j) h.2 (by simpa using e)
  | .cel p xs :: r, j + 1, s, h, e => by simp only [atoms, Bool.and_eq_true] at h; exact atoms_get (env := r) (j := j) h.2 (by simpa using e)
theorem at_any {F' : Hp} {v : V} {d : PyData} (h : atB d = true) (r : DR K F v d) : DR K F' v d := by
  cases r with
  | non => exact .non
  | bl b => exact .bl b
  | int i => exact .int i
  | str x => exact .str x
  | lst _ _ => cases h
  | tup _ _ => cases h
  | dct _ => cases h
  | row _ _ => cases h
  | exc _ _ => cases h
theorem ats_any {F' : Hp} : ∀ {vs : List V} {ds : List PyData}, ds.all atB = true → DRs K F vs ds → DRs K F' vs ds
  | _, _, _, .nil => .nil
  | _, _, h, .cons x y => by
    simp only [List.all_cons, Bool.and_eq_true] at h
    exact .cons (at_any h.1 x) (ats_any h.2 y)
abbrev noH : Hp := fun _ => none
theorem ArgsOk.bare (ha : ArgsOk K F H vs as) (h : atoms as = true) : ArgsOk K noH H vs as where
  len := ha.len
  fh := fun a o e => by cases e
  dat := fun i d e => by
    obtain ⟨v, h1, h2⟩ := ha.dat i d e
    exact ⟨v, h1, at_any (atoms_get h e) h2⟩
  cel := fun i p xs e => by
    obtain ⟨rfl, a, us, h1, h2, h3, h4⟩ := ha.cel i p xs e
    exact ⟨rfl, a, us, h1, rfl, h3, ats_any (atoms_get h e) h4⟩
  sep := ha.sep
  nod := ha.nod
/-- both -/
def joinH (F F' : Hp) : Hp := fun a => match F' a with
  | some o => some o
  | none => F a
theorem PostOk.back {F' H' : Hp} {as' : List SD} {v : V} {r : SD} (ha : ArgsOk K F H vs as) (p : PostOk K noH H vs as F' H' as' v r) : PostOk K F H vs as (joinH F F') H' as' v r := by
  have e1 : Ex F (joinH F F') := fun a o e => by
    unfold joinH
    split
    · rename_i u z
      rcases p.newF a u z with y | y
      · cases y
      · have := ha.fh a o e
        rw [y] at this
        cases this
    · exact e
  have e2 : Ex F' (joinH F F') := fun a o e => by
    unfold joinH
    rw [e]
  have nn : ∀ {a : Addr}, F a = none → F' a = none → joinH F F' a = none := fun {a} h1 h2 => by
    unfold joinH
    rw [h2]
    exact h1
  have fr : ∀ (a : Addr) (o : HO), F a = some o → F' a = none → H' a = some o := fun a o e n => p.frame a o (ha.fh a o e) fun i q xs z y => by
    obtain ⟨_, b, us, y1, y2, _⟩ := ha.cel i q xs z
    rw [y] at y1
    cases y1
    rw [e] at y2
    cases y2
  refine ⟨e1, fun a o e => ?_, fun a o e => ?_, p.frame, fun i q xs a z y => ?_, ?_⟩
  · unfold joinH at e
    split at e
    · rename_i u z
      cases e
      exact p.fh a _ z
    · exact fr a o e ‹_›
  · unfold joinH at e
    split at e
    · rename_i u z
      exact .inr ((p.newF a u z).elim (fun w => by cases w) id)
    · exact .inl e
  · obtain ⟨ys, us, c1, c2, c3, c4⟩ := p.cel i q xs a z y
    obtain ⟨_, b, us0, y1, y2, _⟩ := ha.cel i q xs z
    rw [y] at y1
    cases y1
    exact ⟨ys, us, c1, nn y2 c2, c3, c4.mono e2⟩
  · have := p.res
    cases r with
    | un => exact this
    | dat d => exact DR.mono e2 this
    | dic _ => exact this.elim
    | cel b xs =>
      obtain ⟨a, us, h1, h2, h3, h4, h5⟩ := this
      refine ⟨a, us, h1, nn ?_ h2, h3, h4.mono e2, h5⟩
      cases z : F a with
      | none => rfl
      | some o =>
        have := ha.fh a o z
        rw [h5] at this
        cases this
end
section
variable {P : Program} {w : World} {K : PySem.W.Frag} {mg : Str → Option Value} {base : Heap}
def defEndsN (m : Nat) (Q : SD → List SD → Prop) : DEnds := { nx := fun env => Q (.dat .none) (env.take m), rt := Q, nol := true }
theorem dfnN (m : Nat) {x qual : Str} {st : Stmt} {f : Addr} {fd : FuncData} {N ps : List Str} {k : Nat} {S : DSp} (Fn : Fun K x qual st f fd) (sc : FnScope N ps (defScope st)) (len : ∀ as Q, S as Q → as.length = ps.length) (cels : CelsIn m S)
    (hbody : ∀ {Z : Zx} (cdv : Value) (A : Around) (outer : List Env) (s : Shared) (H : Hp), Room k (A.deeper (envOfC qual (defScope st) s.heap.objs.size f cdv)) → (A.deeper (envOfC qual (defScope st) s.heap.objs.size f cdv)).guards = some [] →
      ∃ t : DS, PSs (cxOf CX0 P w K mg base N qual (defScope st) f cdv A outer s H E0).nox (defBody st) (liftS K Z m t) ∧
        ∀ as Q, S as Q → atoms as = true ∧ t (defEndsN m Q) (as ++ List.replicate (N.length - ps.length) .un)) : FnG P w K mg base (k + 1) f fd ps S := by
  obtain ⟨oc, od, kV, doc, pm, an, cdv, ct, osl, rfl, lk, hcd⟩ := Fn.ex
  refine ⟨len, fun A outer s H args us vs Q hr hg e0 hb rv ⟨F0, as, PP, ha, hS, hQ⟩ => ?_⟩
  have hl : vs.length = ps.length := ha.len.symm.trans (len as PP hS)
  have hpl : ps.length ≤ N.length := by
    have := congrArg List.length sc.pre
    rw [List.length_take] at this
    omega
  have KX : K.In s.heap := e0.mod.kin.keeps fun b o e => (e0.bs b o e).1
  refine codeAny_call_function hr.depth (KX _ _ lk) rfl sc.co sc.gen rfl (PySem.W.codeRec_of KX hcd) (hb _ _ _ _ (wpAny_newFunctionEnv_cells sc.kind (fun ⟨n, v⟩ hy => ?_) fun env he s1 x => ?_))
  · rcases sc.par n (List.of_mem_zip hy).1 with q | q
    · exact .inl q
    · exact .inr ⟨q, PySem.W.cellsFrom_some _ _ _ (.inl q)⟩
  · subst he
    obtain ⟨t, ht, hq⟩ := hbody (Z := entryZ P w noH H vs as) cdv A outer s H (hr.deeper _) hg
    have I : Inv (cxOf CX0 P w K mg base N qual (defScope st) f cdv A outer s H E0) [] (start N vs) H s1 := inv_start sc hr.hd e0 hl rv x
    refine ⟨(e0.mod.nolimit.keeps fun b o e => (e0.bs b o e).1).keeps x.toInCall.keep, codeAny_func (wpAny_mono (ht.nox.run [] s1 (start N vs) H { nx := fun _ H' => Q .non H', rt := Q } I ?_) (fun fl s' hs => ?_) fun e s' hs => hs)⟩
    · have al : as.length = ps.length := len as PP hS
      obtain ⟨hat, hq⟩ := hq as PP hS
      have hab := ha.bare hat
      have four : ∀ F2, Ends4 K m (entryG P w noH H vs as) F2 (defEndsN m PP) { nx := fun _ H' => Q .non H', rt := Q } := fun F2 =>
        .mk (fun env' σ' F' H' p _ k' => hQ _ _ _ _ _ p ((post_of (r := .dat .none) k' (cels _ _ hS) DR.non).back ha)) (fun _ _ _ _ p => p.elim) (fun _ _ _ _ p => p.elim) (fun r env' v σ' F' H' p _ k' r' => hQ _ _ _ _ _ p ((post_of k' (cels _ _ hS) r').back ha))
      exact ⟨entryG P w noH H vs as, noH, _, _, entry_ok hab al hpl, hq, four _, fun _ => ⟨fun _ => rfl, four⟩⟩
    · have fin : ∀ {σ' : L2.St} {H' : Hp} {v : V} {u : Value}, Inv (cxOf CX0 P w K mg base N qual (defScope st) f cdv A outer s H E0) [] σ' H' s' → RelV v u → Q v H' → CE outer P w H s Q u s' :=
        fun {σ' H' v u} J r q => ⟨v, H', J.os, J.bare, J.base, J.hok, r, q⟩
      match fl, hs with
      | .ret u, ⟨v, σ', H', J, r, q⟩ => exact fin J r q
      | .next, ⟨σ', H', J, q⟩ => exact fin (v := V.non) (u := Value.none) J rfl q
      | .brk, ⟨_, _, _, q⟩ => exact q.elim
      | .cont, ⟨_, _, _, q⟩ => exact q.elim
end
end DL

namespace DL
variable {Z : Zx}
open PySem PySem.Spec PyProof.Rows L2
open Evl (Ex)
section
variable {X : Cx} {e : Expr} {wx : DX} {m : Nat} {pos : Pos}
end
end DL

namespace DL
variable {Z : Zx}
open PySem PySem.Spec PyProof.Rows L2
open Evl (Ex)
inductive Fx where
  | tup (x : Str) (ns : List Int)
  | exc (c : Str)
  | txt (x z : Str)
def intsB : List Value → List Int → Bool
  | [], [] => true
  | .int i _ :: r, n :: ns => decide (i = n) && intsB r ns
  | _, _ => false
def tupB (K : PySem.W.Frag) (a : Addr) (ns : List Int) : Bool := match K.lookup a with
  | some ⟨c, none, .seq its _, _⟩ => decide (c = .type "tuple") && (decide (its.size ≤ 1000) && intsB its.toList ns)
  | _ => false
def Fx.ok (K : PySem.W.Frag) : Fx → Bool
  | .tup x ns => He.eqO (PySem.W.nsIn K mainGlobals x) (some (some (.ref (He.ga K x)))) && tupB K (He.ga K x) ns
  | .exc c => He.eqO (PySem.W.nsIn K mainGlobals c) (some (some (.ref (He.ga K c)))) && xcB K c
  | .txt x z => (He.Fa.str x z).ok K
def FxSays (fx : List Fx) (K : PySem.W.Frag) : Prop := fx.all (fun f => f.ok K) = true
def fxG (n : Nat) (fx : List Fx) (g : Addr → Option Obj) : Bool := match fx with
  | [] => true
  | f :: r => (f :: r).all fun f => f.ok (He.frG g (He.asG g n))
theorem fxG_all {n : Nat} {fx : List Fx} {g : Addr → Option Obj} (h : fxG n fx g = true) : FxSays fx (He.frG g (He.asG g n)) := by
  cases fx with
  | nil => rfl
  | cons f r => exact h
def hookX (n : Nat) (fa : List He.Fa) (fn : List He.FnD) (fx : List Fx) : PySem.W.Hook where
  α := He.Al × Bool × Bool
  obs := fun s => (He.obsG n fa fn s.heap.get?, sysB s.heap.get?, fxG n fx s.heap.get?)
  val := fun _ => (He.valE fn, true, true)
  says := fun _ h => (∃ K : PySem.W.Frag, K.In h ∧ He.SaysE fa fn K ∧ FxSays fx K) ∧ SysD h
  of := fun w s e => ⟨⟨He.frG s.heap.get? (He.asG s.heap.get? n), He.frG_in, congrArg Prod.fst e, fxG_all (congrArg (fun z => z.2.2) e)⟩, sysB_of (congrArg (fun z => z.2.1) e)⟩
  keeps := fun w h h' ⟨⟨K, hK, c⟩, o, es, ep, e, d⟩ k => ⟨⟨K, PySem.W.Frag.In.keeps hK k, c⟩, o, es, ep, k _ _ e, d⟩
theorem obsX_eq {n : Nat} {fa : List He.Fa} {fn : List He.FnD} {fx : List Fx} {g : Addr → Option Obj} {s : Shared} (h : ∀ a, g a = s.heap.get? a) : (He.obsG n fa fn g, sysB g, fxG n fx g) = (hookX n fa fn fx).obs s := by
  have e : g = s.heap.get? := funext h
  rw [e] <;> rfl
structure TopX (fa : List He.Fa) (fn : List He.FnD) (fx : List Fx) (K : PySem.W.Frag) (mg : Str → Option Value) : Prop extends Top fa fn K mg where
  more : FxSays fx K
theorem TopX.fact {fa : List He.Fa} {fn : List He.FnD} {fx : List Fx} {K : PySem.W.Frag} {mg : Str → Option Value} (T : TopX fa fn fx K mg) (i : Nat) {f : Fx} (h : fx[i]? = some f := by rfl) : f.ok K = true := List.all_eq_true.mp T.more f (List.mem_of_getElem? h)
/-- a tuple of whole numbers at the module's top -/
def CtT (K : PySem.W.Frag) (mg : Str → Option Value) (x : Str) (ns : List Int) : Prop := ∃ a, mg x = some (.ref a) ∧ tupB K a ns = true
theorem TopX.tup {fa : List He.Fa} {fn : List He.FnD} {fx : List Fx} {K : PySem.W.Frag} {mg : Str → Option Value} (T : TopX fa fn fx K mg) (x : Str) (ns : List Int) (i : Nat) (h : fx[i]? = some (.tup x ns) := by rfl) : CtT K mg x ns := by
  obtain ⟨hp, h1, h2⟩ := T.ns
  obtain ⟨c1, c2⟩ := He.ba (show (He.eqO (PySem.W.nsIn K mainGlobals x) (some (some (.ref (He.ga K x)))) && tupB K (He.ga K x) ns) = true from T.fact i h)
  exact ⟨_, PySem.W.mg_of h1 h2 (He.eqO_ok c1), c2⟩
/-- a class of refusals of the module -/
def CtE (K : PySem.W.Frag) (mg : Str → Option Value) (x : Str) : Prop := mg x = some (.ref (He.ga K x)) ∧ XcF K x
theorem TopX.exc {fa : List He.Fa} {fn : List He.FnD} {fx : List Fx} {K : PySem.W.Frag} {mg : Str → Option Value} (T : TopX fa fn fx K mg) (c : Str) (i : Nat) (h : fx[i]? = some (.exc c) := by rfl) : CtE K mg c := by
  obtain ⟨hp, h1, h2⟩ := T.ns
  obtain ⟨c1, c2⟩ := He.ba (show (He.eqO (PySem.W.nsIn K mainGlobals c) (some (some (.ref (He.ga K c)))) && xcB K c) = true from T.fact i h)
  exact ⟨PySem.W.mg_of h1 h2 (He.eqO_ok c1), xcB_ok c2⟩
/-- a text at the module's top -/
theorem TopX.txt {fa : List He.Fa} {fn : List He.FnD} {fx : List Fx} {K : PySem.W.Frag} {mg : Str → Option Value} (T : TopX fa fn fx K mg) (x z : Str) (i : Nat) (h : fx[i]? = some (.txt x z) := by rfl) : ∃ t, mg x = some (.str z t) := by
  obtain ⟨hp, h1, h2⟩ := T.ns
  exact He.str_ok h1 h2 (T.fact i h)
section
variable {X : Cx} {a b e : Expr} {we wa wb : DE} {pos : Pos}
end
end DL

namespace DL
variable {Z : Zx}
open PySem PySem.Spec PyProof.Rows L2
open Evl (Ex)
section
variable {X : Cx} {a b e : Expr} {we wa wb : DE} {pos : Pos}
end
end DL

namespace DL
variable {Z : Zx}
open PySem PySem.Spec PyProof.Rows L2
open Evl (Ex)
/-- set() as it is laid -/
def nset (w : World) : Obj := { cls := .type "set", dict := none, data := .set #[] 0 (.fresh 0 0 (!w.params.followText "set-order")) }
section
variable {P : Program} {w : World} {A : Around} {E : Value → Shared → Prop} {s : Shared}
/-- what is left of set.__init__: from an empty set at S on -/
theorem set_fill {S l : Addr} {its : List Value} {ns : List Int} {R : Value → Shared → Prop} (hh : A.handled = none) (hS : s.heap.get? S = some (nset w)) (hl : s.heap.IsList l its.toArray) (hi : IntsAre its ns) (hb : ns.length + 1 < scanBound) (hne : l ≠ S)
    (h : ∀ (h' : Heap) (tk c : Nat), SetR w h' S (fun j => decide (j ∈ ns)) c → c ≤ ns.length → (∀ b o, b ≠ S → s.heap.get? b = some o → h'.get? b = some o) → R .none { s with heap := h', toks := tk }) :
    codeAny (model P w) A (.call (.builtin "set.__init__") ⟨[.ref S, .ref l], []⟩) (wants R E) s := by
  have ty : s.TypeIs (.ref S) "set" := ⟨_, hS, rfl⟩
  have lenI : its.length = ns.length := IntsAre.length hi
  have ltS : S < s.heap.objs.size := Heap.lt_size hS
  refine codeAny_call_builtin F.called_set.init.plain F.entry_set_init (check_set_init_1 ty ?_)
  obtain ⟨lo, elo, elc, ln, eld⟩ := id hl
  have ltl : l < s.heap.objs.size := Heap.lt_size elo
  obtain ⟨c0, d0, dt0, sl0⟩ := lo
  dsimp only at elc eld
  subst elc eld
  have n1 := F.sub_list_set
  have n2 := F.sub_list_frozenset
  have n3 : (Value.type "list" == Value.type "dict") = false := by decide
  unfold Builtin.«set.__init__» noKeywords Builtin.Frozenset.updateFrom
  generalize eP : pyIter = PI
  wp_walk
  subst eP
  refine wpAny_pyIter_list hl (wpAny_bind (wpAny_runValue ?_))
  have h3 : A.in1.in1.handled = none := by simp [hh]
  have nI : l ≠ s.heap.objs.size := Nat.ne_of_lt ltl
  have nf : S ∉ [s.heap.objs.size, l] := by
    simp only [List.mem_cons, List.not_mem_nil, or_false, not_or]
    exact ⟨Nat.ne_of_lt ltS, Ne.symm hne⟩
  have vals : ∀ (i : Nat) (v : Value), its.toArray[i]? = some v → ∃ k t, ns[i]? = some k ∧ v = .int k t := fun i v hv => by
    have hv2 : its[i]? = some v := by simpa using hv
    obtain ⟨t, e⟩ := PyProof.Rows.IntsAre.int_at hi i v hv2
    have hil : i < ns.length := by rw [← lenI]; exact (List.getElem?_eq_some_iff.mp hv2).1
    exact ⟨ns[i], t, List.getElem?_eq_getElem hil, by rw [e, List.getD_eq_getElem?_getD, List.getElem?_eq_getElem hil] <;> rfl⟩
  refine set_update_ints ((Walks.list h3 _ l nI its.toArray).toS) S nf ns (by simpa using lenI) hb vals (its.toArray.size - 0) 0 _ (by omega) (Nat.zero_le _) ⟨⟨_, Heap.get?_push_size _ rfl, rfl, rfl⟩, (hl.push _)⟩ ⟨0, Nat.le_refl 0, ?_⟩ ?_
  · exact setR_new_at (Heap.get?_push_of_some _ hS)
  · intro s' c hm hc hR
    obtain ⟨h', g2, d', tk', os'⟩ := s'
    have e1 : g2 = s.gens := hm.gens
    have e2 : d' = s.drawn := hm.drawn
    have e3 : os' = s.os := hm.os
    subst e1 e2 e3
    refine wpAny_pure (wpAny_pure ?_)
    refine h h' tk' c hR (by simpa [lenI] using hc) fun b o nb e => ?_
    exact hm.heap b o (by simp only [List.mem_cons, List.not_mem_nil, or_false, not_or]; exact ⟨nb, Nat.ne_of_lt (Heap.lt_size e)⟩) (Heap.get?_push_of_some _ e)
/-- set(xs) -/
theorem call_set_ints {l : Addr} {its : List Value} {ns : List Int} {Q : Value → Shared → Prop} (hh : A.handled = none) (hl : s.heap.IsList l its.toArray) (hi : IntsAre its ns) (hb : ns.length + 1 < scanBound)
    (h : ∀ (h' : Heap) (tk c : Nat), SetR w h' s.heap.objs.size (fun j => decide (j ∈ ns)) c → c ≤ ns.length → (∀ b o, s.heap.get? b = some o → h'.get? b = some o) → Q (.ref s.heap.objs.size) { s with heap := h', toks := tk }) :
    wpAny (model P w) A (call (.type "set") [.ref l]) Q E s := by
  have ll : l < s.heap.objs.size := by obtain ⟨_, e, _⟩ := id hl; exact Heap.lt_size e
  obtain ⟨mc, mt, q1⟩ := F.called_set.mro
  have q2 := F.called_set.made
  have q3 := F.called_set.sub
  have q4 := F.called_set.notType
  have q5 := F.called_set.canCreate
  have q6 := F.typeCall_set_1 (.ref l)
  apply wpAny_call
  apply codeAny_of_tree
  show wpAny _ _ (callAny (.type "set") _) _ _ _
  apply wpAny_pure
  refine ⟨Code.quiet_builtin _ (by decide +kernel), codeAny_builtin F.entry_type_call ?_⟩
  rw [show A.under _ = _ from Around.under_plain (weight_type_call_type "set" [.ref l] []) rfl]
  repeat any_goals first | assumption | wp_step
  refine codeAny_mono (code_set_led1 (.ref l) (E := E) (Q₁ := fun o z => o = .ref s.heap.objs.size ∧ z = { s with heap := s.heap.push (nset w) }) ⟨rfl, rfl⟩) fun r z hr => ?_
  match r, hr with
  | .error e, hr => exact hr
  | .ok (.ret o), hr =>
    obtain ⟨rfl, rfl⟩ := hr
    have w1 := F.called_set.init.lookup
    have w2 := F.called_set.init.bind (.ref s.heap.objs.size)
    have w3 : Shared.TypeIs { s with heap := s.heap.push (nset w) } (.ref s.heap.objs.size) "set" := ⟨_, Heap.get?_push_size _ rfl, rfl⟩
    repeat any_goals first | assumption | wp_step
    refine codeAny_mono (set_fill (E := E) (R := fun r z => r = .none ∧ ∃ h' tk c, z = { s with heap := h', toks := tk } ∧ SetR w h' s.heap.objs.size (fun j => decide (j ∈ ns)) c ∧ c ≤ ns.length ∧ ∀ b o, s.heap.get? b = some o → h'.get? b = some o) (by simp [hh]) (Heap.get?_push_size _ rfl) (hl.push _) hi hb (Nat.ne_of_lt ll) fun h' tk c a1 a2 a3 => ⟨rfl, h', tk, c, rfl, a1, a2, fun b o e => a3 b o (Nat.ne_of_lt (Heap.lt_size e)) (Heap.get?_push_of_some _ e)⟩) fun r2 z2 hz => ?_
    match r2, hz with
    | .error e, hz => exact hz
    | .ok (.ret u), hz =>
      obtain ⟨rfl, h', tk, c, rfl, a1, a2, a3⟩ := hz
      repeat any_goals first | assumption | wp_step
      exact h _ _ _ a1 a2 a3
    | .ok .next, hz => exact hz.elim
    | .ok .brk, hz => exact hz.elim
    | .ok .cont, hz => exact hz.elim
  | .ok .next, hr => exact hr.elim
  | .ok .brk, hr => exact hr.elim
  | .ok .cont, hr => exact hr.elim
end
def rSetI (w : World) (K : PySem.W.Frag) : List V → Hp → VK → Prop := fun xs H Q => ∃ (l : Addr) (ns : List Int), xs = [V.ref l] ∧ SqL K H l (ns.map V.int) ∧ ns.length + 1 < scanBound ∧ ∀ p c, H p = none → c ≤ ns.length → Q (.ref p) (upd H p (SetO w p (fun j => decide (j ∈ ns)) c))
theorem call_setI {X : Cx} (hc : X.calm = true) : CallR X (.type "set") (rSetI X.w X.K) := by
  intro pins s σ H xs us Q I r h
  obtain ⟨l, ns, rfl, hl, hb, q⟩ := h
  rw [Vals.ref1 r]
  obtain ⟨its, rv, pl, hz⟩ := I.list hl
  refine call_set_ints (I.ok.hd hc) pl.isList (ints_of_vals rv) hb fun h' tk c R hcn k => ?_
  exact ⟨.ref s.heap.objs.size, upd H s.heap.objs.size (SetO X.w s.heap.objs.size (fun j => decide (j ∈ ns)) c), I.laid (t' := tk) k (Nat.le_refl _) (setO_new R), rfl, q _ _ (I.hok.fresh (Nat.le_refl _)) hcn⟩
end DL

namespace DL
variable {Z : Zx}
open PySem PySem.Spec PyProof.Rows L2
open Evl (Ex)
/-- the members once each, rising -/
def sortSetQ (d : PyData) (K : List PyData → Prop) : Prop := match d with
  | .list ds => match intsD ds with
    | some ns => ns.length < 63 ∧ ∀ ms : List Int, ms.Pairwise (· < ·) → (∀ k, k ∈ ms ↔ k ∈ ns) → K (ms.map .int)
    | none => False
  | _ => False
theorem q_sortSet {ns : List Int} {K : List PyData → Prop} : sortSetQ (.list (ns.map .int)) K = (ns.length < 63 ∧ ∀ ms : List Int, ms.Pairwise (· < ·) → (∀ k, k ∈ ms ↔ k ∈ ns) → K (ms.map .int)) := by
  unfold sortSetQ
  dsimp only
  rw [ints_map]
def dSortSet (wa : DE) (env : List SD) (P : SD → List SD → Prop) : Prop := wa env fun d env1 => sortSetQ d fun xs => P (.cel false xs) env1
section
variable {X : Cx} {a : Expr} {wa : DE} {p p2 pos pos2 : Pos}
theorem dsortSet (hc : X.calm = true) (hm : X.mg "sorted" = none) (hm2 : X.mg "set" = none) (ha : PE X a (liftE X.K Z wa)) (hg : Gl X "sorted" := by rfl) (hg2 : Gl X "set" := by rfl)
    (n1 : starEach [a] X.env = (false, eval a X.env) :: starEach [] X.env := by rfl)
    (n2 : starEach [.Call (.Name "set" p2) [a] [] pos2] X.env = (false, eval (.Call (.Name "set" p2) [a] [] pos2) X.env) :: starEach [] X.env := by rfl) :
    PE X (.Call (.Name "sorted" p) [.Call (.Name "set" p2) [a] [] pos2] [] pos) (liftX X.K Z (dSortSet wa)) :=
  PE.of (pe_callB (cr_sortedSet hc) hg hm (by decide +kernel) (pa_cons (pe_callTy (call_setI hc) hg2 hm2 (by decide +kernel) (pa_cons ha pa_nil n1) (by decide) (by decide) n1 (by rfl)) pa_nil n2) (by decide) (by decide) n2 (by rfl)) fun σ H Q ⟨g, F, env, P, k, w, q⟩ =>
    ⟨g, F, env, _, k, w, fun d env1 v F1 H1 p e1 k1 r1 => by
      unfold sortSetQ at p
      split at p
      · rename_i ds
        split at p
        · rename_i ns e
          obtain ⟨l, us, rfl, h1, h2⟩ := r1.inv_lst
          cases ints_rel h2 e
          have sb : ns.length + 1 < scanBound := by unfold scanBound; have := p.1; omega
          refine ⟨l, ns, rfl, (h1.mono k1.fh).sq, sb, fun a1 c hp1 hc1 => ?_⟩
          refine ⟨a1, _, c, rfl, upd_same, by have := p.1; omega, fun ms a2 s1 s2 s3 hp2 => ?_⟩
          obtain ⟨k3, r3⟩ := (k1.extra (o := SetO X.w a1 (fun j => decide (j ∈ ns)) c) hp1).newCell hp2 (drs_ints ms)
          exact q _ env1 _ F1 _ (p.2 ms s1 fun z => (s2 z).trans decide_eq_true_iff) e1 k3 r3
        · exact p.elim
      · exact p.elim⟩
end
/-- such a row is one alone -/
theorem rise_uniq : ∀ {l m : List Int}, l.Pairwise (· < ·) → m.Pairwise (· < ·) → (∀ k, k ∈ l ↔ k ∈ m) → l = m
  | [], [], _, _, _ => rfl
  | [], b :: m, _, _, h => by have := (h b).mpr (List.mem_cons_self ..); simp at this
  | a :: l, [], _, _, h => by have := (h a).mp (List.mem_cons_self ..); simp at this
  | a :: l, b :: m, hl, hm, h => by
    obtain ⟨l1, l2⟩ := List.pairwise_cons.mp hl
    obtain ⟨m1, m2⟩ := List.pairwise_cons.mp hm
    have e : a = b := by
      rcases List.mem_cons.mp ((h a).mp (List.mem_cons_self ..)) with z | z
      · exact z
      · rcases List.mem_cons.mp ((h b).mpr (List.mem_cons_self ..)) with y | y
        · exact y.symm
        · have := m1 a z
          have := l1 b y
          omega
    subst e
    congr 1
    refine rise_uniq l2 m2 fun k => ⟨fun z => ?_, fun z => ?_⟩
    · rcases List.mem_cons.mp ((h k).mp (List.mem_cons_of_mem _ z)) with y | y
      · have := l1 k z; omega
      · exact y
    · rcases List.mem_cons.mp ((h k).mpr (List.mem_cons_of_mem _ z)) with y | y
      · have := m1 k z; omega
      · exact y
end DL

namespace DL
variable {Z : Zx}
open PySem PySem.Spec PyProof.Rows L2
open Evl (Ex)
/-- what is told of a refusal: its class and the names' data -/
abbrev RD := Str → List SD → Prop
def liftW (K : PySem.W.Frag) (Z : Zx) (Ed : RD) : WX := fun cls d σ H => ∃ c : Str, cls = .ref (He.ga K c) ∧ d = none ∧ XcF K c ∧ ∃ (g : Gx Z) (F : Hp) (env : List SD), Ok K g F env σ H ∧ Ed c env
abbrev DSpX := List SD → (SD → List SD → Prop) → (Str → Prop) → Prop
abbrev XWish := Value → Option Addr → Hp → Prop
def spDX (K : PySem.W.Frag) (S : DSpX) (vs : List V) (H : Hp) (Q : VK) (E : XWish) : Prop := ∃ (F : Hp) (as : List SD) (P : SD → List SD → Prop) (Ec : Str → Prop), ArgsOk K F H vs as ∧ S as P Ec ∧
  (∀ r as' v F' H', P r as' → PostOk K F H vs as F' H' as' v r → Q v H') ∧ ∀ c F' H', Ec c → XcF K c → PostOk K F H vs as F' H' [] .non (.dat .none) → E (.ref (He.ga K c)) none H'
/-- no cell is handed in -/
def NoCel (as : List SD) : Prop := ∀ (i : Nat) (p : Bool) (xs : List PyData), as[i]? ≠ some (.cel p xs)
/-- as FnG, for a def that may refuse -/
structure FnX (P : Program) (w : World) (K : PySem.W.Frag) (mg : Str → Option Value) (base : Heap) (k : Nat) (f : Addr) (fd : FuncData) (ps : List Str) (S : DSpX) : Prop where
  len : ∀ as Q E, S as Q E → as.length = ps.length
  nc : ∀ as Q E, S as Q E → NoCel as
  go : ∀ (A : Around) (outer : List Env) (s : Shared) (H : Hp) (args : Args) (us : List Value) (vs : List V) (Q : VK) (E : XWish), Room k A → A.guards = some [] → Env0 P w K mg base A outer s H →
    BindsTo s fd args (ps.zip us) → Vals vs us → spDX K S vs H Q E → codeAny (model P w) A (.call (.ref f) args) (CR (L2.CX P w) outer P w H s Q E) s
structure DnX (P : Program) (w : World) (K : PySem.W.Frag) (mg : Str → Option Value) (base : Heap) (x : Str) (k : Nat) (ps : List Str) (S : DSpX) : Prop where
  ex : ∃ fd, FnX P w K mg base k (He.ga K x) fd ps S ∧ Binds K fd ps []
  glo : mg x = some (.ref (He.ga K x))
  kp : PySem.W.keepIn K (.ref (He.ga K x)) = true
section
variable {X : Cx} {k : Nat} {f : Addr} {fd : FuncData} {ps : List Str} {S : DSpX} {x : Str} {p pos : Pos} {e : Expr} {es : List Expr} {was : DA} {Ed : RD}
theorem run_x {pins : List (Addr × Obj)} {σ : L2.St} {H : Hp} {s : Shared} {Q : VK} {us : List Value} {vs : List V} (G : FnX X.prog X.w X.K X.mg X.base k f fd ps S) (hr : Room k X.A) (hA : X.A.guards = some []) (hb : Binds X.K fd ps [])
    (tk : Takes X (liftW X.K Z Ed)) (I : Inv X pins σ H s) (rv : Vals vs us) (h : spDX X.K S vs H Q (fun cls d H' => liftW X.K Z Ed cls d σ H')) : wpAny (model X.prog X.w) X.A (call (.ref f) us) (EP X pins σ Q) X.xe s := by
  obtain ⟨F0, as, P, Ec, a1, a2, _⟩ := id h
  have hl : (us ++ ([] : List Value)).length = ps.length := by rw [List.append_nil, ← rv.length, ← a1.len]; exact G.len _ _ _ a2
  have hbb := hb s us I.kIn hl
  rw [List.append_nil] at hbb
  refine wpAny_call (codeAny_mono (G.go X.A X.stack s H ⟨us, []⟩ us vs Q _ hr hA I.env0 hbb rv h) fun res s' hq => ?_)
  match res, hq with
  | .error e, hq => exact passAt tk σ pins H s e s' I hq
  | .ok (.ret u), hq => exact I.after hq
  | .ok .next, hq => exact hq.elim
  | .ok .brk, hq => exact hq.elim
  | .ok .cont, hq => exact hq.elim
/-- f(..), which may refuse -/
def dCallE (S : DSpX) (Ed : RD) (was : DA) (env : List SD) (P : SD → List SD → Prop) : Prop := was env fun ds env1 => S (ds.map .dat) (fun r _ => P r env1) fun c => Ed c env1
theorem dcnE (D : DnX X.prog X.w X.K X.mg X.base x k ps S) (hr : Room k X.A) (hA : X.A.guards = some []) (tk : Takes X (liftW X.K Z Ed))
    (ha : PA X (e :: es) (liftA X.K Z was)) (hg : Gl X x := by rfl) (hdb : (x == ("__debug__" : Str)) = false := by decide)
    (he : starEach (e :: es) X.env = (false, eval e X.env) :: starEach es X.env := by rfl) (hpl : (backTo pos (starEach es X.env)).any (·.1) = false := by rfl) : PE X (.Call (.Name x p) (e :: es) [] pos) (liftX X.K Z (dCallE S Ed was)) := by
  obtain ⟨fd, G, hb⟩ := D.ex
  refine ⟨fun pins s σ H Q I ⟨g, F, env, P, k0, w, q⟩ => wpAny_Call_Name_kw (ld_glob I hg D.glo (PySem.W.callWith_K (h₀ := X.base) I.ok.mod.kin D.kp (thn (ha.run pos pins s σ H (spDX X.K S · · Q fun cls d H' => liftW X.K Z Ed cls d σ H') I ?_) fun us s1 ⟨vs, H1, I1, r, q1⟩ => ⟨I1.kIn, run_x G hr hA hb tk I1 r q1⟩) he hpl) hdb)⟩
  refine ⟨g, F, env, _, k0, w, fun ds env1 vs F1 H1 p1 e1 k1 r1 => ⟨F1, ds.map .dat, _, _, args_dat k1.fh r1, p1, fun r as' v F2 H2 p2 po => ?_, fun c F2 H2 p2 xc po => ?_⟩⟩
  · obtain ⟨k2, r2⟩ := k1.after no_cel po
    exact q r env1 v F2 H2 p2 (e1.trans po.ex) k2 r2
  · exact ⟨c, rfl, rfl, xc, g, F2, env1, (k1.after no_cel po).1, p2⟩
end
section
variable {X : Cx} {m : Nat} {pos : Pos} {Ed : RD}
/-- raise X('..') -/
def dRaise (c : Str) (Ed : RD) (_ : DEnds) (env : List SD) : Prop := Ed c env
theorem sraise {x msg : Str} {j : Nat} {p p2 pos2 : Pos} (hx : CtE X.K X.mg x) (hc : X.calm = true) (tk : Takes X (liftW X.K Z Ed)) (hg : Gl X x := by rfl) (hdb : (x == ("__debug__" : Str)) = false := by decide) :
    PS X (.Raise (some (.Call (.Name x p) [.Constant (.str msg) j p2] [] pos2)) none pos) (liftS X.K Z m (dRaise x Ed)) :=
  PS.of (ps_raise hc tk (pmk_own PySem.F.excBase_ValueError hx.2.made hx.1 hx.2.kp (raises_own hx.2.cls.hs hx.2.ty) hg hdb)) fun D σ H ⟨g, F, env, P, k, w, q⟩ =>
    (show liftW X.K Z Ed (.ref (He.ga X.K x)) none σ H from ⟨x, rfl, rfl, hx.2, g, F, env, k, w⟩)
end
section
variable {X : Cx} {pins : List (Addr × Obj)} {σ : L2.St} {H : Hp} {s : Shared} {a C : Addr} {oe : Obj} {vs : Array Value}
theorem excAt_new (e : s.heap.get? a = some oe) (hz : Zc (.ref C) none oe) (hd : oe.data = .fields vs) {P : Program} {w : World} {H : Hp} : ObjOk P w H s.heap a (.ext (ExcAt C a)) :=
  ⟨⟨oe, vs, e, hz.1, hz.2, hd⟩, ⟨oe, e⟩, fun h1 h2 ⟨o, us, q1, q2, q3, q4⟩ kp => ⟨o, us, kp o q1, q2, q3, q4⟩⟩
theorem Inv.caught (I : Inv X pins σ H s) (hex : X.ex = []) (h0 : X.s_0.heap.get? a = none) (hp : ∀ q ∈ X.pn ++ pins, q.1 ≠ a) (e : s.heap.get? a = some oe) (hz : Zc (.ref C) none oe) (hd : oe.data = .fields vs) (na : H a = none)
    (nL : a ≠ X.env.locals) : Inv (X.suite a (X.pn ++ pins)) [] σ (upd H a (.ext (ExcAt C a))) s where
  ok := I.ok.suite _ _
  os := I.os
  bare := I.bare
  base := by
    have hxx : ∀ b : Addr, b ∉ X.ex := fun b hb => by rw [hex] at hb; cases hb
    refine ⟨I.base.keep, I.base.slot, fun b o q n z => ?_, I.base.there, fun b xs q => ?_, fun b o u q => ?_, fun b ps q => ?_⟩
    · have ne : b ≠ a := fun y => by
        subst y
        have q' : X.s_0.heap.get? b = some o := q
        rw [h0] at q'
        cases q'
      rw [upd_ne ne]
      exact I.base.free b o q n z
    · have r := I.base.tups b xs q
      rw [upd_ne (ne_of_none r na)]
      exact r
    · have r := I.base.frzs b o u q
      rw [upd_ne (ne_of_none r na)]
      exact r
    · obtain ⟨more, r⟩ := I.base.tbls b ps q
      exact ⟨more, by rw [upd_ne (ne_of_none r na)]; exact r⟩
  loc := I.loc
  cell := I.cell
  free := by
    show upd H a (.ext (ExcAt C a)) X.env.locals = none
    rw [upd_ne (Ne.symm nL)]
    exact I.free
  freeC := fun x c q => by
    obtain ⟨v, hv⟩ := I.cell x c q
    have ne : c ≠ a := fun y => by
      subst y
      obtain ⟨o, h1, h2⟩ := hv
      rw [e] at h1
      cases h1
      rw [hd] at h2
      cases h2
    rw [upd_ne ne]
    exact I.freeC x c q
  pin := fun q hq => by
    rw [List.append_nil] at hq
    obtain ⟨z1, z2, z3, z4, z5⟩ := I.pin q hq
    exact ⟨z1, by rw [upd_ne (hp q hq)]; exact z2, z3, z4, z5⟩
  hok := fun b o q => by
    by_cases hb : b = a
    · subst hb
      rw [upd_same] at q
      cases q
      exact excAt_new e hz hd
    · rw [upd_ne hb] at q
      exact (I.hok b o q).stay (fun c u _ z => z) (fun c z => by rw [upd_ne (ne_of_none z na)]; exact z) fun c xs z => by rw [upd_ne (ne_of_none z na)]; exact z
  len := I.len
theorem Inv.released {pn' : List (Addr × Obj)} (I : Inv (X.suite a (X.pn ++ pins)) pn' σ H s) (ok : X.Ok) : Inv X pins σ H s where
  ok := ok
  os := I.os
  bare := I.bare
  base := I.base
  loc := I.loc
  cell := I.cell
  free := I.free
  freeC := I.freeC
  pin := fun q hq => I.pin q (List.mem_append_left _ hq)
  hok := I.hok
  len := I.len
end
end DL

namespace DL
variable {Z : Zx}
open PySem PySem.Spec PyProof.Rows L2
open Evl (Ex)
/-- a refusal as a datum -/
abbrev exD (c : Str) : PyData := .dict [(.none, .str c)]
/-- the suite's ends: the clause's name goes -/
def goneEnds (i : Nat) (E : DEnds) : DEnds :=
  { nx := fun e => bIf (noPar e i) (E.nx (e.set i .un)) False, rt := E.rt, bk := fun e => bIf (noPar e i) (E.bk (e.set i .un)) False, ct := fun e => bIf (noPar e i) (E.ct (e.set i .un)) False, nol := false }
def dTry (i : Nat) (wb : RD → DS) (ws : DS) (E : DEnds) (env : List SD) : Prop := wb (fun c env1 => bIf (noPar env1 i) (ws (goneEnds i E) (env1.set i (.dat (exD c)))) False) { nx := E.nx, rt := E.rt, bk := E.bk, ct := E.ct, nol := false } env
section
variable {K : PySem.W.Frag} {g : Gx Z} {F : Hp} {env : List SD} {σ : L2.St} {H : Hp}
/-- what is fixed for a try's body -/
def tryZ (Z : Zx) (F Pr : Hp) : Zx := ⟨F, Z.H0, Z.A0, Pr, Z.P, Z.w⟩
def tryG (g : Gx Z) (F : Hp) : Gx (tryZ Z F g.Pr) := ⟨g.Pr, fun _ _ h => h⟩
theorem Ok.inTry (k : Ok K g F env σ H) : Ok K (tryG g F) F env σ H where
  len := k.len
  fh := k.fh
  dat := k.dat
  cel := k.cel
  sep := k.sep
  pin := k.pin
  frame := k.frame
  newF := fun _ _ e => .inl e
  oldF := Ex.refl F
  prot := k.prot
  dic := k.dic
theorem Ok.ofTry (k0 : Ok K g F env σ H) {g2 : Gx (tryZ Z F g.Pr)} {F2 : Hp} {env2 : List SD} {σ2 : L2.St} {H2 : Hp} (k : Ok K g2 F2 env2 σ2 H2) : Ex F F2 ∧ Ok K g F2 env2 σ2 H2 := by
  have e : Ex F F2 := k.oldF
  refine ⟨e, ⟨k.len, k.fh, k.dat, k.cel, k.sep, k.pin, k.frame, fun a o h => ?_, k0.oldF.trans e, fun a o h => k.prot a o (g2.px a o h), fun i kvs h => ?_⟩⟩
  · rcases k.newF a o h with z | z
    · exact k0.newF a o z
    · exact .inr z
  · obtain ⟨a, xs, h1, h2, h3, h4, h5, h6, h7⟩ := k.dic i kvs h
    refine ⟨a, xs, h1, h2, h3, h4, h5, ?_, h7⟩
    cases q : g.Pr a with
    | none => rfl
    | some o => rw [g2.px a o q] at h6; cases h6
theorem res_ofTry {F2 : Hp} {env2 : List SD} {σ2 : L2.St} {H2 : Hp} {v : V} {r : SD} (h : ResOk K (tryG g F) F2 env2 σ2 H2 v r) : ResOk K g F2 env2 σ2 H2 v r := by
  cases r <;> exact h
theorem Ends4.inTry {m : Nat} {P : DEnds} {D : Ends} (k0 : Ok K g F env σ H) (q : Ends4 K m g F P D) : Ends4 K m (tryG g F) F { nx := P.nx, rt := P.rt, bk := P.bk, ct := P.ct, nol := false } D where
  nx := fun env' σ' F' H' p e k => q.nx env' σ' F' H' p e (k0.ofTry k).2
  bk := fun env' σ' F' H' p e k => q.bk env' σ' F' H' p e (k0.ofTry k).2
  ct := fun env' σ' F' H' p e k => q.ct env' σ' F' H' p e (k0.ofTry k).2
  rt := fun r env' v σ' F' H' p e k rr => q.rt r env' v σ' F' H' p e (k0.ofTry k).2 (res_ofTry rr)
/-- the slot i holds nothing any more -/
def goneD (i : Nat) (D : Ends) : Ends := { nx := fun σ' H' => D.nx (σ'.set i none) H', rt := D.rt, bk := fun σ' H' => D.bk (σ'.set i none) H', ct := fun σ' H' => D.ct (σ'.set i none) H' }
theorem Ends4.gone {m i : Nat} {P : DEnds} {D : Ends} (q : Ends4 K m g F P D) : Ends4 K m g F (goneEnds i P) (goneD i D) where
  nx := fun env' σ' F' H' p e k => q.nx _ _ F' H' (bIf_and p).2 e (k.setU (noPar_of (bIf_and p).1))
  bk := fun env' σ' F' H' p e k => q.bk _ _ F' H' (bIf_and p).2 e (k.setU (noPar_of (bIf_and p).1))
  ct := fun env' σ' F' H' p e k => q.ct _ _ F' H' (bIf_and p).2 e (k.setU (noPar_of (bIf_and p).1))
  rt := q.rt
end
section
variable {X : Cx} {m i : Nat} {pos pos' np : Pos} {n : Str} {body suite : List Stmt} {b₀ : Stmt} {wb : RD → DS} {ws : DS}
/-- a refusal of the body lands in the suite -/
theorem stry (i : Nat) (hPE : X.mg "PrizeError" = some (.ref (He.ga X.K "PrizeError"))) (hN : X.N.Nodup)
    (hb : ∀ {Z' : Zx} (Ed : RD) (pn : List (Addr × Obj)) (xe : Value → Shared → Prop), Takes (X.tr pn xe) (liftW X.K Z' Ed) → PassesOwn (model X.prog X.w) X.A X.env xe → PSs (X.tr pn xe) body (liftS X.K Z' m (wb Ed)))
    (hsu : ∀ (a : Addr) (pn : List (Addr × Obj)), PSs (X.suite a pn) (b₀ :: suite) (liftS X.K Z m ws))
    (hs : X.stack = X.env :: X.outer := by rfl) (hf : X.env.frame = some X.env.locals := by rfl) (hex : X.ex = [] := by rfl) (hi : X.N[i]? = some n := by rfl) (hln : X.env.kindOf n = some .local := by rfl) (hgl : Gl X "PrizeError" := by rfl) :
    PS X (.Try body [.ExceptHandler (some (.Name "PrizeError" np)) (some n) (b₀ :: suite) pos'] [] [] pos) (liftS X.K Z m (dTry i wb ws)) := by
  refine ⟨fun pins s σ H D I ⟨g, F, env, P, k, w, q⟩ => ?_⟩
  have ok := I.ok
  have hfr : X.A.frames = some (X.env :: X.outer) := ok.frames.trans (congrArg some hs)
  let Ed : RD := fun c env1 => bIf (noPar env1 i) (ws (goneEnds i P) (env1.set i (.dat (exD c)))) False
  let hd : List ExceptHandler := [.ExceptHandler (some (.Name "PrizeError" np)) (some n) (b₀ :: suite) pos']
  let xe : Value → Shared → Prop := fun e s1 => wpAny (model X.prog X.w) X.A (noteFrame e X.env) (fun _ s2 => wpAny (model X.prog X.w) X.A (setFlight e none) (fun _ s3 => wpAny (model X.prog X.w) X.A (handleBy e X.env hd) (SP X pins D) X.xe s3) X.xe s2) X.xe s1
  have tk : Takes (X.tr (X.pn ++ pins) xe) (liftW X.K (tryZ Z F g.Pr) Ed) := by
    intro u s' xx
    obtain ⟨x, B, sI, pins', σ1, H1, cls, d, rfl, J0, nb, up, sky, na, os, ag, c, rfl, rfl, xc, g2, F2, env2, k2, hE⟩ := xx
    have J : Inv X pins σ1 H1 sI := J0.ofTry ok
    obtain ⟨hnp, hE⟩ := bIf_and hE
    obtain ⟨eF, k3⟩ := k.ofTry k2
    have sky2 : Sky B (X.env :: X.outer) x (Zc (.ref (He.ga X.K c)) none) X.env.locals s'.heap := hs ▸ sky
    show wpAny (model X.prog X.w) X.A (noteFrame (.ref x) X.env) _ _ _
    refine Sky.land Zc.steady hfr hf sky2 fun h3 fl3 up3 => ?_
    have J3 : Inv X pins σ1 H1 { s' with heap := h3 } := J.landed nb fl3.1 (up.trans up3) os ag
    obtain ⟨o3, v3, g3, z3, f3⟩ := fl3.there
    have nfr : x ∉ frs (X.env :: X.outer) := fun hm => by
      obtain ⟨_, o, e1, e2⟩ := fl3.2.2.1.mem hm
      rw [g3] at e1
      cases e1
      exact e2 _ f3
    have nL : x ≠ X.env.locals := fun z => nfr (List.mem_filterMap.mpr ⟨_, List.mem_cons_self .., hf.trans (congrArg some z.symm)⟩)
    have nF : x ∉ X.fs := fun hm => by
      obtain ⟨e, h1, h2⟩ := List.mem_filterMap.mp hm
      exact nfr (List.mem_filterMap.mpr ⟨e, List.mem_cons_of_mem _ h1, h2⟩)
    have nI : sI.heap.get? x = none := by
      cases z : sI.heap.get? x with
      | none => rfl
      | some o =>
        have := nb x o z (by rw [hs]; exact nfr)
        rw [fl3.2.1] at this
        cases this
    have n0 : X.s_0.heap.get? x = none := by
      cases z : X.s_0.heap.get? x with
      | none => rfl
      | some o =>
        obtain ⟨o', e'⟩ := J.base.there x o z (by rw [hex]; simp)
        rw [nI] at e'
        cases e'
    have npn : ∀ r ∈ X.pn ++ pins, r.1 ≠ x := fun r hr z => by
      have := (J.pin r hr).1
      rw [z, nI] at this
      cases this
    have S3 := J3.suite g3 f3 na nL nF
    refine wpAny_handleBy_cons (codeAny_handlers_test ?_) (by intro q; cases q)
    have kind : PySem.W.Looks (model X.prog X.w) h3 (typeOf (.ref x)) (.ref (He.ga X.K c)) := fun _ _ _ _ kk z => wpAny_typeOf_ref (kk _ _ g3) (by rw [z3.1]; exact z)
    refine ld_glob (X := X.suite x ((x, o3) :: (X.pn ++ pins))) S3 hgl hPE ((PySem.W.exm_one J3.kIn kind xc.exm).here ?_)
    refine codeAny_handlers_suite_as (HandSPX.lands_againZ fl3 fun h4 fl4 up4 => ?_)
    have J4 : Inv X pins σ1 H1 { s' with heap := h4 } := J.landed nb fl4.1 ((up.trans up3).trans up4) os ag
    obtain ⟨o4, v4, g4, z4, f4⟩ := fl4.there
    have S4 := Inv.caught J4 hex n0 npn g4 z4 f4 na nL
    refine store_ok (X := X.suite x (X.pn ++ pins)) (v := .ref x) S4 hN hi (.inl hln) rfl (fun s5 S5 => ?_) (.inr hln)
    have ka : Ok X.K g (upd F2 x (.ext (ExcAt (He.ga X.K c) x))) env2 σ1 (upd H1 x (.ext (ExcAt (He.ga X.K c) x))) := k3.alloc na
    have kb := ka.setD (d := exD c) (v := .ref x) (noPar_of hnp) (.exc upd_same xc)
    have eF2 : Ex F (upd F2 x (.ext (ExcAt (He.ga X.K c) x))) := eF.trans (Ex.new (fnone k3.fh na))
    refine wpAny_mono ((hsu x (X.pn ++ pins)).run [] s5 _ _ (goneD i D) S5 ⟨g, _, _, _, kb, hE, .mk4 (q.ex eF2).four.gone rfl⟩) (fun fl s6 r => ?_) (fun _ _ z => z.elim)
    match fl, r with
    | .next, ⟨_, _, S6, q6⟩ => exact gone_ok (Inv.released S6 ok) hN hi hln fun s7 J7 => ⟨_, _, J7, q6⟩
    | .brk, ⟨_, _, S6, q6⟩ => exact gone_ok (Inv.released S6 ok) hN hi hln fun s7 J7 => ⟨_, _, J7, q6⟩
    | .cont, ⟨_, _, S6, q6⟩ => exact gone_ok (Inv.released S6 ok) hN hi hln fun s7 J7 => ⟨_, _, J7, q6⟩
    | .ret u, ⟨_, _, _, S6, r6, q6⟩ => exact gone_ok (Inv.released S6 ok) hN hi hln fun s7 J7 => ⟨_, _, _, J7, r6, q6⟩
  refine wpAny_Try_except (wpAny_mono ((hb Ed (X.pn ++ pins) xe tk PassesOwn.looking).run [] s σ H D (I.toTry _) ⟨tryG g F, F, env, _, k.inTry, w, .mk4 (Ends4.inTry k q.four) rfl⟩) (fun fl s1 r => ?_) fun e s1 z => z)
  match fl, r with
  | .next, ⟨_, _, J, q1⟩ => exact wpAny_execs_nil ⟨_, _, J.ofTry ok, q1⟩
  | .brk, ⟨_, _, J, q1⟩ => exact ⟨_, _, J.ofTry ok, q1⟩
  | .cont, ⟨_, _, J, q1⟩ => exact ⟨_, _, J.ofTry ok, q1⟩
  | .ret u, ⟨_, _, _, J, r1, q1⟩ => exact ⟨_, _, _, J.ofTry ok, r1, q1⟩
end
end DL

namespace DL
variable {Z : Zx}
open PySem PySem.Spec PyProof.Rows L2
open Evl (Ex)
section
variable {P : Program} {w : World} {K : PySem.W.Frag} {mg : Str → Option Value} {base : Heap}
/-- as dfn, for a def that may refuse: Ec is what its caller wishes of refusals -/
theorem dfnX {x qual : Str} {st : Stmt} {f : Addr} {fd : FuncData} {N ps : List Str} {k : Nat} {S : DSpX} (Fn : Fun K x qual st f fd) (sc : FnScope N ps (defScope st)) (len : ∀ as Q E, S as Q E → as.length = ps.length) (nc : ∀ as Q E, S as Q E → NoCel as)
    (hbody : ∀ {Z : Zx} (Ec : Str → Prop) (cdv : Value) (A : Around) (outer : List Env) (s : Shared) (H : Hp) (E : XWish), Takes (cxOf (L2.CX P w) P w K mg base N qual (defScope st) f cdv A outer s H E) (liftW K Z fun c _ => Ec c) →
      PassesOwn (model P w) (A.deeper (envOfC qual (defScope st) s.heap.objs.size f cdv)) (envOfC qual (defScope st) s.heap.objs.size f cdv) (cxOf (L2.CX P w) P w K mg base N qual (defScope st) f cdv A outer s H E).xe →
      Room k (A.deeper (envOfC qual (defScope st) s.heap.objs.size f cdv)) → (A.deeper (envOfC qual (defScope st) s.heap.objs.size f cdv)).guards = some [] →
      ∃ t : DS, PSs (cxOf (L2.CX P w) P w K mg base N qual (defScope st) f cdv A outer s H E) (defBody st) (liftS K Z 0 t) ∧
        ∀ as Q, S as Q Ec → t (defEnds 0 Q) (as ++ List.replicate (N.length - ps.length) .un)) : FnX P w K mg base (k + 1) f fd ps S := by
  obtain ⟨oc, od, kV, doc, pm, an, cdv, ct, osl, rfl, lk, hcd⟩ := Fn.ex
  refine ⟨len, nc, fun A outer s H args us vs Q E hr hg e0 hb rv ⟨F0, as, PP, Ec, ha, hS, hQ, hE⟩ => ?_⟩
  have al : as.length = ps.length := len as PP Ec hS
  have hl : vs.length = ps.length := ha.len.symm.trans al
  have hpl : ps.length ≤ N.length := by
    have := congrArg List.length sc.pre
    rw [List.length_take] at this
    omega
  have KX : K.In s.heap := e0.mod.kin.keeps fun b o e => (e0.bs b o e).1
  have noc := nc as PP Ec hS
  have cells : ∀ (i : Nat) (p : Bool) (xs : List PyData), as[i]? = some (.cel p xs) → i < 0 := fun i p xs e => absurd e (noc i p xs)
  refine codeAny_call_function hr.depth (KX _ _ lk) rfl sc.co sc.gen rfl (PySem.W.codeRec_of KX hcd) (hb _ _ _ _ (wpAny_newFunctionEnv_cells sc.kind (fun ⟨n, v⟩ hy => ?_) fun env he s1 y => ?_))
  · rcases sc.par n (List.of_mem_zip hy).1 with q | q
    · exact .inl q
    · exact .inr ⟨q, PySem.W.cellsFrom_some _ _ _ (.inl q)⟩
  · subst he
    have tk : Takes (cxOf (L2.CX P w) P w K mg base N qual (defScope st) f cdv A outer s H E) (liftW K (entryZ P w F0 H vs as) fun c _ => Ec c) := (takes_of rfl rfl rfl rfl).imp fun cls d σ2 H2 ⟨c, h1, h2, xc, g2, F2, env2, k2, h3⟩ => by
      subst h1 h2
      exact hE c F2 H2 h3 xc ⟨k2.oldF, k2.fh, k2.newF, fun a o e _ => k2.frame a o e fun i z => (by
        obtain ⟨p, xs, h1, h2⟩ := cellsAt_inv z
        exact noc i p xs h1), fun i p xs a h1 _ => absurd h1 (noc i p xs), .non⟩
    obtain ⟨t, ht, hq⟩ := hbody (Z := entryZ P w F0 H vs as) Ec cdv A outer s H E tk (passes_of rfl) (hr.deeper _) hg
    have I : Inv (cxOf (L2.CX P w) P w K mg base N qual (defScope st) f cdv A outer s H E) [] (start N vs) H s1 := inv_start sc hr.hd e0 hl rv y
    refine ⟨(e0.mod.nolimit.keeps fun b o e => (e0.bs b o e).1).keeps y.toInCall.keep, codeAny_func (wpAny_mono (ht.run [] s1 (start N vs) H { nx := fun _ H' => Q .non H', rt := Q } I ?_) (fun fl s' hs => ?_) fun e s' hs => hs)⟩
    · refine ⟨entryG P w F0 H vs as, F0, _, _, entry_ok ha al hpl, hq as PP hS, ?_⟩
      exact .mk4 (.mk (fun env' σ' F' H' p _ k' => hQ _ _ _ _ _ p (post_of k' cells .non)) (fun _ _ _ _ p => p.elim) (fun _ _ _ _ p => p.elim) (fun r env' v σ' F' H' p _ k' r' => hQ _ _ _ _ _ p (post_of k' cells r'))) rfl
    · have fin : ∀ {σ' : L2.St} {H' : Hp} {v : V} {u : Value}, Inv (cxOf (L2.CX P w) P w K mg base N qual (defScope st) f cdv A outer s H E) [] σ' H' s' → RelV v u → Q v H' → CE outer P w H s Q u s' :=
        fun {σ' H' v u} J r q => ⟨v, H', J.os, J.bare, J.base, J.hok, r, q⟩
      match fl, hs with
      | .ret u, ⟨v, σ', H', J, r, q⟩ => exact fin J r q
      | .next, ⟨σ', H', J, q⟩ => exact fin (v := V.non) (u := Value.none) J rfl q
      | .brk, ⟨_, _, _, q⟩ => exact q.elim
      | .cont, ⟨_, _, _, q⟩ => exact q.elim
end
/-- where nothing is refused, such a def is a plain one -/
theorem DnX.calm {P : Program} {w : World} {K : PySem.W.Frag} {mg : Str → Option Value} {base : Heap} {x : Str} {k : Nat} {ps : List Str} {S : DSpX} (D : DnX P w K mg base x k ps S) : Dn P w K mg base x k ps (fun as Q => S as Q fun _ => False) := by
  obtain ⟨⟨fd, G, hb⟩, h1, h2⟩ := D
  refine ⟨⟨fd, ⟨fun as Q h => G.len as Q _ h, fun A outer s H args us vs Q hr hA e0 bt rv ⟨F, as, P, a1, a2, a3⟩ => ?_⟩, hb⟩, h1, h2⟩
  refine codeAny_mono (G.go A outer s H args us vs Q (fun _ _ _ => False) hr hA e0 bt rv ⟨F, as, P, _, a1, a2, a3, fun _ _ _ z _ _ => z⟩) fun r s' h => ?_
  match r, h with
  | .error e, h =>
    obtain ⟨_, _, _, _, _, _, _, _, _, _, _, _, z⟩ := h
    exact z.elim
  | .ok (.ret u), h => exact h
  | .ok .next, h => exact h
  | .ok .brk, h => exact h
  | .ok .cont, h => exact h
theorem DnX.imp {P : Program} {w : World} {K : PySem.W.Frag} {mg : Str → Option Value} {base : Heap} {x : Str} {k : Nat} {ps : List Str} {S S' : DSpX} (D : DnX P w K mg base x k ps S) (h : ∀ as Q E, S' as Q E → S as Q E) : DnX P w K mg base x k ps S' := by
  obtain ⟨⟨fd, G, hb⟩, h1, h2⟩ := D
  exact ⟨⟨fd, ⟨fun as Q E q => G.len as Q E (h _ _ _ q), fun as Q E q => G.nc as Q E (h _ _ _ q), fun A outer s H args us vs Q E hr hA e0 bt rv ⟨F, as, P, Ec, a1, a2, a3⟩ => G.go A outer s H args us vs Q E hr hA e0 bt rv ⟨F, as, P, Ec, a1, h _ _ _ a2, a3⟩⟩, hb⟩, h1, h2⟩
def isxQ (d : PyData) (ds : List Str) (K : Bool → Prop) : Prop := match d with
  | .dict [(.none, .str c)] => K (ds.any (exSub c))
  | _ => False
theorem q_isx {c : Str} {ds : List Str} {K : Bool → Prop} : isxQ (exD c) ds K = K (ds.any (exSub c)) := rfl
def dIsx (ds : List Str) (wa : DE) (env : List SD) (P : PyData → List SD → Prop) : Prop := wa env fun d env' => isxQ d ds fun b => P (.bool b) env'
def isvQ (d : PyData) (K : Bool → Prop) : Prop := match d with
  | .dict [(.none, .str _)] => K true
  | _ => False
theorem q_isv {c : Str} {K : Bool → Prop} : isvQ (exD c) K = K true := rfl
def dIsv (wa : DE) (env : List SD) (P : PyData → List SD → Prop) : Prop := wa env fun d env' => isvQ d fun b => P (.bool b) env'
section
variable {X : Cx} {a : Expr} {wa : DE} {p q2 pos : Pos} {es : List Expr} {ds : List Str}
theorem exc_inv {K : PySem.W.Frag} {F : Hp} {v : V} {c : Str} (r : DR K F v (exD c)) : ∃ b, v = .ref b ∧ F b = some (.ext (ExcAt (He.ga K c) b)) ∧ XcF K c := by
  cases r with
  | exc h x => exact ⟨_, rfl, h, x⟩
theorem disx {x : Str} (hm : X.mg "isinstance" = none) (hx : X.mg x = some (.ref (He.ga X.K x))) (hd : exNames.contains x = true) (ha : PE X a (liftE X.K Z wa)) (hg : Gl X "isinstance" := by rfl) (hgx : Gl X x := by rfl) (hdx : (x == ("__debug__" : Str)) = false := by decide)
    (hs1 : starEach [a, .Name x q2] X.env = (false, eval a X.env) :: starEach [.Name x q2] X.env := by rfl) (hs2 : starEach [.Name x q2] X.env = (false, eval (.Name x q2) X.env) :: starEach [] X.env := by rfl)
    (hpl : (backTo pos (starEach [Expr.Name x q2] X.env)).any (·.1) = false := by rfl) : PE X (.Call (.Name "isinstance" p) [a, .Name x q2] [] pos) (liftE X.K Z (dIsx [x] wa)) :=
  PE.of (pe_callB call_isE1 hg hm (by decide +kernel) (pa_cons ha (pa_cons (pe_glob (v := .ref (He.ga X.K x)) hgx hx rfl hdx) pa_nil hs2) hs1) (by decide) (by decide) hs1 hpl) fun σ H Q ⟨g, F, env, P, k, w, q⟩ => by
    refine ⟨g, F, env, _, k, w, fun d env1 v F1 H1 p e1 k1 r1 => ?_⟩
    unfold isxQ at p
    split at p
    · rename_i c
      obtain ⟨b, rfl, hF, xc⟩ := exc_inv r1
      have hd' : x ∈ exNames := by simpa using hd
      exact ⟨b, _, _, _, _, rfl, .own _, k1.fh _ _ hF, xc.cls, xc.own x hd', by simpa using q _ env1 _ F1 H1 p e1 k1 (.bl _)⟩
    · exact p.elim
theorem disv (hm : X.mg "isinstance" = none) (hmv : X.mg "ValueError" = none) (ha : PE X a (liftE X.K Z wa)) (hg : Gl X "isinstance" := by rfl) (hgx : Gl X "ValueError" := by rfl)
    (hs1 : starEach [a, .Name "ValueError" q2] X.env = (false, eval a X.env) :: starEach [.Name "ValueError" q2] X.env := by rfl) (hs2 : starEach [.Name "ValueError" q2] X.env = (false, eval (.Name "ValueError" q2) X.env) :: starEach [] X.env := by rfl)
    (hpl : (backTo pos (starEach [Expr.Name "ValueError" q2] X.env)).any (·.1) = false := by rfl) : PE X (.Call (.Name "isinstance" p) [a, .Name "ValueError" q2] [] pos) (liftE X.K Z (dIsv wa)) :=
  PE.of (pe_callB call_isE1 hg hm (by decide +kernel) (pa_cons ha (pa_cons (pe_bltn (v := .ty "ValueError") hgx hmv (by decide +kernel) rfl (by decide) (by decide)) pa_nil hs2) hs1) (by decide) (by decide) hs1 hpl) fun σ H Q ⟨g, F, env, P, k, w, q⟩ => by
    refine ⟨g, F, env, _, k, w, fun d env1 v F1 H1 p e1 k1 r1 => ?_⟩
    unfold isvQ at p
    split at p
    · rename_i c
      obtain ⟨b, rfl, hF, xc⟩ := exc_inv r1
      exact ⟨b, _, _, _, _, rfl, .ty _, k1.fh _ _ hF, xc.cls, xc.ve, q _ env1 _ F1 H1 p e1 k1 (.bl _)⟩
    · exact p.elim
/-- names of classes, one behind the other -/
def tVs (vs : List V) : TA := fun _ H Q => Q vs H
theorem pcl_nil : PA X [] (tVs []) := PA.of pa_nil fun _ _ _ h => h
theorem pcl_cons {x : Str} (hx : X.mg x = some (.ref (He.ga X.K x))) (hr : PA X es (tVs (ds.map fun d => V.ref (He.ga X.K d)))) (hg : Gl X x := by rfl) (hd : (x == ("__debug__" : Str)) = false := by decide)
    (hs : starEach (.Name x q2 :: es) X.env = (false, eval (.Name x q2) X.env) :: starEach es X.env := by rfl) : PA X (.Name x q2 :: es) (tVs ((x :: ds).map fun d => V.ref (He.ga X.K d))) :=
  PA.of (pa_cons (pe_glob (v := .ref (He.ga X.K x)) hg hx rfl hd) hr hs) fun _ _ _ h => h
def rIsET (K : PySem.W.Frag) : List V → Hp → VK → Prop := fun xs H Q => ∃ (a C tp : Addr) (cs : List V) (us : List Value) (b : Bool), xs = [.ref a, .ref tp] ∧ H tp = some (.tup cs) ∧ Paired ClsV cs us ∧ H a = some (.ext (ExcAt C a)) ∧ ExcC K C ∧ PySem.W.kitAny K (.ref C) us = some b ∧ Q (.bl b) H
theorem call_isET : CallR X (.builtin "isinstance") (rIsET X.K) := by
  intro pins s σ H xs us Q I r h
  obtain ⟨a, C, tp, cs, ws, b, rfl, hT, k, hH, x, e, q⟩ := h
  obtain ⟨u1, u2, rfl, r1, r2⟩ := vals2 r
  cases (show u1 = Value.ref a from r1)
  cases (show u2 = Value.ref tp from r2)
  obtain ⟨oe, J⟩ := exc_inst I hH
  obtain ⟨_, its, rv, ⟨oc, od, dt, sl⟩, h1, h2, n, h3⟩ := (show ObjOk X.prog X.w H s.heap tp (.tup cs) from I.hok tp _ hT)
  have e3 := ClsV.all k rv
  dsimp only at h2 h3
  subst h2 h3 e3
  exact PySem.W.kia_tup (PySem.W.handS_kitx_exc x.hg x.hk x.hs x.hd x.ha x.hn x.ht x.hm) I.kIn J h1 e (fun z => nomatch z) fun tk => ⟨.bl b, H, I.tok tk, rfl, q⟩
theorem kitAny_ex {K : PySem.W.Frag} {c : Str} (xc : XcF K c) : ∀ ds : List Str, (∀ d ∈ ds, d ∈ exNames) → PySem.W.kitAny K (.ref (He.ga K c)) (ds.map fun d => Value.ref (He.ga K d)) = some (ds.any (exSub c))
  | [], _ => kitAny_nil
  | d :: ds, h => by
    refine kitAny_cons (xc.own d (h d List.mem_cons_self)) (fun z => ?_) fun z => ?_
    · rw [List.any_cons, z, Bool.false_or]
      exact kitAny_ex xc ds fun y hy => h y (List.mem_cons_of_mem _ hy)
    · rw [List.any_cons, z, Bool.true_or]
theorem paired_cls {K : PySem.W.Frag} : ∀ ds : List Str, Paired ClsV (ds.map fun d => V.ref (He.ga K d)) (ds.map fun d => Value.ref (He.ga K d))
  | [] => .nil
  | d :: ds => .cons (.own _) (paired_cls ds)
theorem disxT {kk : _} {tpos : Pos} (hm : X.mg "isinstance" = none) (hcl : PA X es (tVs (ds.map fun d => V.ref (He.ga X.K d)))) (hd : ds.all exNames.contains = true) (hl : ds.length ≤ 100) (ha : PE X a (liftE X.K Z wa)) (hg : Gl X "isinstance" := by rfl)
    (hs1 : starEach [a, .Tuple es kk tpos] X.env = (false, eval a X.env) :: starEach [.Tuple es kk tpos] X.env := by rfl) (hs2 : starEach [.Tuple es kk tpos] X.env = (false, eval (.Tuple es kk tpos) X.env) :: starEach [] X.env := by rfl)
    (hpl : (backTo pos (starEach [Expr.Tuple es kk tpos] X.env)).any (·.1) = false := by rfl) : PE X (.Call (.Name "isinstance" p) [a, .Tuple es kk tpos] [] pos) (liftE X.K Z (dIsx ds wa)) :=
  PE.of (pe_callB call_isET hg hm (by decide +kernel) (pa_cons ha (pa_cons (pe_tup hcl) pa_nil hs2) hs1) (by decide) (by decide) hs1 hpl) fun σ H Q ⟨g, F, env, P, k, w, q⟩ => by
    refine ⟨g, F, env, _, k, w, fun d env1 v F1 H1 p e1 k1 r1 => ?_⟩
    unfold isxQ at p
    split at p
    · rename_i c
      obtain ⟨b, rfl, hF, xc⟩ := exc_inv r1
      refine ⟨by rw [List.length_map]; exact Evl.sz_of (by omega), fun x hx => ?_⟩
      have ne : b ≠ x := ne_of_none (k1.fh _ _ hF) hx
      refine ⟨b, _, x, _, _, _, rfl, upd_same, paired_cls ds, by rw [upd_ne ne]; exact k1.fh _ _ hF, xc.cls, kitAny_ex xc ds fun d hd' => by simpa using List.all_eq_true.mp hd d hd', ?_⟩
      exact q _ env1 _ F1 _ p e1 (k1.extra hx) (.bl _)
    · exact p.elim
end
end DL

namespace DL
variable {Z : Zx}
open PySem PySem.Spec PyProof.Rows L2
open Evl (Ex)
section
variable {K : PySem.W.Frag} {g : Gx Z} {F : Hp} {env : List SD} {σ : L2.St} {H : Hp}
/-- no name's cell is at D -/
def NoNm (env : List SD) (σ : L2.St) (D : Addr) : Prop := ∀ (j : Nat) (p : Bool) (ys : List PyData), env[j]? = some (.cel p ys) → σ[j]? ≠ some (some (.ref D))
end
abbrev KB := List (Key × V)
def KeysAre (kvs : KB) (ks : List Int) : Prop := kvs.map (·.1) = ks.map Sum.inl ∧ ks.Nodup
def intQ (d : PyData) (P : Prop) : Prop := match d with
  | .int _ => P
  | _ => False
def dsetN {I : Type} (f : I → PyData → (I → PyData → Prop) → (I → Prop) → Prop) (i : I) : List PyData → List PyData → (List PyData → Prop) → Prop
  | [], acc, K => sortSetQ (.list acc) K
  | d :: r, acc, K => f i d (fun i' k => i' = i ∧ intQ k (acc.length ≤ 1000 ∧ dsetN f i r (acc ++ [k]) K)) fun i' => i' = i ∧ dsetN f i r acc K
/-- sealed: the items aren't walked by the kernel -/
inductive dsetQ {I : Type} (f : I → PyData → (I → PyData → Prop) → (I → Prop) → Prop) (i : I) (items acc : List PyData) (K : List PyData → Prop) : Prop
  | mk : dsetN f i items acc K → dsetQ f i items acc K
theorem dsetQ.out {I : Type} {f : I → PyData → (I → PyData → Prop) → (I → Prop) → Prop} {i : I} {items acc : List PyData} {K : List PyData → Prop} (h : dsetQ f i items acc K) : dsetN f i items acc K := by
  cases h with
  | mk h => exact h
section
variable {X : Cx} {tg iter test key a b : Expr} {wa wb wk : DE} {wi : DI} {wt : DT} {D r : Str}
/-- what stands of the dict in the course of the walk -/
structure Dst (K : PySem.W.Frag) (g : Gx Z) (F : Hp) (env : List SD) (σ : L2.St) (H : Hp) (iD : Nat) (A : Addr) (acc : List PyData) (kvs : KB) : Prop where
  ok : Ok K g F env σ H
  slot : σ[iD]? = some (some (.ref A))
  hF : F A = none
  hH : H A = some (.dK kvs)
  keys : ∃ (ks ns : List Int), KeysAre kvs ks ∧ acc = ns.map PyData.int ∧ (∀ m, m ∈ ks ↔ m ∈ ns) ∧ ks.length ≤ ns.length
  nw : NoNm env σ A
end
end DL

namespace DL
variable {Z : Zx}
open PySem PySem.Spec PyProof.Rows L2
open Evl (Ex)
section
variable {X : Cx}
/-- l.count(x): how many are equal -/
def rCountD (K : PySem.W.Frag) : V → List V → Hp → VK → Prop := fun x xs H Q => ∃ (a : Addr) (y : V) (d : PyData) (ds : List PyData), x = V.ref a ∧ xs = [y] ∧ Dp K H (V.ref a) (.list ds) ∧ Dp K H y d ∧
  SeqAt.shaped (.list ds) = true ∧ SeqAt.shaped d = true ∧ Q (.int (ds.countP (fun z => PyData.eqv z d) : Nat)) H
theorem mt_countD (hu : X.A.units + 65 < cLine) : MtR X "list.count" (rCountD X.K) := by
  intro pins s σ H x xs v us Q I rx rxs h
  obtain ⟨a, y, d, ds, rfl, rfl, hl, hy, sl, sd, q⟩ := h
  cases rx
  cases rxs with
  | cons ry rt =>
    rename_i uy ut
    cases rt
    obtain ⟨bs, r1⟩ := Dp.reads I d y uy hy ry
    have hxs : PyData.canLayAll0 ds = true := SeqAt.canLay_of_shaped sl
    have hroom : X.A.units + 1 + min (PyData.depthAll ds) d.depth < cLine := room_in_shaped sd hu
    cases hl with
    | lst hs ha =>
      obtain ⟨its, rv, ⟨⟨cls, dd, data, sls⟩, n, ho, hc, hdn, hdt⟩, hlen⟩ := I.list hs
      simp only at hc hdt
      subst hc hdt
      obtain ⟨as, h4⟩ := Dp.readsAll I ds _ its ha rv
      have hmap : its.map (SeqAt.readOf s.heap) = ds := SeqAt.readsAll_map ds its as hxs h4
      refine call_meets PySem.F.slot_list_count ⟨_, ho, rfl⟩ PySem.F.entry_list_count (PySem.F.args_list_count_2 _ _)
        (SeqAt.list_countAt a its.toArray n dd sls uy (fun u => PyData.eqv (SeqAt.readOf s.heap u) d)) ⟨ho, SeqAt.items_eqAt (vs := its.toArray) (show ReadsAll s.heap its.toArray.toList ds as from h4) r1 hxs (SeqAt.canLay_of_shaped sd) hroom, ?_⟩
      have ec : its.toArray.toList.countP (fun u => PyData.eqv (SeqAt.readOf s.heap u) d) = ds.countP fun z => PyData.eqv z d := by
        rw [← hmap, List.countP_map]
        rfl
      refine ⟨.int (ds.countP (fun z => PyData.eqv z d) : Nat), H, I.tok _, ⟨s.toks, ?_⟩, q⟩
      rw [← ec]
end
def cntN (ds : List PyData) (y : PyData) : Nat := ds.countP fun z => eqD z y
def cntQ (ds : List PyData) (y : PyData) (P : PyData → Prop) : Prop := (SeqAt.shaped (.list ds) = true ∧ SeqAt.shaped y = true) ∧ P (.int (cntN ds y : Nat))
def idxQ (ds : List PyData) (y : PyData) (P : PyData → Prop) : Prop := (SeqAt.shaped (.list ds) = true ∧ SeqAt.shaped y = true) ∧ match ds.findIdx? fun z => eqD z y with
  | some j => P (.int (j : Nat))
  | none => False
def dMl (f : List PyData → PyData → (PyData → Prop) → Prop) (wa wb : DE) (env : List SD) (P : PyData → List SD → Prop) : Prop := wa env fun x env1 => lstQ x fun ds => wb env1 fun y env2 => f ds y fun z => P z env2
theorem cntN_eqv {ds : List PyData} {y : PyData} : (ds.countP fun z => PyData.eqv z y) = cntN ds y := by
  unfold cntN
  congr 1
  funext z
  rw [eqD_eq]
theorem lstQ_inv {x : PyData} {K : List PyData → Prop} (h : lstQ x K) : ∃ ds, x = .list ds ∧ K ds := by
  unfold lstQ at h
  split at h
  · exact ⟨_, rfl, h⟩
  · exact h.elim
section
variable {X : Cx} {a e : Expr} {wa we : DE} {apos cpos : Pos}
/-- a list's value is a list object -/
theorem isLst {K : PySem.W.Frag} {F H : Hp} {v : V} {ds : List PyData} (fh : Ex F H) (h : DR K F v (.list ds)) : tyV K "list" v H := by
  obtain ⟨a, xs, rfl, h1, _⟩ := h.inv_lst
  exact .inl ⟨rfl, xs, (h1.mono fh).sq⟩
theorem lift_ml {K : PySem.W.Frag} {r : V → List V → Hp → VK → Prop} {f : List PyData → PyData → (PyData → Prop) → Prop}
    (hf : ∀ (g : Gx Z) (F : Hp) (env : List SD) (σ : L2.St) (H : Hp) (ds : List PyData) (y : PyData) (vx vy : V) (P : PyData → Prop) (Q : VK), Ok K g F env σ H → DR K F vx (.list ds) → DR K F vy y → f ds y P → (∀ (z : PyData) (v : V), P z → DR K F v z → Q v H) → r vx [vy] H Q)
    {σ : L2.St} {H : Hp} {Q : VK} (h : liftE K Z (dMl f wa we) σ H Q) : tBM K "list" r (liftE K Z wa) (tCons (liftE K Z we) tNil) σ H Q := by
  obtain ⟨g, F, env, P, k, w, q⟩ := h
  refine ⟨g, F, env, _, k, w, fun x env1 v F1 H1 p e1 k1 r1 => ?_⟩
  obtain ⟨ds, rfl, p⟩ := lstQ_inv p
  refine ⟨isLst k1.fh r1, g, F1, env1, _, k1, p, fun y env2 v2 F2 H2 p2 e2 k2 r2 => ?_⟩
  exact hf g F2 env2 σ H2 ds y v v2 _ _ k2 (r1.mono e2) r2 p2 fun z u p3 r3 => q z env2 u F2 H2 p3 (e1.trans e2) k2 r3
theorem dcnt (hu : X.A.units + 65 < cLine) (ha : PE X a (liftE X.K Z wa)) (he : PE X e (liftE X.K Z we))
    (h1 : attributeBase a "count" X.env (eval a X.env) = eval a X.env := by rfl)
    (h2 : ((backTo cpos (starEach [e] X.env)).all (!·.1) && (backToKw cpos (keywordEach [] X.env)).all (·.1.isSome) && decide ([e].length + ([] : List Keyword).length + (if ([] : List Keyword).isEmpty then 0 else 1) < 30)) = true := by rfl)
    (h3 : (apos.endLine == cpos.line) = true := by rfl)
    (h4 : starEach [e] X.env = (false, eval e X.env) :: starEach [] X.env := by rfl) (h5 : (backTo cpos (starEach [] X.env)).any (·.1) = false := by rfl) :
    PE X (.Call (.Attribute a "count" apos) [e] [] cpos) (liftE X.K Z (dMl cntQ wa we)) :=
  PE.of (pe_bm PySem.F.plainAttrs_list PySem.F.slot_list_count PySem.F.type_list_count (mt_countD hu) ha (pa_cons he pa_nil h4) h1 h2 h3 h4 h5) fun σ H Q h => lift_ml (fun g F env σ H ds y vx vy P Q k rx ry f q => by
    obtain ⟨⟨s1, s2⟩, f⟩ := f
    obtain ⟨b, xs, rfl, _, _⟩ := rx.inv_lst
    exact ⟨b, vy, y, ds, rfl, rfl, DR.dp (drH k rx) (dict_of_shaped s1), DR.dp (drH k ry) (dict_of_shaped s2), s1, s2, by rw [cntN_eqv]; exact q _ _ f (.int _)⟩) h
theorem dlix (hu : X.A.units + 65 < cLine) (ha : PE X a (liftE X.K Z wa)) (he : PE X e (liftE X.K Z we))
    (h1 : attributeBase a "index" X.env (eval a X.env) = eval a X.env := by rfl)
    (h2 : ((backTo cpos (starEach [e] X.env)).all (!·.1) && (backToKw cpos (keywordEach [] X.env)).all (·.1.isSome) && decide ([e].length + ([] : List Keyword).length + (if ([] : List Keyword).isEmpty then 0 else 1) < 30)) = true := by rfl)
    (h3 : (apos.endLine == cpos.line) = true := by rfl)
    (h4 : starEach [e] X.env = (false, eval e X.env) :: starEach [] X.env := by rfl) (h5 : (backTo cpos (starEach [] X.env)).any (·.1) = false := by rfl) :
    PE X (.Call (.Attribute a "index" apos) [e] [] cpos) (liftE X.K Z (dMl idxQ wa we)) :=
  PE.of (pe_bm PySem.F.plainAttrs_list PySem.F.slot_list_index PySem.F.type_list_index (mt_indexD hu) ha (pa_cons he pa_nil h4) h1 h2 h3 h4 h5) fun σ H Q h => lift_ml (fun g F env σ H ds y vx vy P Q k rx ry f q => by
    obtain ⟨⟨s1, s2⟩, f⟩ := f
    obtain ⟨b, xs, rfl, _, _⟩ := rx.inv_lst
    split at f
    · rename_i j ej
      obtain ⟨hj, h2, h3⟩ := List.findIdx?_eq_some_iff_getElem.mp ej
      refine ⟨b, vy, y, ds, j, ds[j], rfl, rfl, DR.dp (drH k rx) (dict_of_shaped s1), DR.dp (drH k ry) (dict_of_shaped s2), s1, s2, List.getElem?_eq_getElem hj, by rw [← eqD_eq]; exact h2, fun m z' hm hz => ?_, q _ _ f (.int _)⟩
      obtain ⟨hm2, rfl⟩ := List.getElem?_eq_some_iff.mp hz
      rw [← eqD_eq]
      simpa using h3 m hm
    · exact f.elim) h
end
section
variable {X : Cx} {e : Expr} {we : DE} {apos pos p0 : Pos} {j0 : Nat}
end
end DL

namespace DL
variable {Z : Zx}
open PySem PySem.Spec PyProof.Rows L2
open Evl (Ex)
theorem _root_.L2H.RoomH.units {k : Nat} {A : Around} (r : L2H.RoomH k A) : A.units + 64 < cLine := by have := r.un; omega
theorem _root_.L2H.RoomH.u65 {k : Nat} {A : Around} (r : L2H.RoomH k A) : A.units + 65 < cLine := by have := r.un; omega
theorem _root_.L2.Room.mark {k : Nat} {A : Around} {v : Option Value} (r : Room k A) : L2H.RoomH k (A.mark v) := ⟨r.dp, r.un⟩
/-- as FnG, whatever is handled -/
structure FnB (P : Program) (w : World) (K : PySem.W.Frag) (mg : Str → Option Value) (base : Heap) (k : Nat) (f : Addr) (fd : FuncData) (ps : List Str) (S : DSp) : Prop where
  len : ∀ as Q, S as Q → as.length = ps.length
  go : ∀ (A : Around) (outer : List Env) (s : Shared) (H : Hp) (args : Args) (us : List Value) (vs : List V) (Q : VK), L2H.RoomH k A → A.guards = some [] → Env0 P w K mg base A outer s H →
    BindsTo s fd args (ps.zip us) → Vals vs us → spD K S vs H Q → codeAny (model P w) A (.call (.ref f) args) (CR CX0 outer P w H s Q E0) s
structure DnB (P : Program) (w : World) (K : PySem.W.Frag) (mg : Str → Option Value) (base : Heap) (x : Str) (k : Nat) (ps : List Str) (S : DSp) : Prop where
  ex : ∃ fd, FnB P w K mg base k (He.ga K x) fd ps S ∧ Binds K fd ps []
  glo : mg x = some (.ref (He.ga K x))
  kp : PySem.W.keepIn K (.ref (He.ga K x)) = true
section
variable {P : Program} {w : World} {K : PySem.W.Frag} {mg : Str → Option Value} {base : Heap}
/-- a def of the text, by its body read as data, whatever is handled -/
theorem dfnB (m : Nat) {x qual : Str} {st : Stmt} {f : Addr} {fd : FuncData} {N ps : List Str} {k : Nat} {S : DSp} (Fn : Fun K x qual st f fd) (sc : FnScope N ps (defScope st)) (len : ∀ as Q, S as Q → as.length = ps.length) (cels : CelsIn m S)
    (hbody : ∀ {Z : Zx} (cdv : Value) (A : Around) (outer : List Env) (s : Shared) (H : Hp) (p : Addr × Obj), L2H.RoomH k (A.deeper (envOfC qual (defScope st) s.heap.objs.size f cdv)) → (A.deeper (envOfC qual (defScope st) s.heap.objs.size f cdv)).guards = some [] →
      ∃ t : DS, PSs (L2H.cxH CX0 P w K mg base N qual (defScope st) f cdv A outer s H E0 p).nox (defBody st) (liftS K Z m t) ∧
        ∀ as Q, S as Q → t (defEnds m Q) (as ++ List.replicate (N.length - ps.length) .un)) : FnB P w K mg base (k + 1) f fd ps S := by
  obtain ⟨oc, od, kV, doc, pm, an, cdv, ct, osl, rfl, lk, hcd⟩ := Fn.ex
  refine ⟨len, fun A outer s H args us vs Q hr hg e0 hb rv ⟨F0, as, PP, ha, hS, hQ⟩ => ?_⟩
  have hl : vs.length = ps.length := ha.len.symm.trans (len as PP hS)
  have hpl : ps.length ≤ N.length := by
    have := congrArg List.length sc.pre
    rw [List.length_take] at this
    omega
  have KX : K.In s.heap := e0.mod.kin.keeps fun b o e => (e0.bs b o e).1
  -- the def's own object is known and out of the way
  have inB := e0.mod.kin _ _ lk
  have pin : L2H.PinOk outer H s (f, _) := ⟨(e0.bs f _ inB).1, (e0.bs f _ inB).2, fun hm => (by
    have z := (e0.funs.mem hm).1
    rw [inB] at z
    cases z), fun v z => by cases z⟩
  refine codeAny_call_function hr.depth (KX _ _ lk) rfl sc.co sc.gen rfl (PySem.W.codeRec_of KX hcd) (hb _ _ _ _ (wpAny_newFunctionEnv_cells sc.kind (fun ⟨n, v⟩ hy => ?_) fun env he s1 x => ?_))
  · rcases sc.par n (List.of_mem_zip hy).1 with q | q
    · exact .inl q
    · exact .inr ⟨q, PySem.W.cellsFrom_some _ _ _ (.inl q)⟩
  · subst he
    obtain ⟨t, ht, hq⟩ := hbody (Z := entryZ P w F0 H vs as) cdv A outer s H (f, _) (hr.deeper _) hg
    have I := L2H.inv_startH (E := E0) (CX := CX0) (mg := mg) (base := base) sc pin e0 hl rv x
    refine ⟨(e0.mod.nolimit.keeps fun b o e => (e0.bs b o e).1).keeps x.toInCall.keep, codeAny_func (wpAny_mono (ht.nox.run [] s1 (start N vs) H { nx := fun _ H' => Q .non H', rt := Q } I ?_) (fun fl s' hs => ?_) fun e s' hs => hs)⟩
    · have al : as.length = ps.length := len as PP hS
      refine ⟨entryG P w F0 H vs as, F0, _, _, entry_ok ha al hpl, hq as PP hS, ?_⟩
      exact .mk4 (.mk (fun env' σ' F' H' p _ k' => hQ _ _ _ _ _ p (post_of k' (cels _ _ hS) .non)) (fun _ _ _ _ p => p.elim) (fun _ _ _ _ p => p.elim) (fun r env' v σ' F' H' p _ k' r' => hQ _ _ _ _ _ p (post_of k' (cels _ _ hS) r'))) rfl
    · match fl, hs with
      | .ret u, ⟨v, σ', H', J, r, q⟩ => exact ⟨v, H', J.os, J.bare, J.base, J.hok, r, q⟩
      | .next, ⟨σ', H', J, q⟩ => exact ⟨V.non, H', J.os, J.bare, J.base, J.hok, rfl, q⟩
      | .brk, ⟨_, _, _, q⟩ => exact q.elim
      | .cont, ⟨_, _, _, q⟩ => exact q.elim
end
section
variable {X : Cx} {k : Nat} {f : Addr} {fd : FuncData} {ps : List Str} {S : DSp} {x : Str} {p pos : Pos} {e : Expr} {es : List Expr} {was : DA}
/-- f(..) within a suite -/
theorem dcnB (D : DnB X.prog X.w X.K X.mg X.base x k ps S) (hr : L2H.RoomH k X.A) (hA : X.A.guards = some [])
    (ha : PA X (e :: es) (liftA X.K Z was)) (hg : Gl X x := by rfl) (hdb : (x == ("__debug__" : Str)) = false := by decide)
    (he : starEach (e :: es) X.env = (false, eval e X.env) :: starEach es X.env := by rfl) (hpl : (backTo pos (starEach es X.env)).any (·.1) = false := by rfl) : PE X (.Call (.Name x p) (e :: es) [] pos) (liftX X.K Z (dCall S was)) := by
  obtain ⟨fd, G, hb⟩ := D.ex
  have go : ∀ {pins : List (Addr × Obj)} {σ : L2.St} {H : Hp} {s : Shared} {Q : VK} {us : List Value} {vs : List V}, Inv X pins σ H s → Vals vs us → spD X.K S vs H Q → wpAny (model X.prog X.w) X.A (call (.ref (He.ga X.K x)) us) (EP X pins σ Q) X.xe s := fun {pins σ H s Q us vs} I r h => by
    obtain ⟨F0, as, P, a1, a2, a3⟩ := id h
    have hl : (us ++ ([] : List Value)).length = ps.length := by rw [List.append_nil, ← r.length, ← a1.len]; exact G.len _ _ a2
    have hbb := hb s us I.kIn hl
    rw [List.append_nil] at hbb
    refine wpAny_call (codeAny_mono (G.go X.A X.stack s H ⟨us, []⟩ us vs Q hr hA I.env0 hbb r h) fun res s' hq => ?_)
    match res, hq with
    | .error e, hq => exact hq.elim
    | .ok (.ret u), hq => exact I.after hq
    | .ok .next, hq => exact hq.elim
    | .ok .brk, hq => exact hq.elim
    | .ok .cont, hq => exact hq.elim
  refine ⟨fun pins s σ H Q I ⟨g, F, env, P, k0, w, q⟩ => wpAny_Call_Name_kw (ld_glob I hg D.glo (PySem.W.callWith_K (h₀ := X.base) I.ok.mod.kin D.kp (thn (ha.run pos pins s σ H (spD X.K S · · Q) I ?_) fun us s1 ⟨vs, H1, I1, r, q1⟩ => ⟨I1.kIn, go I1 r q1⟩) he hpl) hdb)⟩
  refine ⟨g, F, env, _, k0, w, fun ds env1 vs F1 H1 p1 e1 k1 r1 => ⟨F1, ds.map .dat, _, args_dat k1.fh r1, p1, fun r as' v F2 H2 p2 po => ?_⟩⟩
  obtain ⟨k2, r2⟩ := k1.after no_cel po
  exact q r env1 v F2 H2 p2 (e1.trans po.ex) k2 r2
end
end DL

namespace DL
variable {Z : Zx}
open PySem PySem.Spec PyProof.Rows L2
open Evl (Ex)
def keyS (e : Int × Value) : Str := match e.2 with | .str k _ => k | _ => Str.empty
def GoodS (w : World) (e : Int × Value) : Prop := ∃ k t, e.2 = Value.str k t ∧ e.1 = hashStr w k
/-- a set of the texts ys, each once -/
def SetS (w : World) (h : Heap) (a : Addr) (ys : List Str) : Prop :=
  ∃ ob es ep tb, h.get? a = some ob ∧ ob.ExactSet ∧ ob.data = .set es ep tb ∧ (∀ e ∈ es.toList, GoodS w e) ∧ (es.toList.map keyS).Perm ys ∧ ys.Nodup ∧
    es.size < scanBound ∧ tb.fits es.size = true ∧ Ris tb.place.toList ∧ (w.params.followText "set-order" = true ∨ tb.led = true)
section
variable {P : Program} {w : World} {h h' : Heap} {a : Addr} {ys : List Str}
theorem SetS.at (R : SetS w h a ys) (k : ∀ o, h.get? a = some o → h'.get? a = some o) : SetS w h' a ys := by
  obtain ⟨ob, es, ep, tb, ho, r⟩ := R
  exact ⟨ob, es, ep, tb, k ob ho, r⟩
theorem SetS.size (R : SetS w h a ys) : ys.length < scanBound := by
  obtain ⟨ob, es, ep, tb, _, _, _, _, pm, _, hb, _⟩ := R
  rw [← pm.length_eq, List.length_map, Array.length_toList]
  exact hb
end
section
variable {P : Program} {w : World} {A : Around} {E : Value → Shared → Prop} {s : Shared} {a : Addr} {ys : List Str}
end
end DL

namespace DL
variable {Z : Zx}
open PySem PySem.Spec PyProof.Rows L2
open Evl (Ex)
/-- each once -/
def dd : List Str → List Str → List Str
  | acc, [] => acc
  | acc, k :: r => dd (if k ∈ acc then acc else k :: acc) r
section
variable {P : Program} {w : World} {A : Around} {E : Value → Shared → Prop} {s : Shared}
end
end DL

namespace DL
variable {Z : Zx}
open PySem PySem.Spec PyProof.Rows L2
open Evl (Ex)
section
variable {X : Cx}
end
section
variable {X : Cx} {a : Expr} {wa : DE} {p p2 pos pos2 : Pos}
end
end DL

namespace DL
variable {Z : Zx}
open PySem PySem.Spec PyProof.Rows L2
open Evl (Ex)
section
variable {X : Cx} {a b e : Expr} {we wa wb : DE} {pos : Pos}
end
end DL

namespace DL
variable {Z : Zx}
open PySem PySem.Spec PyProof.Rows L2
open Evl (Ex)
section
variable {X : Cx} {a b e : Expr} {we wa wb : DE} {pos p p2 pos2 : Pos}
end
end DL

namespace DL
variable {Z : Zx}
open PySem PySem.Spec PyProof.Rows L2
open Evl (Ex)
section
variable {X : Cx}
theorem DpAll.len {K : PySem.W.Frag} {H : Hp} : ∀ {xs : List V} {ds : List PyData}, DpAll K H xs ds → xs.length = ds.length
  | [], [], _ => rfl
  | _ :: _, _ :: _, .cons _ t => by rw [List.length_cons, List.length_cons, DpAll.len t]
end
section
variable {X : Cx} {a : Expr} {wa : DE} {p pos : Pos}
end
end DL

namespace DL
variable {Z : Zx}
open PySem PySem.Spec PyProof.Rows L2
open Evl (Ex)
section
variable {X : Cx}
variable {e : Expr} {es : List Expr} {was : DA} {pos p : Pos}
end
end DL

namespace DL
variable {Z : Zx}
open PySem PySem.Spec PyProof.Rows L2
section
variable {fa : List He.Fa} {fn : List He.FnD} {K : PySem.W.Frag} {mg : Str → Option Value}
end
end DL

namespace DL
variable {Z : Zx}
open PySem PySem.Spec PyProof.Rows L2
open Evl (Ex)
section
variable {X : Cx} {pins : List (Addr × Obj)} {σ : L2.St} {H : Hp} {s : Shared}
theorem TqT.obj (I : Inv X pins σ H s) {a : Addr} {xs : List V} (h : TqT X.K H a xs) : ∃ o, s.heap.get? a = some o ∧ PlT o := by
  rcases h with ⟨o, h, p⟩ | ⟨o, _, _, h, p, _⟩
  · exact ⟨o, (I.hok a _ h).1, p⟩
  · exact ⟨o, I.kIn a o h, p⟩
end
section
variable {X : Cx}
end
section
variable {X : Cx} {a e : Expr} {wa we : DE} {apos cpos : Pos}
end
end DL

namespace DL
variable {Z : Zx}
open PySem PySem.Spec PyProof.Rows L2 PySem.W
open Evl (Ex)
section
variable {prog : Program} {w : World} {A : Around} {E : Value → Shared → Prop} {s : Shared}
end
section
variable {X : Cx}
end
section
variable {X : Cx} {a : Expr} {wa : DE} {p pos : Pos}
end
end DL

namespace DL
variable {Z : Zx}
open PySem PySem.Spec PyProof.Rows L2 PySem.W
open Evl (Ex)
abbrev KVD := List (List Key × PyData)
def atD (kvs : KVD) (k : List Key) : Option PyData := (kvs.find? fun p => decide (p.1 = k)).map (·.2)
def putD (kvs : KVD) (k : List Key) (d : PyData) : KVD := if (atD kvs k).isSome = true then kvs.map (fun p => if p.1 = k then (p.1, d) else p) else kvs ++ [(k, d)]
section
variable {K : PySem.W.Frag} {F : Hp}
theorem DicR.val {kvs : KVD} {xs : List (List Key × Addr × Value)} (r : DicR K F kvs xs) (k : List Key) : (atD kvs k = none ∧ atKey xs k = none) ∨ ∃ d p v, atD kvs k = some d ∧ atKey xs k = some p ∧ DR K F v d ∧ RelV v p.2 := by
  unfold DicR at r
  induction r with
  | nil => exact .inl ⟨rfl, rfl⟩
  | @cons p q ps qs h t ih =>
    obtain ⟨h1, _, v, h2, h3⟩ := h
    by_cases e : p.1 = k
    · exact .inr ⟨p.2, q.2, v, by simp [atD, List.find?_cons, e], by simp [atKey, List.find?_cons, ← h1, e], h2, h3⟩
    · have e' : ¬ q.1 = k := fun z => e (h1.trans z)
      have a : atD (p :: ps) k = atD ps k := by simp [atD, List.find?_cons, e]
      have b : atKey (q :: qs) k = atKey qs k := by simp [atKey, List.find?_cons, e']
      rw [a, b]
      exact ih
theorem DicR.put {kvs : KVD} {xs : List (List Key × Addr × Value)} (r : DicR K F kvs xs) (k : List Key) {b : Addr} {d : PyData} {v : V} {u : Value} (hb : TqT K F b (k.map kV)) (hd : DR K F v d) (hu : RelV v u) : DicR K F (putD kvs k d) (storedH xs k b u) := by
  have e : (atD kvs k).isSome = (atKey xs k).isSome := by
    rcases r.val k with ⟨e1, e2⟩ | ⟨_, _, _, e1, e2, _⟩ <;> rw [e1, e2] <;> rfl
  unfold putD storedH
  rw [e]
  by_cases q : (atKey xs k).isSome = true
  · rw [if_pos q, if_pos q]
    clear e q
    unfold DicR at r ⊢
    induction r with
    | nil => exact .nil
    | @cons p q ps qs h t ih =>
      rw [List.map_cons, List.map_cons]
      refine .cons ?_ ih
      obtain ⟨h1, h2, h3⟩ := h
      unfold putAt
      by_cases e : p.1 = k
      · rw [if_pos e, if_pos (h1.symm.trans e)]; exact ⟨h1, h2, v, hd, hu⟩
      · rw [if_neg e, if_neg (fun z => e (h1.trans z))]; exact ⟨h1, h2, h3⟩
  · rw [if_neg q, if_neg q]
    exact Paired.snoc r ⟨rfl, hb, v, hd, hu⟩
end
section
variable {X : Cx} {pins : List (Addr × Obj)} {σ : L2.St} {H : Hp} {s : Shared} {a b : Addr} {F : Hp} {kvs : KVD} {xs : List (List Key × Addr × Value)}
end
section
variable {K : PySem.W.Frag} {g : Gx Z} {F : Hp} {env : List SD} {σ : L2.St} {H : Hp}
end
section
variable {X : Cx} {e b : Expr} {we wb : DE} {m : Nat} {pos : Pos}
end
end DL

namespace DL
variable {Z : Zx}
open PySem PySem.Spec PyProof.Rows L2 PySem.W
open Evl (Ex)
section
variable {X : Cx}
section
variable {k0 : Nat} {a : Expr} {pos p0 : Pos} {x : Str} {wa : DE}
end
end
end DL

namespace DL
variable {Z : Zx}
open PySem PySem.Spec PyProof.Rows L2
open Evl (Ex)
section
variable {P : Program} {w : World} {K : PySem.W.Frag} {mg : Str → Option Value} {base : Heap}
/-- what is asked of a law's def: of a list of the script's numbers it tells True -/
theorem dfnXW {x qual : Str} {st : Stmt} {f : Addr} {fd : FuncData} {N ps : List Str} {k : Nat} {S : DSpX} (Fn : Fun K x qual st f fd) (sc : FnScope N ps (defScope st)) (len : ∀ as Q E, S as Q E → as.length = ps.length) (nc : ∀ as Q E, S as Q E → NoCel as)
    (hbody : ∀ {Z : Zx} (Ec : Str → Prop) (cdv : Value) (A : Around) (outer : List Env) (s : Shared) (H : Hp) (E : XWish), Z.P = P → Z.w = w → Takes (cxOf (L2.CX P w) P w K mg base N qual (defScope st) f cdv A outer s H E) (liftW K Z fun c _ => Ec c) →
      PassesOwn (model P w) (A.deeper (envOfC qual (defScope st) s.heap.objs.size f cdv)) (envOfC qual (defScope st) s.heap.objs.size f cdv) (cxOf (L2.CX P w) P w K mg base N qual (defScope st) f cdv A outer s H E).xe →
      Room k (A.deeper (envOfC qual (defScope st) s.heap.objs.size f cdv)) → (A.deeper (envOfC qual (defScope st) s.heap.objs.size f cdv)).guards = some [] →
      ∃ t : DS, PSs (cxOf (L2.CX P w) P w K mg base N qual (defScope st) f cdv A outer s H E) (defBody st) (liftS K Z 0 t) ∧
        ∀ as Q, S as Q Ec → t (defEnds 0 Q) (as ++ List.replicate (N.length - ps.length) .un)) : FnX P w K mg base (k + 1) f fd ps S := by
  obtain ⟨oc, od, kV, doc, pm, an, cdv, ct, osl, rfl, lk, hcd⟩ := Fn.ex
  refine ⟨len, nc, fun A outer s H args us vs Q E hr hg e0 hb rv ⟨F0, as, PP, Ec, ha, hS, hQ, hE⟩ => ?_⟩
  have al : as.length = ps.length := len as PP Ec hS
  have hl : vs.length = ps.length := ha.len.symm.trans al
  have hpl : ps.length ≤ N.length := by
    have := congrArg List.length sc.pre
    rw [List.length_take] at this
    omega
  have KX : K.In s.heap := e0.mod.kin.keeps fun b o e => (e0.bs b o e).1
  have noc := nc as PP Ec hS
  have cells : ∀ (i : Nat) (p : Bool) (xs : List PyData), as[i]? = some (.cel p xs) → i < 0 := fun i p xs e => absurd e (noc i p xs)
  refine codeAny_call_function hr.depth (KX _ _ lk) rfl sc.co sc.gen rfl (PySem.W.codeRec_of KX hcd) (hb _ _ _ _ (wpAny_newFunctionEnv_cells sc.kind (fun ⟨n, v⟩ hy => ?_) fun env he s1 y => ?_))
  · rcases sc.par n (List.of_mem_zip hy).1 with q | q
    · exact .inl q
    · exact .inr ⟨q, PySem.W.cellsFrom_some _ _ _ (.inl q)⟩
  · subst he
    have tk : Takes (cxOf (L2.CX P w) P w K mg base N qual (defScope st) f cdv A outer s H E) (liftW K (entryZ P w F0 H vs as) fun c _ => Ec c) := (takes_of rfl rfl rfl rfl).imp fun cls d σ2 H2 ⟨c, h1, h2, xc, g2, F2, env2, k2, h3⟩ => by
      subst h1 h2
      exact hE c F2 H2 h3 xc ⟨k2.oldF, k2.fh, k2.newF, fun a o e _ => k2.frame a o e fun i z => (by
        obtain ⟨p, xs, h1, h2⟩ := cellsAt_inv z
        exact noc i p xs h1), fun i p xs a h1 _ => absurd h1 (noc i p xs), .non⟩
    obtain ⟨t, ht, hq⟩ := hbody (Z := entryZ P w F0 H vs as) Ec cdv A outer s H E rfl rfl tk (passes_of rfl) (hr.deeper _) hg
    have I : Inv (cxOf (L2.CX P w) P w K mg base N qual (defScope st) f cdv A outer s H E) [] (start N vs) H s1 := inv_start sc hr.hd e0 hl rv y
    refine ⟨(e0.mod.nolimit.keeps fun b o e => (e0.bs b o e).1).keeps y.toInCall.keep, codeAny_func (wpAny_mono (ht.run [] s1 (start N vs) H { nx := fun _ H' => Q .non H', rt := Q } I ?_) (fun fl s' hs => ?_) fun e s' hs => hs)⟩
    · refine ⟨entryG P w F0 H vs as, F0, _, _, entry_ok ha al hpl, hq as PP hS, ?_⟩
      exact .mk4 (.mk (fun env' σ' F' H' p _ k' => hQ _ _ _ _ _ p (post_of k' cells .non)) (fun _ _ _ _ p => p.elim) (fun _ _ _ _ p => p.elim) (fun r env' v σ' F' H' p _ k' r' => hQ _ _ _ _ _ p (post_of k' cells r'))) rfl
    · have fin : ∀ {σ' : L2.St} {H' : Hp} {v : V} {u : Value}, Inv (cxOf (L2.CX P w) P w K mg base N qual (defScope st) f cdv A outer s H E) [] σ' H' s' → RelV v u → Q v H' → CE outer P w H s Q u s' :=
        fun {σ' H' v u} J r q => ⟨v, H', J.os, J.bare, J.base, J.hok, r, q⟩
      match fl, hs with
      | .ret u, ⟨v, σ', H', J, r, q⟩ => exact fin J r q
      | .next, ⟨σ', H', J, q⟩ => exact fin (v := V.non) (u := Value.none) J rfl q
      | .brk, ⟨_, _, _, q⟩ => exact q.elim
      | .cont, ⟨_, _, _, q⟩ => exact q.elim
end
end DL

namespace DL
variable {Z : Zx}
open PySem PySem.Spec PyProof.Rows L2
open Evl (Ex)
section
variable {X : Cx}
end
end DL

namespace DL
variable {Z : Zx}
open PySem PySem.Spec PyProof.Rows L2
open Evl (Ex)
section
variable {prog : Program} {w : World} {A : Around} {E : Value → Shared → Prop} {s : Shared}
end
section
variable {X : Cx} {es : List Expr} {pos : Pos}
end
end DL

namespace DL
variable {Z : Zx}
open PySem PySem.Spec PyProof.Rows L2
open Evl (Ex)

/-- the block of a comprehension out of which an exception may come -/
abbrev bkX (X : Cx) (s : Shared) (H : Hp) (scope : Scope) (cenv : Env) (fp : List Addr) (xe : Value → Shared → Prop) : Cx := { X.blk s H scope cenv fp with xe := xe }
theorem bkX_inv {X : Cx} {s0 s : Shared} {H0 H : Hp} {scope : Scope} {cenv : Env} {fp : List Addr} {xe : Value → Shared → Prop} {pins : List (Addr × Obj)} {σ : L2.St} (J : Inv (X.blk s0 H0 scope cenv fp) pins σ H s) :
    Inv (bkX X s0 H0 scope cenv fp xe) pins σ H s := by
  have k := J.ok
  exact { ok := ⟨k.mod, k.kind, k.glob, k.blt, k.above, k.inj, k.has, k.cab, k.hd, k.frames, k.stk, k.exf, k.bs, k.bsz, k.noex, k.exfs, k.funs, k.frf⟩
          os := J.os, bare := J.bare, base := J.base, loc := J.loc, cell := J.cell, free := J.free, freeC := J.freeC, pin := J.pin, hok := J.hok, len := J.len }
theorem note_as {a b : Env} (h : a.frame = b.frame) (e : Value) : noteFrame e a = noteFrame e b := by
  unfold noteFrame PySem.frameOf
  rw [h]
section
variable {M : Model} {A : Around} {E1 : Value → Shared → Prop} {s : Shared} {B : Heap} {env : Env} {outer : List Env} {L C a : Addr} {Zp : Obj → Prop} {Q : Unit → Shared → Prop}
/-- in the air of a block, noted by the frame around it -/
theorem sky_noted (st : HandSPX.Steady Zp) (fr : A.frames = some (env :: outer)) (ef : env.frame = some L) (ne : C ≠ L) (x : Sky B (env :: outer) a Zp C s.heap)
    (q : ∀ h1, HandSPX.HeldZ B (env :: outer) a Zp L h1 → s.heap.UpToSlots h1 → Q () { s with heap := h1 }) : wpAny M A (noteFrame (.ref a) env) Q E1 s := by
  rcases x with ⟨y1, y2, y3, oe, vs, y4, y5, y6, y7⟩ | x | ⟨y1, y2, y3, oe, vs, T, oT, ts, y4, y5, y6, y7, y8, y9, z1, z2, z3⟩
  · exact HandSPX.look_newZ st fr y3 ef y4 y1 y2 y6 y7 y5 q
  · exact HandSPX.looks_onZ st fr ef x q
  · have oth : ∀ b, b ≠ T → (s.heap.update T (Obj.mapFields (·.setIfInBounds 3 Value.none))).get? b = s.heap.get? b := fun b hb => Heap.get?_update_other _ _ (Ne.symm hb)
    have nrec : ∀ b o, s.heap.get? b = some o → (∀ us, o.data ≠ .fields us) → b ≠ T := fun b o e n z => by
      subst z
      rw [z1] at e
      exact n ts ((Option.some.inj e) ▸ z2)
    unfold noteFrame
    simp only [ef]
    refine wpAny_bind (wpAny_field y4 y6 y7 ?_)
    rw [if_pos (by simp)]
    refine wpAny_bind (wpAny_field z1 z2 z3 ?_)
    rw [if_neg (by
      simp only [rawInt, beq_iff_eq, Value.int.injEq, not_and]
      exact fun z => absurd (Int.ofNat_inj.mp z) ne)]
    refine wpAny_bind (wpAny_setField z1 z2 (Array.getElem?_eq_some_iff.mp z3).1 ?_)
    refine HandSPX.wpAny_entryZ st fr (y3.of_keeps fun b o e n => ⟨o, (oth b (nrec b o e n)).trans e, rfl⟩) ef ((oth a (Ne.symm y9)).trans y4)
      (fun b o e => (oth b fun z => by rw [z, y8] at e; cases e).trans (y1 b o e)) y2 y6 (Array.getElem?_eq_some_iff.mp y7).1 y5 fun h1 ⟨v1, v2, v3, v4⟩ => q h1 ⟨v1, y2, v2, v3⟩ fun b o e n => v4 b o ((oth b (nrec b o e n)).trans e) n
end
theorem frames_but {h h' base : Heap} {C : Addr} (k : ∀ b, b ≠ C → h'.get? b = h.get? b) : ∀ {l : List Env}, h.FunFrames base l → C ∉ frs l → h'.FunFrames base l
  | [], _, _ => trivial
  | e :: l, ⟨y1, ⟨L, o, y2, y3, y4, y5⟩, y6⟩, n => by
    have nL : L ≠ C := fun z => n (List.mem_filterMap.mpr ⟨e, List.mem_cons_self, z ▸ y2⟩)
    refine ⟨y1, ⟨L, o, y2, y3, (k L nL).trans y4, y5⟩, frames_but k y6 fun z => n ?_⟩
    obtain ⟨e2, h2, q⟩ := List.mem_filterMap.mp z
    exact List.mem_filterMap.mpr ⟨e2, List.mem_cons_of_mem _ h2, q⟩
/-- the heap without C -/
theorem less (h : Heap) (C : Addr) : ∃ G : Heap, (∀ b, b ≠ C → G.get? b = h.get? b) ∧ G.get? C = none := by
  obtain ⟨G, g1, g2⟩ := L2.restrict h fun b => !decide (b = C)
  exact ⟨G, fun b n => g1 b (by simp [n]), g2 C (by simp)⟩
theorem less_of {h G : Heap} {C : Addr} (g : (∀ b, b ≠ C → G.get? b = h.get? b) ∧ G.get? C = none) {b : Addr} {o : Obj} (e : G.get? b = some o) : b ≠ C ∧ h.get? b = some o := by
  have n : b ≠ C := fun z => by rw [z, g.2] at e; cases e
  exact ⟨n, (g.1 b n) ▸ e⟩
section
variable {X : Cx} {pins : List (Addr × Obj)} {σ : L2.St} {H : Hp} {s : Shared}
/-- an exception in the air of the block goes out of the comprehension -/
theorem block_fails {Wi Wo : WX} {s3 : Shared} {H3 : Hp} {scope : Scope} {cenv : Env} {fp : List Addr} {xe : Value → Shared → Prop} {u : Value} {s' : Shared} (tk : Takes X Wo) (hW : ∀ cls d σ' H', σ'.length = σ.length → Wi cls d σ' H' → Wo cls d σ H')
    (st : X.stack = X.env :: X.outer) (ef : X.env.frame = some X.env.locals) (cf : cenv.frame = X.env.frame) (cL : cenv.locals = s3.heap.objs.size) (I3 : Inv X pins σ H3 s3)
    (hfp : ∀ b ∈ fp, (b ∈ X.ex ∨ X.s_0.heap.objs.size ≤ b) ∧ b ≠ X.env.locals ∧ (∀ x c, X.env.cells.lookup x = some c → c ≠ b) ∧ ∀ p ∈ X.pn ++ pins, p.1 ≠ b)
    (x : XE (bkX X s3 H3 scope cenv fp xe) Wi u s') : notedBy (model X.prog X.w) X.A cenv (CompFails (model X.prog X.w) X.A X.xe cenv) u s' := by
  obtain ⟨a, B, sI, pn', σ', H', cls, d, rfl, J, nb, up, sky, na, os, ag, w⟩ := x
  have C0 : s3.heap.get? cenv.locals = none := by
    rw [cL]
    exact Heap.get?_none_of_le (Nat.le_refl _)
  have ne : cenv.locals ≠ X.env.locals := fun z => by
    obtain ⟨m, hn, _⟩ := I3.loc
    obtain ⟨o, _, _, e, _⟩ := hn
    rw [← z, C0] at e
    cases e
  have nfr : cenv.locals ∉ frs X.stack := fun z => by
    obtain ⟨o, e, _⟩ := (I3.stack).mem z |>.2
    rw [C0] at e
    cases e
  have nf0 : ∀ b ∈ frs X.stack, B.get? b = none := fun b hb => by
    rcases sky with y | y | y
    · exact (y.2.2.1.mem (by rw [st] at hb; exact (st ▸ hb))).1
    · exact (y.2.2.1.mem hb).1
    · exact (y.2.2.1.mem hb).1
  show wpAny _ _ (noteFrame (.ref a) cenv) _ _ s'
  rw [note_as cf]
  rw [st] at sky
  refine sky_noted Zc.steady (by rw [I3.ok.frames, st]) ef ne sky fun h1 hh u1 => ?_
  rw [← st] at hh
  have Cm : ∃ m, sI.heap.Ns cenv.locals m := ⟨_, J.loc.choose_spec.1⟩
  obtain ⟨m, hm⟩ := Cm
  have hm1 : h1.Ns cenv.locals m := (up.trans u1).ns hm
  refine ⟨m, hm1, fun h2 m2 hm2 sb => ?_⟩
  obtain ⟨B', b1, b2⟩ := less B cenv.locals
  obtain ⟨G, g1, g2⟩ := less sI.heap cenv.locals
  have dC : ∀ {b : Addr} {o : Obj} {us : Array Value}, h1.get? b = some o → o.data = .fields us → b ≠ cenv.locals := fun {b o us} e hd z => by
    obtain ⟨o1, es, ep, e1, d1, _⟩ := hm1
    rw [z, e1] at e
    cases e
    rw [d1] at hd
    cases hd
  have stay : ∀ b, b ≠ cenv.locals → h2.get? b = h1.get? b := sb.2
  obtain ⟨y1, y2, y3, oe, vs, T, oT, ts, z1, z2, z3, z4, z5, z6, z7, z8, z9⟩ := hh
  have fr2 : h2.FunFrames B' X.stack := funFrames_none (frames_but stay y3 nfr) fun b hb => by
    cases q : B'.get? b with
    | none => rfl
    | some o => rw [← nf0 b hb, ← (less_of ⟨b1, b2⟩ q).2]
  have hh2 : HandSPX.HeldZ B' X.stack a (Zc cls d) X.env.locals h2 := by
    refine ⟨fun b o e => ?_, ?_, fr2, oe, vs, T, oT, ts, (stay a (dC z1 z3)).trans z1, z2, z3, z4, ?_, z6, (stay T (dC z7 z8)).trans z7, z8, z9⟩
    · obtain ⟨n, e⟩ := less_of ⟨b1, b2⟩ e
      exact (stay b n).trans (y1 b o e)
    · exact (b1 a (dC z1 z3)).trans y2
    · exact (b1 T (dC z7 z8)).trans z5
  unfold PySem.passOn
  refine wpAny_bind (wpAny_field ((stay a (dC z1 z3)).trans z1) z3 z4 ?_)
  rw [if_neg (by simp), cf, ef]
  refine wpAny_bind (HandSPX.setFlight_onZ hh2 fun h3 hh3 u3 => wpAny_throw (tk _ _ ?_))
  have keepG : ∀ b o, b ≠ cenv.locals → sI.heap.get? b = some o → G.get? b = some o := fun b o n e => (g1 b n).trans e
  have nC : H' cenv.locals = none := J.free
  have old : ∀ b o, s3.heap.get? b = some o → b ≠ cenv.locals := fun b o e z => by rw [z, C0] at e; cases e
  have I2 : Inv X pins σ H' { sI with heap := G } := by
    refine I3.call' (ch := fp) J.os ⟨fun b o e n n1 n2 => keepG b o (old b o e) (J.base.keep b o e n n1 n2), fun b o e n n1 n2 => ?_, J.base.free, fun b o e n => ?_, J.base.tups, J.base.frzs, J.base.tbls⟩ (fun b o e => ?_) J.bare hfp
    · obtain ⟨sl, q⟩ := J.base.slot b o e n n1 n2
      exact ⟨sl, keepG b _ (old b o e) q⟩
    · obtain ⟨o2, q⟩ := J.base.there b o e n
      exact ⟨o2, keepG b _ (old b o e) q⟩
    · refine (J.hok b o e).stay (fun c v hc q => keepG c v (fun z => ?_) q) (fun _ q => q) fun _ _ q => q
      rcases hc with z2 | z2
      · rw [← z2, z, nC] at e
        cases e
      · rw [z, nC] at z2
        cases z2
  refine ⟨a, B', { sI with heap := G }, pins, σ, H', cls, d, rfl, I2, fun b o e nb2 => ?_, fun b o e n => ?_, .inr (.inr hh3), na, os, ag, hW cls d σ' H' ?_ w⟩
  · obtain ⟨n, e⟩ := less_of ⟨g1, g2⟩ e
    exact (b1 b n).trans (nb b o e nb2)
  · obtain ⟨n2, e⟩ := less_of ⟨g1, g2⟩ e
    obtain ⟨sl, q⟩ := (up.trans u1) b o e n
    exact ((fun b2 o2 e2 n3 => u3 b2 o2 e2 n3 : _) b { o with slots := sl } ((stay b n2).trans q) n).imp fun sl2 q2 => q2
  · rw [J.len]
    exact I3.len.symm
/-- a comprehension over a list, its element may be refused: as a value -/
theorem lc_outX {elt tg iter : Expr} {ifs : List Expr} {scope : Scope} {own : List (Str × Nat)} {pos : Pos} {wi : TI} {g : TG} {tt : TT} {te : TE} {Wi Wo : WX} (tk : Takes X Wo)
    (hW : ∀ (σ σ' : L2.St) (H' : Hp) cls d, σ'.length = σ.length → Wi cls d σ' H' → Wo cls d σ H') (st : X.stack = X.env :: X.outer) (ef : X.env.frame = some X.env.locals)
    (calm : X.calm = true) (nd : X.N.Nodup) (hi : PI X tg iter wi) (ok : BlkOk X.N X.env.scope scope own)
    (hg : ∀ s H C cl fp xe, PG (bkX X s H scope (compEnvC scope cl C X.env) fp xe) tg g)
    (ht : ∀ s H C cl fp xe, Takes (bkX X s H scope (compEnvC scope cl C X.env) fp xe) Wi → PTs (bkX X s H scope (compEnvC scope cl C X.env) fp xe) ifs tt)
    (he : ∀ s H C cl fp xe, Takes (bkX X s H scope (compEnvC scope cl C X.env) fp xe) Wi → PE (bkX X s H scope (compEnvC scope cl C X.env) fp xe) elt te)
    (hs : ∀ x, foldedSetIterable iter X.env x = pure x := by intro _; rfl) : PE X (.ListComp elt [⟨tg, iter, ifs, 0⟩] scope pos) (tLc wi g tt te (own.map (·.2))) := by
  refine ⟨fun pins s σ H Q I h => ?_⟩
  have caught : ∀ y ∈ scope.names, y.2 = .free → ∃ c, X.env.cells.lookup y.1 = some c := fun y hy e => (ok.free y hy e).elim (fun k => I.ok.has _ (.inl k)) fun k => I.ok.has _ (.inr k)
  rw [eval_ListComp]
  refine comprehension_at (use := none) rfl hs (closure_ok caught) ok.kind (fun y hy e => (ok.uniq y hy).trans (congrArg some e)) (thn (hi.run pins s σ H _ I h) fun xv s1 y1 => thn y1 fun itv s2 y2 => ?_)
  obtain ⟨it, fp, tn, J, H2, rfl, I2, T, st2, f2, q⟩ := y2
  refine wpAny_newObj_type (newEnv_comp ?_) (by show 0 ≤ sizeLine; decide)
  -- D: the new list; A3: the state with it
  obtain ⟨D, hD⟩ : ∃ D, D = s2.heap.objs.size := ⟨_, rfl⟩
  rw [← hD]
  have freeD : H2 D = none := I2.hok.fresh (Nat.le_of_eq hD.symm)
  obtain ⟨W, ⟨m0, w0⟩, turn⟩ := q D freeD
  have push : ∀ b o, s2.heap.get? b = some o → (s2.heap.push { cls := .type "list", data := .seq ([] : List Value).toArray }).get? b = some o := fun b o e => Heap.get?_push_of_some _ e
  have I3 : Inv X pins σ (upd H2 D (.lst [])) { s2 with heap := s2.heap.push { cls := .type "list", data := .seq ([] : List Value).toArray } } :=
    I2.laid (t' := s2.toks) push (Nat.le_of_eq hD.symm) ⟨Nat.zero_le _, [], 0, .nil, by rw [hD]; exact Heap.get?_push_size _ rfl⟩
  obtain ⟨A3, hA⟩ : ∃ A3 : Shared, A3 = { s2 with heap := s2.heap.push { cls := .type "list", data := .seq ([] : List Value).toArray } } := ⟨_, rfl⟩
  rw [← hA] at I3
  have hh : A3.heap = s2.heap.push { cls := .type "list", data := .seq ([] : List Value).toArray } := by rw [hA]
  have was : ∀ b ∈ fp, b < s2.heap.objs.size := fun b hb => (T.obj _ _ st2 b hb).elim fun o e => Heap.lt_size e.1
  obtain ⟨H3, hH⟩ : ∃ H3, H3 = upd H2 D (.lst []) := ⟨_, rfl⟩
  rw [← hH] at I3 w0
  have f3 : ∀ b ∈ fp, FpOk X pins H3 b ∧ b < A3.heap.objs.size := fun b hb => by
    have lt := was b hb
    refine ⟨⟨?_, (f2 b hb).2⟩, by rw [hh, Heap.size_push]; exact Nat.lt_succ_of_lt lt⟩
    rw [hH, upd_ne (by rw [hD]; exact Nat.ne_of_lt lt)]
    exact (f2 b hb).1
  have st3 : tn 0 A3.heap := T.keep _ _ _ st2 fun b _ o e => by rw [hh]; exact push b o e
  have B4 := block_start I3 ok nd f3
  obtain ⟨cl, hcl⟩ : ∃ cl, cl = cellsFrom (A3.heap.objs.size + 1) scope.names (cloFrom X.env.cells scope.names []) := ⟨_, rfl⟩
  rw [← hcl] at B4
  have key : codeAny (model X.prog X.w) X.A (.compStart (.ListComp elt [⟨tg, iter, ifs, 0⟩] scope pos) 0 (.ref it) (.ref D) (compEnvC scope cl A3.heap.objs.size X.env))
      (compEnds (model X.prog X.w) X.A X.xe none (EP X pins σ Q) (.ref D) (compEnvC scope cl A3.heap.objs.size X.env)) { A3 with heap := pushCells (A3.heap.push { cls := .type "dict", data := .dict #[] }) scope.names } := by
    obtain ⟨ce, hce⟩ : ∃ ce, ce = compEnvC scope cl A3.heap.objs.size X.env := ⟨_, rfl⟩
    have cf : ce.frame = X.env.frame := by rw [hce]; rfl
    have cL : ce.locals = A3.heap.objs.size := by rw [hce]; rfl
    have chf : ∀ b ∈ fp, (b ∈ X.ex ∨ X.s_0.heap.objs.size ≤ b) ∧ b ≠ X.env.locals ∧ (∀ x c, X.env.cells.lookup x = some c → c ≠ b) ∧ ∀ p ∈ X.pn ++ pins, p.1 ≠ b := fun b hb =>
      ⟨(f3 b hb).1.2.2.2.1, (f3 b hb).1.2.1, (f3 b hb).1.2.2.2.2.1, (f3 b hb).1.2.2.2.2.2⟩
    obtain ⟨xe, hxe⟩ : ∃ xe : Value → Shared → Prop, xe = notedBy (model X.prog X.w) X.A ce (CompFails (model X.prog X.w) X.A X.xe ce) := ⟨_, rfl⟩
    have tkb : Takes (bkX X A3 H3 scope ce fp xe) Wi := fun u s' x => by
      rw [hxe]
      exact block_fails tk (fun cls d σ' H' => hW σ σ' H' cls d) st ef cf cL I3 chf x
    have pg := hg A3 H3 A3.heap.objs.size cl fp xe
    have pt := ht A3 H3 A3.heap.objs.size cl fp xe
    have pe := he A3 H3 A3.heap.objs.size cl fp xe
    rw [← hce] at B4 pg pt pe ⊢
    have pt := pt tkb
    have pe := pe tkb
    have B5 : Inv (bkX X A3 H3 scope ce fp xe) [] (wipe σ (own.map (·.2))) H3 { A3 with heap := pushCells (A3.heap.push { cls := .type "dict", data := .dict #[] }) scope.names } := bkX_inv B4
    obtain ⟨s4, hs4⟩ : ∃ s4 : Shared, s4 = { A3 with heap := pushCells (A3.heap.push { cls := .type "dict", data := .dict #[] }) scope.names } := ⟨_, rfl⟩
    rw [← hs4] at B5 ⊢
    have st4 : tn 0 s4.heap := T.keep _ _ _ st3 fun b _ o e => by rw [hs4]; exact pushCells_keeps _ _ _ _ (Heap.get?_push_of_some _ e)
    have stat : ∀ {σ' : L2.St} {H' : Hp} {s' : Shared}, Inv (bkX X A3 H3 scope ce fp xe) [] σ' H' s' → (∀ b ∈ fp, H' b = none) → ∀ b ∈ fp, FpOk (bkX X A3 H3 scope ce fp xe) [] H' b := fun {σ' H' s'} I' hn b hb =>
      ⟨hn b hb, (I'.ok.exf b hb).1, I'.ok.exfs b hb, .inl hb, fun x c e => (I'.ok.exf b hb).2 x c e, fun p hp => absurd (show p ∈ ([] : List (Addr × Obj)) ++ [] from hp) (by simp)⟩
    have loop : codeAny (model X.prog X.w) X.A (.compLoop (.ListComp elt [⟨tg, iter, ifs, 0⟩] scope pos) 0 (.ref it) (.ref D) ce) (compEnds (model X.prog X.w) X.A X.xe none (EP X pins σ Q) (.ref D) ce) s4 := by
      refine compLoop_any (fun n s' => ∃ i H', Inv (bkX X A3 H3 scope ce fp xe) [] (wipe σ (own.map (·.2))) H' s' ∧ tn i s'.heap ∧ (∀ b ∈ fp, H' b = none) ∧ W i n H') ?_ m0 ⟨0, H3, B5, st4, fun b hb => (f3 b hb).1.1, w0⟩
      rintro n s5 ⟨i, H5, I5, st5, n5, w5⟩
      have post : (notedBy (model X.prog X.w) X.A ce fun e s' => compEnds (model X.prog X.w) X.A X.xe none (EP X pins σ Q) (.ref D) ce (.error e) s') = xe := by rw [hxe]; rfl
      rw [post]
      rcases turn i n H5 w5 with ⟨halt, qq⟩ | ⟨go, Nx, hNx, step⟩
      · refine thnF (T.done (bkX X A3 H3 scope ce fp xe) rfl rfl rfl calm i [] s5 _ H5 (fun _ _ => False) I5 (stat I5 n5) st5 halt) fun r s6 ⟨hr, I6⟩ => ?_
        subst hr
        have I7 : Inv X pins σ H5 s6 := I3.call' (ch := fp) I6.os I6.base I6.hok I6.bare chf
        have nC : H5 ce.locals = none := I6.free
        obtain ⟨m, hn, _⟩ := I6.loc
        obtain ⟨k0, k1, k2, k3, k4, k5⟩ := I3.fpOk (H' := H5) (b := ce.locals) (Nat.le_of_eq cL.symm) nC
        exact ⟨m, hn, fun h' sb => ⟨.ref D, H5, I7.turned (t' := s6.toks) (fun b o hb e => (sb.2 b hb).trans e) k0 k1 k3 k4 k5, rfl, qq⟩⟩
      · refine thnF (T.item (bkX X A3 H3 scope ce fp xe) rfl rfl rfl calm i [] s5 _ H5 (fun _ _ => False) I5 (stat I5 n5) st5 go) fun r s6 ⟨u, hr, h6⟩ => ?_
        subst hr
        refine thnF h6 fun _ s7 ⟨x, H7, I7, r7, y7, st7, n7⟩ => ?_
        have J7 := I7.pinned (stat I7 n7) (T.obj _ _ st7)
        refine wpAny_mono (pg.run _ s7 _ H7 x u _ J7 r7 (step x H7 y7)) (fun _ s8 ⟨σ8, H8, I8, hw8, q8⟩ => ?_) fun _ _ z => z
        have fin : ∀ {s' : Shared} {H' : Hp}, Inv (bkX X A3 H3 scope ce fp xe) ([] ++ pinsAt fp s7.heap) σ8 H' s' → Nx H' → ∃ m, m < n ∧ ∃ i H', Inv (bkX X A3 H3 scope ce fp xe) [] (wipe σ (own.map (·.2))) H' s' ∧ tn i s'.heap ∧ (∀ b ∈ fp, H' b = none) ∧ W i m H' := fun {s' H'} I' nx => by
          obtain ⟨m', lt, w'⟩ := hNx H' nx
          have there : ∀ b ∈ fp, ∀ o, s7.heap.get? b = some o → s'.heap.get? b = some o ∧ H' b = none := fun b hb o e =>
            have z := I'.pin (b, o) (List.mem_append_right _ (List.mem_append_right _ (mem_pinsAt hb e)))
            ⟨z.1, z.2.1⟩
          refine ⟨m', lt, i + 1, H', (I'.unpinned (pins := [])).weak (by rw [← hw8, wipe_length]) (fun j v e => ?_), T.keep _ _ _ st7 fun b hb o e => (there b hb o e).1, fun b hb => ?_, w'⟩
          · rw [← hw8] at e
            exact (wipe_some e).1
          · obtain ⟨o, e, _⟩ := T.obj _ _ st7 b hb
            exact (there b hb o e).2
        refine wpAny_mono (pt.run _ s8 σ8 H8 _ I8 q8) (fun b s9 ⟨H9, I9, q9⟩ => ?_) fun _ _ z => z
        cases b with
        | false =>
          rw [if_neg (by simp)] at q9 ⊢
          exact fin I9 q9
        | true =>
          rw [if_pos rfl] at q9 ⊢
          refine wpAny_mono (pe.run _ s9 σ8 H9 _ I9 q9) (fun z s10 ⟨yv, H10, I10, r10, acc, d10, z10, nx⟩ => ?_) fun _ _ z => z
          exact app_ok (X := bkX X A3 H3 scope ce fp xe) I10 d10 z10 r10 fun s11 I11 => fin I11 nx
    exact codeAny_compStart_list loop (T.self X.A 0 _ _ _ st4 loop)
  subst hcl hA hD
  exact key
end
section
variable {X : Cx} {elt tg iter : Expr} {ifs : List Expr} {scope : Scope} {own : List (Str × Nat)} {pos : Pos} {wi : DI} {t : CT} {c : DT} {we : DE} {m : Nat} {I S : Type} {dec : List SD → Option (I × S)} {emb : I → S → List SD} {qb : PyData → I → S → (I → S → Prop) → (PyData → I → S → Prop) → Prop}
theorem un_get {n i : Nat} {r : SD} (h : (List.replicate n SD.un)[i]? = some r) : r = .un := by
  rw [List.getElem?_replicate] at h
  split at h
  · exact (Option.some.inj h).symm
  · cases h
/-- the names forgotten -/
theorem Ok.blank {K : PySem.W.Frag} {g : Gx Z} {F H : Hp} {env : List SD} {σ σ' : L2.St} (h0 : ∀ i, Z.A0 i = none) (k : Ok K g F env σ' H) (e : σ'.length = σ.length) : Ok K g F (List.replicate σ.length .un) σ H where
  len := by simp
  fh := k.fh
  dat := fun i d z => by cases un_get z
  cel := fun i p xs z => by cases un_get z
  sep := fun i j p q xs ys a z => by cases un_get z
  pin := fun i a z => by
    have q : Z.A0 i = some a := z
    rw [h0] at q
    cases q
  frame := k.frame
  newF := k.newF
  oldF := k.oldF
  prot := fun a o z => ⟨(k.prot a o z).1, (k.prot a o z).2.1, fun j p ys q => by cases un_get q⟩
  dic := fun i kvs z => by cases un_get z
theorem liftW_blank {K : PySem.W.Frag} {Ec : Str → Prop} {σ σ' : L2.St} {H : Hp} {cls : Value} {d : Option Addr} (h0 : ∀ i, Z.A0 i = none) (e : σ'.length = σ.length) (h : liftW K Z (fun c _ => Ec c) cls d σ' H) : liftW K Z (fun c _ => Ec c) cls d σ H := by
  obtain ⟨c, h1, h2, h3, g, F, env, k, h4⟩ := h
  exact ⟨c, h1, h2, h3, g, F, _, k.blank h0 e, h4⟩
/-- [elt for tg in iter if ..], of which a part may be refused -/
theorem dlcX (own : List (Str × Nat)) (t : CT) {Ec : Str → Prop} (h0 : ∀ i, Z.A0 i = none) (tk : Takes X (liftW X.K Z fun c _ => Ec c)) (st : X.stack = X.env :: X.outer) (ef : X.env.frame = some X.env.locals)
    (hde : ∀ env i s, dec env = some (i, s) → env = emb i s) (hc : X.calm = true) (hN : X.N.Nodup) (hi : PI X tg iter (liftI X.K Z t.isT wi)) (ok : BlkOk X.N X.env.scope scope own)
    (hg : ∀ s H C cl fp xe, PG (bkX X s H scope (compEnvC scope cl C X.env) fp xe) tg (t.g X.K))
    (ht : ∀ s H C cl fp xe, Takes (bkX X s H scope (compEnvC scope cl C X.env) fp xe) (liftW X.K Z fun c _ => Ec c) → PTs (bkX X s H scope (compEnvC scope cl C X.env) fp xe) ifs (liftT X.K Z c))
    (he : ∀ s H C cl fp xe, Takes (bkX X s H scope (compEnvC scope cl C X.env) fp xe) (liftW X.K Z fun c _ => Ec c) → PE (bkX X s H scope (compEnvC scope cl C X.env) fp xe) elt (liftE X.K Z we))
    (hq : LcHyp dec emb qb t c we) (hsl : t.slots = own.map (·.2) := by rfl) (hs : ∀ x, foldedSetIterable iter X.env x = pure x := by intro _; rfl) :
    PE X (.ListComp elt [⟨tg, iter, ifs, 0⟩] scope pos) (liftX X.K Z (dLcQ dec emb qb wi t)) :=
  PE.of (lc_outX tk (fun σ σ' H' cls d e h => liftW_blank h0 e h) st ef hc hN hi ok hg ht he hs) fun σ H Q h => by
    have h2 := lift_lc hde hq h
    rw [hsl] at h2
    exact h2
end
section
variable {P : Program} {w : World} {K : PySem.W.Frag} {mg : Str → Option Value} {base : Heap}
/-- as dfnXW; no cell is handed in -/
theorem dfnXA {x qual : Str} {st : Stmt} {f : Addr} {fd : FuncData} {N ps : List Str} {k : Nat} {S : DSpX} (Fn : Fun K x qual st f fd) (sc : FnScope N ps (defScope st)) (len : ∀ as Q E, S as Q E → as.length = ps.length) (nc : ∀ as Q E, S as Q E → NoCel as)
    (hbody : ∀ {Z : Zx} (Ec : Str → Prop) (cdv : Value) (A : Around) (outer : List Env) (s : Shared) (H : Hp) (E : XWish), Z.P = P → Z.w = w → (∀ i, Z.A0 i = none) → Takes (cxOf (L2.CX P w) P w K mg base N qual (defScope st) f cdv A outer s H E) (liftW K Z fun c _ => Ec c) →
      PassesOwn (model P w) (A.deeper (envOfC qual (defScope st) s.heap.objs.size f cdv)) (envOfC qual (defScope st) s.heap.objs.size f cdv) (cxOf (L2.CX P w) P w K mg base N qual (defScope st) f cdv A outer s H E).xe →
      Room k (A.deeper (envOfC qual (defScope st) s.heap.objs.size f cdv)) → (A.deeper (envOfC qual (defScope st) s.heap.objs.size f cdv)).guards = some [] →
      ∃ t : DS, PSs (cxOf (L2.CX P w) P w K mg base N qual (defScope st) f cdv A outer s H E) (defBody st) (liftS K Z 0 t) ∧
        ∀ as Q, S as Q Ec → t (defEnds 0 Q) (as ++ List.replicate (N.length - ps.length) .un)) : FnX P w K mg base (k + 1) f fd ps S := by
  obtain ⟨oc, od, kV, doc, pm, an, cdv, ct, osl, rfl, lk, hcd⟩ := Fn.ex
  refine ⟨len, nc, fun A outer s H args us vs Q E hr hg e0 hb rv ⟨F0, as, PP, Ec, ha, hS, hQ, hE⟩ => ?_⟩
  have al : as.length = ps.length := len as PP Ec hS
  have hl : vs.length = ps.length := ha.len.symm.trans al
  have hpl : ps.length ≤ N.length := by
    have := congrArg List.length sc.pre
    rw [List.length_take] at this
    omega
  have KX : K.In s.heap := e0.mod.kin.keeps fun b o e => (e0.bs b o e).1
  have noc := nc as PP Ec hS
  have cells : ∀ (i : Nat) (p : Bool) (xs : List PyData), as[i]? = some (.cel p xs) → i < 0 := fun i p xs e => absurd e (noc i p xs)
  refine codeAny_call_function hr.depth (KX _ _ lk) rfl sc.co sc.gen rfl (PySem.W.codeRec_of KX hcd) (hb _ _ _ _ (wpAny_newFunctionEnv_cells sc.kind (fun ⟨n, v⟩ hy => ?_) fun env he s1 y => ?_))
  · rcases sc.par n (List.of_mem_zip hy).1 with q | q
    · exact .inl q
    · exact .inr ⟨q, PySem.W.cellsFrom_some _ _ _ (.inl q)⟩
  · subst he
    have tk : Takes (cxOf (L2.CX P w) P w K mg base N qual (defScope st) f cdv A outer s H E) (liftW K (entryZ P w F0 H vs as) fun c _ => Ec c) := (takes_of rfl rfl rfl rfl).imp fun cls d σ2 H2 ⟨c, h1, h2, xc, g2, F2, env2, k2, h3⟩ => by
      subst h1 h2
      exact hE c F2 H2 h3 xc ⟨k2.oldF, k2.fh, k2.newF, fun a o e _ => k2.frame a o e fun i z => (by
        obtain ⟨p, xs, h1, h2⟩ := cellsAt_inv z
        exact noc i p xs h1), fun i p xs a h1 _ => absurd h1 (noc i p xs), .non⟩
    obtain ⟨t, ht, hq⟩ := hbody (Z := entryZ P w F0 H vs as) Ec cdv A outer s H E rfl rfl (fun i => Option.eq_none_iff_forall_ne_some.mpr fun a z => (cellsAt_inv z).elim fun p h => h.elim fun xs h => noc i p xs h.1) tk (passes_of rfl) (hr.deeper _) hg
    have I : Inv (cxOf (L2.CX P w) P w K mg base N qual (defScope st) f cdv A outer s H E) [] (start N vs) H s1 := inv_start sc hr.hd e0 hl rv y
    refine ⟨(e0.mod.nolimit.keeps fun b o e => (e0.bs b o e).1).keeps y.toInCall.keep, codeAny_func (wpAny_mono (ht.run [] s1 (start N vs) H { nx := fun _ H' => Q .non H', rt := Q } I ?_) (fun fl s' hs => ?_) fun e s' hs => hs)⟩
    · refine ⟨entryG P w F0 H vs as, F0, _, _, entry_ok ha al hpl, hq as PP hS, ?_⟩
      exact .mk4 (.mk (fun env' σ' F' H' p _ k' => hQ _ _ _ _ _ p (post_of k' cells .non)) (fun _ _ _ _ p => p.elim) (fun _ _ _ _ p => p.elim) (fun r env' v σ' F' H' p _ k' r' => hQ _ _ _ _ _ p (post_of k' cells r'))) rfl
    · have fin : ∀ {σ' : L2.St} {H' : Hp} {v : V} {u : Value}, Inv (cxOf (L2.CX P w) P w K mg base N qual (defScope st) f cdv A outer s H E) [] σ' H' s' → RelV v u → Q v H' → CE outer P w H s Q u s' :=
        fun {σ' H' v u} J r q => ⟨v, H', J.os, J.bare, J.base, J.hok, r, q⟩
      match fl, hs with
      | .ret u, ⟨v, σ', H', J, r, q⟩ => exact fin J r q
      | .next, ⟨σ', H', J, q⟩ => exact fin (v := V.non) (u := Value.none) J rfl q
      | .brk, ⟨_, _, _, q⟩ => exact q.elim
      | .cont, ⟨_, _, _, q⟩ => exact q.elim
end
end DL

namespace DL
open PySem PySem.Spec PyProof.Rows L2
section
variable {P : Program} {w : World} {κ : Type} [DecidableEq κ] {kd : KeyKind P w κ}
section
variable {A : Around} {E : Value → Shared → Prop} {s : Shared}
end
abbrev hashT (kd : KeyKind P w κ) (p : Addr × List κ) : Int := tupleKeyHash kd p.2
def rowT (kd : KeyKind P w κ) (p : Addr × List κ) : Int × Value := (hashT kd p, .ref p.1)
/-- a set of tuples: each by its place and its parts -/
structure TSet (kd : KeyKind P w κ) (h : Heap) (a : Addr) (L : List (Addr × List κ)) (es : Array (Int × Value)) (ep : Nat) (t : SetTable) : Prop where
  ob : ∃ o, h.get? a = some o ∧ o.ExactSet ∧ o.data = .set es ep t
  ent : es.toList = L.map (rowT kd)
  tab : TabOk t (L.map (hashT kd))
  once : (L.map (·.2)).Nodup
  tup : ∀ p ∈ L, IsTupleKey kd h p.2 p.1
  led : w.params.followText "set-order" = true ∨ t.led = true
  room : L.length * 5 < t.mask * 3
  few : L.length < 64
section
variable {A : Around} {E : Value → Shared → Prop} {s : Shared} {a : Addr} {L : List (Addr × List κ)} {es : Array (Int × Value)} {ep : Nat} {t : SetTable}
theorem ent_size (e : es.toList = L.map (rowT kd)) : es.size = L.length := by
  rw [← Array.length_toList, e, List.length_map]
theorem tab_fits {t : SetTable} {hs : List Int} {n : Nat} (T : t.dummies = #[]) (h1 : t.place.size = n) (h2 : n ≤ t.mask) : t.fits n = true := by
  unfold SetTable.fits SetTable.fill
  rw [T, h1]
  simp only [beq_self_eq_true, Bool.true_and, decide_eq_true_eq]
  exact h2
theorem TSet.fits (R : TSet kd s.heap a L es ep t) : t.fits es.size = true := by
  have z1 := R.tab.sz
  have z2 := R.room
  rw [List.length_map] at z1
  rw [ent_size R.ent]
  exact tab_fits (hs := []) R.tab.dm z1 (by omega)
theorem TSet.place (R : TSet kd s.heap a L es ep t) : t.place.toList.length = L.length := by
  have z := R.tab.sz
  rw [List.length_map] at z
  rw [Array.length_toList, z]
end
/-- each once -/
def d1 {α : Type} [DecidableEq α] (acc : List α) (k : α) : List α := if k ∈ acc then acc else k :: acc
section
variable {A : Around} {E : Value → Shared → Prop} {s : Shared}
end
end
section
variable {X : Cx} {Z : Zx}
variable {a : Expr} {wa : DE} {pos p p2 pos2 : Pos}
end
end DL

namespace DL
variable {Z : Zx}
open PySem PySem.Spec PyProof.Rows L2 PySem.W
open Evl (Ex)
section
variable {P : Program} {w : World} {A : Around} {E : Value → Shared → Prop} {s : Shared}
end
section
variable {X : Cx}
variable {a : Expr} {wa : DE} {p pos : Pos}
end
section
variable {X : Cx} {e e2 : Expr} {wi we : DE} {m : Nat} {pos : Pos}
end
end DL

namespace DL
variable {Z : Zx}
open PySem PySem.Spec PyProof.Rows L2 PySem.W
open Evl (Ex)
section
variable {P : Program} {w : World} {A : Around} {E : Value → Shared → Prop} {s : Shared} {a : Addr}
end
section
variable {X : Cx}
variable {a : Expr} {wa : DE} {p p2 pos pos2 : Pos}
end
end DL

namespace DL
variable {Z : Zx}
open PySem PySem.Spec PyProof.Rows L2 PySem.W
open Evl (Ex)
section
variable {X : Cx} {a b c : Expr} {was : DA} {m : Nat} {pos : Pos}
end
end DL

namespace K21
open PySem PySem.Spec PyProof.Rows L2 DL
abbrev prg : Program := PySem.Challenge.pw_prizelog_k21_tables_refused
def top (i : Nat) : Stmt := prg.main.body.getD i (.Pass ⟨0, 0, 0, 0⟩)
def fa : List He.Fa := [.free "isinstance", .free "int", .free "bool", .free "abs", .free "tuple", .free "len", .free "all", .free "zip", .free "max", .free "min", .free "sorted", .free "set", .free "enumerate", .free "range", .free "list", .free "ValueError", .free "repr", .int "MOST_ROWS" 20, .int "LAST_HOUR" 100000, .int "FARTHEST" 10000, .int "MOST_MILES" 100000, .int "MOST_LOGS" 4, .glo "is_whole", .glo "divisor_of", .glo "lowest", .glo "is_hour", .glo "is_log_row", .glo "is_log", .glo "need_log", .glo "need_chase", .glo "hours_of_both", .glo "marks_between", .glo "whole_place", .glo "apart_at", .glo "least_between", .glo "nearest_of", .glo "need_both", .glo "are_near_by", .glo "are_near", .glo "is_number", .glo "are_logbooks", .glo "need_logbooks", .glo "sight_table", .glo "is_row", .glo "is_table", .glo "need_table", .glo "least_place", .glo "word_of", .glo "open_by", .glo "has_at", .glo "shows_open", .glo "_law_pot", .glo "_law_take", .glo "_law_log", .glo "_law_books", .glo "_law_asked_for", .glo "_law_table", .glo "_law_sort", .glo "_law_no_books", .glo "_law_no_chase", .glo "_law_no_miles", .glo "_law_no_table", .glo "_law_asked", .glo "_law_tables_right", .glo "law", .glo "NoLogs", .glo "NoChase", .glo "NoMiles", .glo "NoTable", .glo "NoSights", .glo "NoSet", .glo "NoNumber", .glo "NoSale", .glo "NoMan", .glo "NoCrew", .glo "NoScheme", .glo "NoHour", .glo "NoName", .glo "NoRoll", .glo "NoLog", .glo "NoPart", .glo "NoWeights", .glo "NoRow", .glo "NoText", .glo "NoChange", .glo "NoMoney", .glo "NoBalances", .glo "NoPrize", .glo "NoPage", .glo "NoPages", .glo "NoCrews", .glo "TooMany", .glo "PrizeError", .keep "is_whole", .keep "divisor_of", .keep "lowest", .keep "is_hour", .keep "is_log_row", .keep "is_log", .keep "need_log", .keep "need_chase", .keep "hours_of_both", .keep "marks_between", .keep "whole_place", .keep "apart_at", .keep "least_between", .keep "nearest_of", .keep "need_both", .keep "are_near_by", .keep "are_near", .keep "is_number", .keep "are_logbooks", .keep "need_logbooks", .keep "sight_table", .keep "is_row", .keep "is_table", .keep "need_table", .keep "least_place", .keep "word_of", .keep "open_by", .keep "has_at", .keep "shows_open", .keep "_law_pot", .keep "_law_take", .keep "_law_log", .keep "_law_books", .keep "_law_asked_for", .keep "_law_table", .keep "_law_sort", .keep "_law_no_books", .keep "_law_no_chase", .keep "_law_no_miles", .keep "_law_no_table", .keep "_law_asked", .keep "_law_tables_right", .keep "law"]
def dD (x : Str) (i : Nat) : He.FnD := ⟨(x, none), x, x, defArgs (top i), defBody (top i), defScope (top i)⟩
def dA (x y : Str) (i : Nat) : He.FnD := ⟨(x, none), y, y, defArgs (top i), defBody (top i), defScope (top i)⟩
def fn : List He.FnD := [dD "is_whole" 1, dD "divisor_of" 2, dD "lowest" 3, dD "is_hour" 37, dD "is_log_row" 38, dD "is_log" 39, dD "need_log" 40, dD "need_chase" 41, dD "hours_of_both" 42, dD "marks_between" 43, dD "whole_place" 46, dD "apart_at" 47, dD "least_between" 48, dD "nearest_of" 49, dD "need_both" 50, dD "are_near_by" 51, dD "are_near" 52, dD "is_number" 55, dD "are_logbooks" 56, dD "need_logbooks" 57, dD "sight_table" 58, dD "is_row" 59, dD "is_table" 60, dD "need_table" 61, dD "least_place" 62, dD "word_of" 63, dD "open_by" 64, dD "has_at" 65, dD "shows_open" 66, dD "_law_pot" 68, dD "_law_take" 69, dD "_law_log" 70, dD "_law_books" 71, dD "_law_asked_for" 72, dD "_law_table" 73, dD "_law_sort" 74, dD "_law_no_books" 75, dD "_law_no_chase" 76, dD "_law_no_miles" 77, dD "_law_no_table" 78, dD "_law_asked" 79, dD "_law_tables_right" 80, dD "law" 81]
def fx : List Fx := [.exc "NoLog", .exc "NoChase", .exc "NoMiles", .exc "NoLogs", .exc "NoTable"]
abbrev Tp (K : PySem.W.Frag) (mg : Str → Option Value) : Prop := TopX fa fn fx K mg
section
variable {K : PySem.W.Frag} {mg : Str → Option Value}
theorem m_isinstance (T : Tp K mg) : mg "isinstance" = none := T.free "isinstance" 0
theorem m_int (T : Tp K mg) : mg "int" = none := T.free "int" 1
theorem m_bool (T : Tp K mg) : mg "bool" = none := T.free "bool" 2
theorem m_abs (T : Tp K mg) : mg "abs" = none := T.free "abs" 3
theorem m_tuple (T : Tp K mg) : mg "tuple" = none := T.free "tuple" 4
theorem m_len (T : Tp K mg) : mg "len" = none := T.free "len" 5
theorem m_all (T : Tp K mg) : mg "all" = none := T.free "all" 6
theorem m_zip (T : Tp K mg) : mg "zip" = none := T.free "zip" 7
theorem m_max (T : Tp K mg) : mg "max" = none := T.free "max" 8
theorem m_min (T : Tp K mg) : mg "min" = none := T.free "min" 9
theorem m_sorted (T : Tp K mg) : mg "sorted" = none := T.free "sorted" 10
theorem m_set (T : Tp K mg) : mg "set" = none := T.free "set" 11
theorem m_enumerate (T : Tp K mg) : mg "enumerate" = none := T.free "enumerate" 12
theorem m_range (T : Tp K mg) : mg "range" = none := T.free "range" 13
theorem m_list (T : Tp K mg) : mg "list" = none := T.free "list" 14
theorem m_ValueError (T : Tp K mg) : mg "ValueError" = none := T.free "ValueError" 15
theorem m_repr (T : Tp K mg) : mg "repr" = none := T.free "repr" 16
theorem c_MOST_ROWS (T : Tp K mg) : ∃ t, mg "MOST_ROWS" = some (.int 20 t) := T.int "MOST_ROWS" 20 17
theorem c_LAST_HOUR (T : Tp K mg) : ∃ t, mg "LAST_HOUR" = some (.int 100000 t) := T.int "LAST_HOUR" 100000 18
theorem c_FARTHEST (T : Tp K mg) : ∃ t, mg "FARTHEST" = some (.int 10000 t) := T.int "FARTHEST" 10000 19
theorem c_MOST_MILES (T : Tp K mg) : ∃ t, mg "MOST_MILES" = some (.int 100000 t) := T.int "MOST_MILES" 100000 20
theorem c_MOST_LOGS (T : Tp K mg) : ∃ t, mg "MOST_LOGS" = some (.int 4 t) := T.int "MOST_LOGS" 4 21
theorem ce_NoLog (T : Tp K mg) : CtE K mg "NoLog" := T.exc "NoLog" 0
theorem ce_NoChase (T : Tp K mg) : CtE K mg "NoChase" := T.exc "NoChase" 1
theorem ce_NoMiles (T : Tp K mg) : CtE K mg "NoMiles" := T.exc "NoMiles" 2
theorem ce_NoLogs (T : Tp K mg) : CtE K mg "NoLogs" := T.exc "NoLogs" 3
theorem ce_NoTable (T : Tp K mg) : CtE K mg "NoTable" := T.exc "NoTable" 4
theorem gl_NoLogs (T : Tp K mg) : mg "NoLogs" = some (.ref (He.ga K "NoLogs")) := T.glo "NoLogs" 65
theorem gl_NoChase (T : Tp K mg) : mg "NoChase" = some (.ref (He.ga K "NoChase")) := T.glo "NoChase" 66
theorem gl_NoMiles (T : Tp K mg) : mg "NoMiles" = some (.ref (He.ga K "NoMiles")) := T.glo "NoMiles" 67
theorem gl_NoTable (T : Tp K mg) : mg "NoTable" = some (.ref (He.ga K "NoTable")) := T.glo "NoTable" 68
theorem gl_NoSights (T : Tp K mg) : mg "NoSights" = some (.ref (He.ga K "NoSights")) := T.glo "NoSights" 69
theorem gl_NoSet (T : Tp K mg) : mg "NoSet" = some (.ref (He.ga K "NoSet")) := T.glo "NoSet" 70
theorem gl_NoNumber (T : Tp K mg) : mg "NoNumber" = some (.ref (He.ga K "NoNumber")) := T.glo "NoNumber" 71
theorem gl_NoSale (T : Tp K mg) : mg "NoSale" = some (.ref (He.ga K "NoSale")) := T.glo "NoSale" 72
theorem gl_NoMan (T : Tp K mg) : mg "NoMan" = some (.ref (He.ga K "NoMan")) := T.glo "NoMan" 73
theorem gl_NoCrew (T : Tp K mg) : mg "NoCrew" = some (.ref (He.ga K "NoCrew")) := T.glo "NoCrew" 74
theorem gl_NoScheme (T : Tp K mg) : mg "NoScheme" = some (.ref (He.ga K "NoScheme")) := T.glo "NoScheme" 75
theorem gl_NoHour (T : Tp K mg) : mg "NoHour" = some (.ref (He.ga K "NoHour")) := T.glo "NoHour" 76
theorem gl_NoName (T : Tp K mg) : mg "NoName" = some (.ref (He.ga K "NoName")) := T.glo "NoName" 77
theorem gl_NoRoll (T : Tp K mg) : mg "NoRoll" = some (.ref (He.ga K "NoRoll")) := T.glo "NoRoll" 78
theorem gl_NoLog (T : Tp K mg) : mg "NoLog" = some (.ref (He.ga K "NoLog")) := T.glo "NoLog" 79
theorem gl_NoPart (T : Tp K mg) : mg "NoPart" = some (.ref (He.ga K "NoPart")) := T.glo "NoPart" 80
theorem gl_NoWeights (T : Tp K mg) : mg "NoWeights" = some (.ref (He.ga K "NoWeights")) := T.glo "NoWeights" 81
theorem gl_NoRow (T : Tp K mg) : mg "NoRow" = some (.ref (He.ga K "NoRow")) := T.glo "NoRow" 82
theorem gl_NoText (T : Tp K mg) : mg "NoText" = some (.ref (He.ga K "NoText")) := T.glo "NoText" 83
theorem gl_NoChange (T : Tp K mg) : mg "NoChange" = some (.ref (He.ga K "NoChange")) := T.glo "NoChange" 84
theorem gl_NoMoney (T : Tp K mg) : mg "NoMoney" = some (.ref (He.ga K "NoMoney")) := T.glo "NoMoney" 85
theorem gl_NoBalances (T : Tp K mg) : mg "NoBalances" = some (.ref (He.ga K "NoBalances")) := T.glo "NoBalances" 86
theorem gl_NoPrize (T : Tp K mg) : mg "NoPrize" = some (.ref (He.ga K "NoPrize")) := T.glo "NoPrize" 87
theorem gl_NoPage (T : Tp K mg) : mg "NoPage" = some (.ref (He.ga K "NoPage")) := T.glo "NoPage" 88
theorem gl_NoPages (T : Tp K mg) : mg "NoPages" = some (.ref (He.ga K "NoPages")) := T.glo "NoPages" 89
theorem gl_NoCrews (T : Tp K mg) : mg "NoCrews" = some (.ref (He.ga K "NoCrews")) := T.glo "NoCrews" 90
theorem gl_TooMany (T : Tp K mg) : mg "TooMany" = some (.ref (He.ga K "TooMany")) := T.glo "TooMany" 91
theorem gl_PrizeError (T : Tp K mg) : mg "PrizeError" = some (.ref (He.ga K "PrizeError")) := T.glo "PrizeError" 92
end
/-! ### the head -/
abbrev R : PySem.W.OpenRow := PySem.W.OpenLaw.row PySem.Challenge.rw_prizelog_k21_tables_refused
abbrev hk : PySem.W.Hook := hookX 5 fa fn fx
def ob (s : PySem.W.SharedT) : He.Al × Bool × Bool := (He.obsG 5 fa fn (HandSHeadRun.getT s), sysB (HandSHeadRun.getT s), fxG 5 fx (HandSHeadRun.getT s))
theorem ob_eq (s : PySem.W.SharedT) : ob s = hk.obs s.abs := obsX_eq (HandSHeadRun.getT_eq s)
def loose : List Str := "is_whole" :: "divisor_of" :: "lowest" :: "PrizeError" :: "NoWeights" :: "NoPart" :: "NoNumber" :: "NoLog" :: "NoChase" :: "NoMiles" :: "NoLogs" :: "NoTable" :: "NoSights" :: "NoSet" :: "NoRoll" :: "NoName" :: "NoHour" :: "NoScheme" :: "NoCrew" :: "NoMan" :: "NoSale" :: "NoCrews" :: "NoPages" :: "NoPage" :: "NoPrize" :: "NoBalances" :: "NoMoney" :: "NoChange" :: "TooMany" :: "NoText" :: "NoRow" :: "MOST_ROWS" :: "LAST_HOUR" :: "FARTHEST" :: "is_hour" :: "is_log_row" :: "is_log" :: "need_log" :: "need_chase" :: "hours_of_both" :: "marks_between" :: "MOST_MILES" :: "whole_place" :: "apart_at" :: "least_between" :: "nearest_of" :: "need_both" :: "are_near_by" :: "are_near" :: "MOST_LOGS" :: "is_number" :: "are_logbooks" :: "need_logbooks" :: "sight_table" :: "is_row" :: "is_table" :: "need_table" :: "least_place" :: "word_of" :: "open_by" :: "has_at" :: "shows_open" :: "_law_pot" :: "_law_take" :: "_law_log" :: "_law_books" :: "_law_asked_for" :: "_law_table" :: "_law_sort" :: "_law_no_books" :: "_law_no_chase" :: "_law_no_miles" :: "_law_no_table" :: "_law_asked" :: "_law_tables_right" :: []
theorem run (w : World) : HandSHeadRun.RunEq R (PySem.W.view R.prog [81]) hk ob 20000 loose w := by
  intro os
  kernel_rfl
def q_is_whole (thing : PyData) (K : PyData → Prop) : Prop :=
  vAnd (isiB thing "int") (fun k1 => k1 (.bool (!(isiB thing "bool")))) fun t2 =>
  K t2
def qb_divisor_of_1 (K : PyData → Prop) (i : Unit) (s : PyData × PyData) (nx bk : Unit → (PyData × PyData) → Prop) : Prop :=
  oGt s.2 (.int 0) fun t3 =>
  bT t3 fun b4 =>
  bIf b4
  (oMod s.1 s.2 fun t5 =>
  nx () (s.2, t5))
  (bk () (s.1, s.2))
def q_divisor_of (one : PyData) (other : PyData) (K : PyData → Prop) : Prop :=
  nAbs [one] fun t1 =>
  nAbs [other] fun t2 =>
  qWhile (qb_divisor_of_1 K) () (t1, t2) fun s7 =>
  K s7.1
def q_lowest (p : PyData) (q : PyData) (K : PyData → Prop) : Prop :=
  q_divisor_of p q fun by_1 =>
  oLt q (.int 0) fun t2 =>
  bT t2 fun b3 =>
  jn (fun J6 => bIf b3
  (oSub (.int 0) by_1 fun by_4 =>
  J6 by_4)
  (J6 by_1)) fun by_5 =>
  oFd p by_5 fun t7 =>
  oFd q by_5 fun t8 =>
  K (.tuple [t7, t8])
def q_is_hour (thing : PyData) (K : PyData → Prop) : Prop :=
  q_is_whole thing fun i1 =>
  bT i1 fun b2 =>
  vAnd b2 (fun k8 => oLe (.int 0) thing fun t3 =>
  bT t3 fun b4 =>
  vAnd b4 (fun k6 => oLe thing (.int (100000)) fun t5 =>
  k6 t5) fun t7 =>
  k8 t7) fun t9 =>
  K t9
def qb_is_log_row_1 (d : PyData) (i : PyData) (s : Unit) (sk : PyData → Unit → Prop) (yd : PyData → PyData → Unit → Prop) : Prop :=
  q_is_whole d fun i13 =>
  bT i13 fun b14 =>
  vAnd b14 (fun k17 => nAbs [d] fun t15 =>
  oLe t15 (.int (10000)) fun t16 =>
  k17 t16) fun t18 =>
  yd t18 i ()
def q_is_log_row (thing : PyData) (K : PyData → Prop) : Prop :=
  tOr (!(isiB thing "tuple")) (fun k9 => nLen [thing] fun t1 =>
  oNe t1 (.int 3) fun t2 =>
  bT t2 fun b3 =>
  tOr b3 (fun k7 => oIx thing (.int 0) fun t4 =>
  q_is_hour t4 fun i5 =>
  bT i5 fun b6 =>
  k7 (!b6)) fun b8 =>
  k9 b8) fun b10 =>
  bIf b10
  (K (.bool false))
  (oSl thing (some 1) none fun l11 =>
  itemsQ l11 fun l12 =>
  qLc qb_is_log_row_1 thing l12 [] () fun l19 s21 =>
  nAll [(.list l19)] fun t22 =>
  K t22)
def qb_is_log_1 (d : PyData) (i : PyData) (s : Unit) (sk : PyData → Unit → Prop) (yd : PyData → PyData → Unit → Prop) : Prop :=
  q_is_log_row d fun i9 =>
  yd i9 i ()
def qb_is_log_2 (d : PyData) (i : PyData) (s : Unit) (sk : PyData → Unit → Prop) (yd : PyData → PyData → Unit → Prop) : Prop :=
  tupQ d fun r =>
  consQ r fun one' r1 =>
  consQ r1 fun other' r2 =>
  nilQ r2 (oIx one' (.int 0) fun t21 =>
  oIx other' (.int 0) fun t22 =>
  oLt t21 t22 fun t23 =>
  yd t23 i ())
def q_is_log (thing : PyData) (K : PyData → Prop) : Prop :=
  tOr (!(isiB thing "tuple")) (fun k17 => nLen [thing] fun t1 =>
  oLe (.int 1) t1 fun t2 =>
  bT t2 fun b3 =>
  vAnd b3 (fun k5 => oLe t1 (.int (20)) fun t4 =>
  k5 t4) fun t6 =>
  bT t6 fun b7 =>
  tOr (!b7) (fun k15 => itemsQ thing fun l8 =>
  qLc qb_is_log_1 thing l8 [] () fun l10 s12 =>
  nAll [(.list l10)] fun t13 =>
  bT t13 fun b14 =>
  k15 (!b14)) fun b16 =>
  k17 b16) fun b18 =>
  bIf b18
  (K (.bool false))
  (oSl thing (some 1) none fun l19 =>
  zipQ [thing, l19] fun l20 =>
  qLc qb_is_log_2 thing l20 [] () fun l24 s26 =>
  nAll [(.list l24)] fun t27 =>
  K t27)
def q_need_log (thing : PyData) (K : PyData → Prop) (E : Str → Prop) : Prop :=
  q_is_log thing fun i1 =>
  bT i1 fun b2 =>
  bIf (!b2)
  (E "NoLog")
  (K .none)
def q_need_chase (low : PyData) (high : PyData) (K : PyData → Prop) (E : Str → Prop) : Prop :=
  q_is_hour low fun i1 =>
  bT i1 fun b2 =>
  tOr (!b2) (fun k9 => q_is_hour high fun i3 =>
  bT i3 fun b4 =>
  tOr (!b4) (fun k7 => oGt low high fun t5 =>
  bT t5 fun b6 =>
  k7 b6) fun b8 =>
  k9 b8) fun b10 =>
  bIf b10
  (E "NoChase")
  (K .none)
def q_hours_of_both (one : PyData) (other : PyData) (low : PyData) (high : PyData) (K : PyData → Prop) : Prop :=
  oIx one (.int 0) fun t1 =>
  oIx t1 (.int 0) fun t2 =>
  oIx other (.int 0) fun t3 =>
  oIx t3 (.int 0) fun t4 =>
  nMax3 [t2, t4, low] fun begin5 =>
  oIx one (.int (-1)) fun t6 =>
  oIx t6 (.int 0) fun t7 =>
  oIx other (.int (-1)) fun t8 =>
  oIx t8 (.int 0) fun t9 =>
  nMin3 [t7, t9, high] fun end_10 =>
  oGt begin5 end_10 fun t11 =>
  bT t11 fun b12 =>
  bIf b12
  (K .none)
  (K (.tuple [begin5, end_10]))
def qb_marks_between_1 (d : PyData) (i : PyData × PyData × PyData × PyData) (s : Unit) (sk : (PyData × PyData × PyData × PyData) → Unit → Prop) (yd : PyData → (PyData × PyData × PyData × PyData) → Unit → Prop) : Prop :=
  oIx d (.int 0) fun t3 =>
  oLt i.2.2.1 t3 fun t4 =>
  bT t4 fun b5 =>
  vAnd b5 (fun k7 => oLt t3 i.2.2.2 fun t6 =>
  k7 t6) fun t8 =>
  bT t8 fun b9 =>
  bIf b9
  (oIx d (.int 0) fun t10 =>
  yd t10 (i.1, i.2.1, i.2.2.1, i.2.2.2) ())
  (sk (i.1, i.2.1, i.2.2.1, i.2.2.2) ())
def q_marks_between (one : PyData) (other : PyData) (begin : PyData) (end_ : PyData) (K : PyData → Prop) : Prop :=
  oAdd one other fun t1 =>
  itemsQ t1 fun l2 =>
  qLc qb_marks_between_1 (one, other, begin, end_) l2 [] () fun l11 s13 =>
  oAdd (.list [begin, end_]) (.list l11) fun t14 =>
  sortSetQ t14 fun l15 =>
  K (.list l15)
def qb_whole_place_1 (K : PyData → Prop) (d : PyData) (i : PyData × PyData) (s : Unit) (nx bk : (PyData × PyData) → Unit → Prop) : Prop :=
  tupQ d fun r3 =>
  consQ r3 fun one4 r5 =>
  consQ r5 fun other6 r7 =>
  nilQ r7 (oIx other6 (.int 0) fun t8 =>
  oLe i.2 t8 fun t9 =>
  bT t9 fun b10 =>
  bIf b10
  (oIx other6 (.int 0) fun t11 =>
  oIx one4 (.int 0) fun t12 =>
  oSub t11 t12 fun gap13 =>
  oIx one4 (.int 0) fun t14 =>
  oSub i.2 t14 fun gone15 =>
  oIx one4 (.int 1) fun t16 =>
  oMul t16 gap13 fun t17 =>
  oIx other6 (.int 1) fun t18 =>
  oIx one4 (.int 1) fun t19 =>
  oSub t18 t19 fun t20 =>
  oMul t20 gone15 fun t21 =>
  oAdd t17 t21 fun t22 =>
  oIx one4 (.int 2) fun t23 =>
  oMul t23 gap13 fun t24 =>
  oIx other6 (.int 2) fun t25 =>
  oIx one4 (.int 2) fun t26 =>
  oSub t25 t26 fun t27 =>
  oMul t27 gone15 fun t28 =>
  oAdd t24 t28 fun t29 =>
  K (.tuple [t22, t29, gap13]))
  (nx (i.1, i.2) ()))
def q_whole_place (log : PyData) (hour : PyData) (K : PyData → Prop) : Prop :=
  oSl log (some 1) none fun l1 =>
  zipQ [log, l1] fun l2 =>
  qFor (qb_whole_place_1 K) (log, hour) l2 () fun s31 =>
  oIx log (.int 0) fun t32 =>
  oIx t32 (.int 1) fun t33 =>
  oIx log (.int 0) fun t34 =>
  oIx t34 (.int 2) fun t35 =>
  K (.tuple [t33, t35, (.int 1)])
def q_apart_at (one : PyData) (other : PyData) (hour : PyData) (K : PyData → Prop) : Prop :=
  q_whole_place one hour fun w1 =>
  tupQ w1 fun r2 =>
  consQ r2 fun x3 r4 =>
  consQ r4 fun y5 r6 =>
  consQ r6 fun by_7 r8 =>
  nilQ r8 (q_whole_place other hour fun w9 =>
  tupQ w9 fun r10 =>
  consQ r10 fun u11 r12 =>
  consQ r12 fun v13 r14 =>
  consQ r14 fun times15 r16 =>
  nilQ r16 (oMul x3 times15 fun t17 =>
  oMul u11 by_7 fun t18 =>
  oSub t17 t18 fun t19 =>
  oMul y5 times15 fun t20 =>
  oMul v13 by_7 fun t21 =>
  oSub t20 t21 fun t22 =>
  oMul by_7 times15 fun t23 =>
  K (.tuple [t19, t22, t23])))
def q_least_between (one : PyData) (other : PyData) (begin : PyData) (end_ : PyData) (K : PyData → Prop) : Prop :=
  q_apart_at one other begin fun a1 =>
  tupQ a1 fun r2 =>
  consQ r2 fun x3 r4 =>
  consQ r4 fun y5 r6 =>
  consQ r6 fun by_7 r8 =>
  nilQ r8 (q_apart_at one other end_ fun a9 =>
  tupQ a9 fun r10 =>
  consQ r10 fun u11 r12 =>
  consQ r12 fun v13 r14 =>
  consQ r14 fun times15 r16 =>
  nilQ r16 (oMul x3 times15 fun t17 =>
  oMul y5 times15 fun t18 =>
  oMul u11 by_7 fun t19 =>
  oMul x3 times15 fun t20 =>
  oSub t19 t20 fun t21 =>
  oMul v13 by_7 fun t22 =>
  oMul y5 times15 fun t23 =>
  oSub t22 t23 fun t24 =>
  tupQ (.tuple [t17, t18, t21, t24]) fun r25 =>
  consQ r25 fun x26 r27 =>
  consQ r27 fun y28 r29 =>
  consQ r29 fun u30 r31 =>
  consQ r31 fun v32 r33 =>
  nilQ r33 (oMul by_7 by_7 fun t34 =>
  oMul t34 times15 fun t35 =>
  oMul t35 times15 fun bottom36 =>
  oMul x26 u30 fun t37 =>
  oMul y28 v32 fun t38 =>
  oAdd t37 t38 fun along39 =>
  oMul u30 u30 fun t40 =>
  oMul v32 v32 fun t41 =>
  oAdd t40 t41 fun swift42 =>
  oGe along39 (.int 0) fun t43 =>
  bT t43 fun b44 =>
  bIf b44
  (oMul x26 x26 fun t45 =>
  oMul y28 y28 fun t46 =>
  oAdd t45 t46 fun t47 =>
  q_lowest t47 bottom36 fun l48 =>
  K (.tuple [l48, (.tuple [begin, (.int 1)])]))
  (oAdd along39 swift42 fun t49 =>
  oLe t49 (.int 0) fun t50 =>
  bT t50 fun b51 =>
  bIf b51
  (oAdd x26 u30 fun t52 =>
  oAdd x26 u30 fun t53 =>
  oMul t52 t53 fun t54 =>
  oAdd y28 v32 fun t55 =>
  oAdd y28 v32 fun t56 =>
  oMul t55 t56 fun t57 =>
  oAdd t54 t57 fun t58 =>
  q_lowest t58 bottom36 fun l59 =>
  K (.tuple [l59, (.tuple [end_, (.int 1)])]))
  (oMul x26 v32 fun t60 =>
  oMul y28 u30 fun t61 =>
  oSub t60 t61 fun across62 =>
  oMul across62 across62 fun t63 =>
  oMul swift42 bottom36 fun t64 =>
  q_lowest t63 t64 fun l65 =>
  oMul begin swift42 fun t66 =>
  oSub end_ begin fun t67 =>
  oMul along39 t67 fun t68 =>
  oSub t66 t68 fun t69 =>
  q_lowest t69 swift42 fun l70 =>
  K (.tuple [l65, l70]))))))
def qb_nearest_of_1 (K : PyData → Prop) (d : PyData) (i : PyData × PyData) (s : PyData) (nx bk : (PyData × PyData) → PyData → Prop) : Prop :=
  tupQ d fun r12 =>
  consQ r12 fun begin13 r14 =>
  consQ r14 fun end_15 r16 =>
  nilQ r16 (q_least_between i.1 i.2 begin13 end_15 fun here17 =>
  oIx here17 (.int 0) fun t18 =>
  oIx t18 (.int 0) fun t19 =>
  oIx s (.int 0) fun t20 =>
  oIx t20 (.int 1) fun t21 =>
  oMul t19 t21 fun t22 =>
  oIx s (.int 0) fun t23 =>
  oIx t23 (.int 0) fun t24 =>
  oIx here17 (.int 0) fun t25 =>
  oIx t25 (.int 1) fun t26 =>
  oMul t24 t26 fun t27 =>
  oLt t22 t27 fun t28 =>
  bT t28 fun b29 =>
  bIf b29
  (nx (i.1, i.2) here17)
  (nx (i.1, i.2) s))
def q_nearest_of (one : PyData) (other : PyData) (low : PyData) (high : PyData) (K : PyData → Prop) : Prop :=
  q_hours_of_both one other low high fun hours1 =>
  oIsN hours1 fun t2 =>
  bT t2 fun b3 =>
  bIf b3
  (K .none)
  (oIx hours1 (.int 0) fun t4 =>
  oIx hours1 (.int 1) fun t5 =>
  q_marks_between one other t4 t5 fun marks6 =>
  oIx marks6 (.int 0) fun t7 =>
  oIx marks6 (.int 0) fun t8 =>
  q_least_between one other t7 t8 fun found9 =>
  oSl marks6 (some 1) none fun l10 =>
  zipQ [marks6, l10] fun l11 =>
  qFor (qb_nearest_of_1 K) (one, other) l11 found9 fun s31 =>
  K s31)
def q_need_both (one : PyData) (other : PyData) (low : PyData) (high : PyData) (K : PyData → Prop) (E : Str → Prop) : Prop :=
  q_need_log one (fun n1 =>
  q_need_log other (fun n2 =>
  q_need_chase low high (fun n3 =>
  K .none) E) E) E
def q_are_near_by (one : PyData) (other : PyData) (low : PyData) (high : PyData) (miles : PyData) (K : PyData → Prop) : Prop :=
  q_nearest_of one other low high fun found1 =>
  oNotN found1 fun t2 =>
  bT t2 fun b3 =>
  vAnd b3 (fun k11 => oIx found1 (.int 0) fun t4 =>
  oIx t4 (.int 0) fun t5 =>
  oMul miles miles fun t6 =>
  oIx found1 (.int 0) fun t7 =>
  oIx t7 (.int 1) fun t8 =>
  oMul t6 t8 fun t9 =>
  oLe t5 t9 fun t10 =>
  k11 t10) fun t12 =>
  K t12
def q_are_near (one : PyData) (other : PyData) (low : PyData) (high : PyData) (miles : PyData) (K : PyData → Prop) (E : Str → Prop) : Prop :=
  q_need_both one other low high (fun n1 =>
  q_is_whole miles fun i2 =>
  bT i2 fun b3 =>
  tOr (!b3) (fun k10 => oLe (.int 0) miles fun t4 =>
  bT t4 fun b5 =>
  vAnd b5 (fun k7 => oLe miles (.int (100000)) fun t6 =>
  k7 t6) fun t8 =>
  bT t8 fun b9 =>
  k10 (!b9)) fun b11 =>
  bIf b11
  (E "NoMiles")
  (q_are_near_by one other low high miles fun a12 =>
  K a12)) E
def q_is_number (thing : PyData) (many : PyData) (K : PyData → Prop) : Prop :=
  q_is_whole thing fun i1 =>
  bT i1 fun b2 =>
  vAnd b2 (fun k8 => oLe (.int 0) thing fun t3 =>
  bT t3 fun b4 =>
  vAnd b4 (fun k6 => oLt thing many fun t5 =>
  k6 t5) fun t7 =>
  k8 t7) fun t9 =>
  K t9
def qb_are_logbooks_1 (d : PyData) (i : PyData) (s : Unit) (sk : PyData → Unit → Prop) (yd : PyData → PyData → Unit → Prop) : Prop :=
  q_is_log d fun i11 =>
  yd i11 i ()
def q_are_logbooks (thing : PyData) (K : PyData → Prop) : Prop :=
  tOr (!(isiB thing "tuple")) (fun k8 => nLen [thing] fun t1 =>
  oLe (.int 1) t1 fun t2 =>
  bT t2 fun b3 =>
  vAnd b3 (fun k5 => oLe t1 (.int (4)) fun t4 =>
  k5 t4) fun t6 =>
  bT t6 fun b7 =>
  k8 (!b7)) fun b9 =>
  bIf b9
  (K (.bool false))
  (itemsQ thing fun l10 =>
  qLc qb_are_logbooks_1 thing l10 [] () fun l12 s14 =>
  nAll [(.list l12)] fun t15 =>
  K t15)
def q_need_logbooks (thing : PyData) (K : PyData → Prop) (E : Str → Prop) : Prop :=
  q_are_logbooks thing fun a1 =>
  bT a1 fun b2 =>
  bIf (!b2)
  (E "NoLogs")
  (K .none)
def qb_sight_table_2 (E : Str → Prop) (d : PyData) (i : PyData × PyData × PyData × PyData × List PyData × PyData) (s : Unit) (sk : (PyData × PyData × PyData × PyData × List PyData × PyData) → Unit → Prop) (yd : PyData → (PyData × PyData × PyData × PyData × List PyData × PyData) → Unit → Prop) : Prop :=
  q_are_near i.2.2.2.2.2 d i.2.1 i.2.2.1 i.2.2.2.1 (fun a5 =>
  yd a5 (i.1, i.2.1, i.2.2.1, i.2.2.2.1, i.2.2.2.2.1, i.2.2.2.2.2) ()) E
def qb_sight_table_1 (E : Str → Prop) (K : PyData → Prop) (d : PyData) (i : PyData × PyData × PyData × PyData) (s : List PyData) (nx bk : (PyData × PyData × PyData × PyData) → (List PyData) → Prop) : Prop :=
  itemsQ i.1 fun l4 =>
  qLc (qb_sight_table_2 E) (i.1, i.2.1, i.2.2.1, i.2.2.2, s, d) l4 [] () fun l6 s8 =>
  nTuple [(.list l6)] fun t9 =>
  apQ s t9 fun found10 =>
  nx (i.1, i.2.1, i.2.2.1, i.2.2.2) found10
def q_sight_table (ours : PyData) (theirs : PyData) (low : PyData) (high : PyData) (miles : PyData) (K : PyData → Prop) (E : Str → Prop) : Prop :=
  q_need_logbooks ours (fun n1 =>
  q_need_logbooks theirs (fun n2 =>
  itemsQ ours fun l3 =>
  qFor (qb_sight_table_1 E K) (theirs, low, high, miles) l3 [] fun s12 =>
  K (.tuple s12)) E) E
def qb_is_row_1 (d : PyData) (i : PyData) (s : Unit) (sk : PyData → Unit → Prop) (yd : PyData → PyData → Unit → Prop) : Prop :=
  yd (.bool (isiB d "bool")) i ()
def q_is_row (thing : PyData) (K : PyData → Prop) : Prop :=
  tOr (!(isiB thing "tuple")) (fun k8 => nLen [thing] fun t1 =>
  oLe (.int 1) t1 fun t2 =>
  bT t2 fun b3 =>
  vAnd b3 (fun k5 => oLe t1 (.int (4)) fun t4 =>
  k5 t4) fun t6 =>
  bT t6 fun b7 =>
  k8 (!b7)) fun b9 =>
  bIf b9
  (K (.bool false))
  (itemsQ thing fun l10 =>
  qLc qb_is_row_1 thing l10 [] () fun l11 s13 =>
  nAll [(.list l11)] fun t14 =>
  K t14)
def qb_is_table_1 (d : PyData) (i : PyData) (s : Unit) (sk : PyData → Unit → Prop) (yd : PyData → PyData → Unit → Prop) : Prop :=
  q_is_row d fun i9 =>
  yd i9 i ()
def qb_is_table_2 (d : PyData) (i : PyData) (s : Unit) (sk : PyData → Unit → Prop) (yd : PyData → PyData → Unit → Prop) : Prop :=
  nLen [d] fun t20 =>
  oIx i (.int 0) fun t21 =>
  nLen [t21] fun t22 =>
  oEq t20 t22 fun t23 =>
  yd t23 i ()
def q_is_table (thing : PyData) (K : PyData → Prop) : Prop :=
  tOr (!(isiB thing "tuple")) (fun k17 => nLen [thing] fun t1 =>
  oLe (.int 1) t1 fun t2 =>
  bT t2 fun b3 =>
  vAnd b3 (fun k5 => oLe t1 (.int (4)) fun t4 =>
  k5 t4) fun t6 =>
  bT t6 fun b7 =>
  tOr (!b7) (fun k15 => itemsQ thing fun l8 =>
  qLc qb_is_table_1 thing l8 [] () fun l10 s12 =>
  nAll [(.list l10)] fun t13 =>
  bT t13 fun b14 =>
  k15 (!b14)) fun b16 =>
  k17 b16) fun b18 =>
  bIf b18
  (K (.bool false))
  (itemsQ thing fun l19 =>
  qLc qb_is_table_2 thing l19 [] () fun l24 s26 =>
  nAll [(.list l24)] fun t27 =>
  K t27)
def q_need_table (thing : PyData) (K : PyData → Prop) (E : Str → Prop) : Prop :=
  q_is_table thing fun i1 =>
  bT i1 fun b2 =>
  bIf (!b2)
  (E "NoTable")
  (K .none)
def qb_least_place_2 (K : PyData → Prop) (d : PyData) (i : PyData × PyData) (s : Unit) (nx bk : (PyData × PyData) → Unit → Prop) : Prop :=
  tupQ d fun r8 =>
  consQ r8 fun column9 r10 =>
  consQ r10 fun truth11 r12 =>
  nilQ r12 (oEq truth11 i.1 fun t13 =>
  bT t13 fun b14 =>
  bIf b14
  (K (.tuple [i.2, column9]))
  (nx (i.1, i.2) ()))
def qb_least_place_1 (K : PyData → Prop) (d : PyData) (i : PyData) (s : Unit) (nx bk : PyData → Unit → Prop) : Prop :=
  tupQ d fun r2 =>
  consQ r2 fun row3 r4 =>
  consQ r4 fun truths5 r6 =>
  nilQ r6 (enumQ [truths5] fun l7 =>
  qFor (qb_least_place_2 K) (i, row3) l7 () fun s16 =>
  nx i ())
def q_least_place (table : PyData) (wished : PyData) (K : PyData → Prop) : Prop :=
  enumQ [table] fun l1 =>
  qFor (qb_least_place_1 K) wished l1 () fun s18 =>
  K .none
def q_word_of (table : PyData) (K : PyData → Prop) (E : Str → Prop) : Prop :=
  q_need_table table (fun n1 =>
  q_least_place table (.bool false) fun l2 =>
  oIsN l2 fun t3 =>
  bT t3 fun b4 =>
  bIf b4
  (K (.str "in"))
  (q_least_place table (.bool true) fun l5 =>
  oIsN l5 fun t6 =>
  bT t6 fun b7 =>
  vIf b7 (fun k9 => k9 (.str "out")) (fun k9 => k9 (.str "open")) fun t8 =>
  K t8)) E
def q_open_by (table : PyData) (K : PyData → Prop) (E : Str → Prop) : Prop :=
  q_word_of table (fun w1 =>
  oNe w1 (.str "open") fun t2 =>
  bT t2 fun b3 =>
  bIf b3
  (K .none)
  (q_least_place table (.bool true) fun l4 =>
  q_least_place table (.bool false) fun l5 =>
  K (.tuple [l4, l5]))) E
def q_has_at (table : PyData) (place : PyData) (wished : PyData) (K : PyData → Prop) : Prop :=
  tOr (!(isiB place "tuple")) (fun k4 => nLen [place] fun t1 =>
  oNe t1 (.int 2) fun t2 =>
  bT t2 fun b3 =>
  k4 b3) fun b5 =>
  bIf b5
  (K (.bool false))
  (oIx place (.int 0) fun t6 =>
  nLen [table] fun t7 =>
  q_is_number t6 t7 fun i8 =>
  bT i8 fun b9 =>
  tOr (!b9) (fun k15 => oIx place (.int 1) fun t10 =>
  oIx table (.int 0) fun t11 =>
  nLen [t11] fun t12 =>
  q_is_number t10 t12 fun i13 =>
  bT i13 fun b14 =>
  k15 (!b14)) fun b16 =>
  bIf b16
  (K (.bool false))
  (oIx place (.int 0) fun t17 =>
  oIx table t17 fun t18 =>
  oIx place (.int 1) fun t19 =>
  oIx t18 t19 fun t20 =>
  oEq t20 wished fun t21 =>
  K t21))
def q_shows_open (table : PyData) (thing : PyData) (K : PyData → Prop) (E : Str → Prop) : Prop :=
  q_need_table table (fun n1 =>
  tOr (!(isiB thing "tuple")) (fun k5 => nLen [thing] fun t2 =>
  oNe t2 (.int 2) fun t3 =>
  bT t3 fun b4 =>
  k5 b4) fun b6 =>
  bIf b6
  (K (.bool false))
  (oIx thing (.int 0) fun t7 =>
  q_has_at table t7 (.bool true) fun h8 =>
  bT h8 fun b9 =>
  vAnd b9 (fun k12 => oIx thing (.int 1) fun t10 =>
  q_has_at table t10 (.bool false) fun h11 =>
  k12 h11) fun t13 =>
  K t13)) E
def q_law_pot (script : PyData) (k : PyData) (K : List PyData → Prop) : Prop :=
  nLen [script] fun t1 =>
  oLt k t1 fun t2 =>
  bT t2 fun b3 =>
  jn (fun J10 => bIf b3
  (oIx script k fun t4 =>
  nAbs [t4] fun t5 =>
  oPow (.int 10) (.int 60) fun t6 =>
  oPow t6 (.int 10) fun t7 =>
  oMod t5 t7 fun cell8 =>
  J10 cell8)
  (J10 (.int 0))) fun cell9 =>
  oPow (.int 10) (.int 18) fun t11 =>
  oGe cell9 t11 fun t12 =>
  nInt [t12] fun t13 =>
  oMul cell9 t13 fun t14 =>
  oMod cell9 (.int 2147483629) fun t15 =>
  oMul (.int 7919) k fun t16 =>
  oAdd t15 t16 fun t17 =>
  oAdd t17 (.int 1) fun t18 =>
  oPow t18 (.int 5) fun t19 =>
  oMod t19 (.int 2147483647) fun t20 =>
  K [t14, t20, (.int 0)]
def q_law_take (pot_here : List PyData) (many : PyData) (K : PyData → List PyData → Prop) : Prop :=
  ixQ pot_here (.int 0) fun t1 =>
  oGt t1 (.int 0) fun t2 =>
  bT t2 fun b3 =>
  bIf b3
  (ixQ pot_here (.int 0) fun t4 =>
  oMod t4 many fun found5 =>
  ixQ pot_here (.int 0) fun t6 =>
  oDiv t6 many fun t7 =>
  stQ pot_here (.int 0) t7 fun pot_here8 =>
  K found5 pot_here8)
  (ixQ pot_here (.int 2) fun t9 =>
  oAdd t9 (.int 1) fun t10 =>
  stQ pot_here (.int 2) t10 fun pot_here11 =>
  ixQ pot_here11 (.int 1) fun t12 =>
  ixQ pot_here11 (.int 2) fun t13 =>
  oMul (.int 104729) t13 fun t14 =>
  oAdd t12 t14 fun t15 =>
  oPow t15 (.int 3) fun t16 =>
  oMod t16 (.int 2147483587) fun one17 =>
  ixQ pot_here11 (.int 1) fun t18 =>
  oMod t18 (.int 65537) fun t19 =>
  oAdd one17 t19 fun t20 =>
  ixQ pot_here11 (.int 2) fun t21 =>
  oMul (.int 31) t21 fun t22 =>
  oAdd t20 t22 fun t23 =>
  oPow t23 (.int 5) fun t24 =>
  oMod t24 (.int 2147483579) fun other25 =>
  oMul other25 (.int 48271) fun t26 =>
  oMod t26 (.int 2147483563) fun t27 =>
  oDiv t27 (.int 32) fun t28 =>
  oMod t28 many fun t29 =>
  K t29 pot_here11)
def qb_law_log_1 (K : PyData → List PyData → Prop) (d : PyData) (i : PyData × PyData) (s : List PyData × PyData × List PyData) (nx bk : (PyData × PyData) → (List PyData × PyData × List PyData) → Prop) : Prop :=
  oLe s.2.1 (.int 100000) fun t21 =>
  bT t21 fun b22 =>
  jn (fun J36 => bIf b22
  (oMul (.int 2) i.2 fun t23 =>
  oAdd t23 (.int 1) fun t24 =>
  q_law_take s.1 t24 fun t25 pot_here26 =>
  oSub t25 i.2 fun x27 =>
  oMul (.int 2) i.2 fun t28 =>
  oAdd t28 (.int 1) fun t29 =>
  q_law_take pot_here26 t29 fun t30 pot_here31 =>
  oSub t30 i.2 fun t32 =>
  apQ s.2.2 (.tuple [s.2.1, x27, t32]) fun found33 =>
  J36 pot_here31 found33)
  (J36 s.1 s.2.2)) fun pot_here34 found35 =>
  oAdd s.2.1 (.int 1) fun t37 =>
  q_law_take pot_here34 i.1 fun t38 pot_here39 =>
  oAdd t37 t38 fun hour40 =>
  nx (i.1, i.2) (pot_here39, hour40, found35)
def q_law_log (pot_here : List PyData) (step : PyData) (far : PyData) (K : PyData → List PyData → Prop) : Prop :=
  q_law_take pot_here (.int 6) fun t1 pot_here2 =>
  q_law_take pot_here2 (.int 100001) fun t3 pot_here4 =>
  q_law_take pot_here4 (.int 4) fun t5 pot_here6 =>
  oGt far (.int 50) fun t7 =>
  nInt [t7] fun t8 =>
  oMul t5 t8 fun t9 =>
  oIx (.list [t1, (.int 0), t3, (.int 100000)]) t9 fun hour10 =>
  q_law_take pot_here6 (.int 3) fun t11 pot_here12 =>
  oAdd (.int 1) t11 fun t13 =>
  q_law_take pot_here12 (.int 20) fun t14 pot_here15 =>
  oAdd (.int 1) t14 fun t16 =>
  q_law_take pot_here15 (.int 2) fun t17 pot_here18 =>
  oIx (.list [t13, t16]) t17 fun t19 =>
  rng1 [t19] fun l20 =>
  qFor (qb_law_log_1 K) (step, far) l20 (pot_here18, hour10, []) fun s42 =>
  K (.tuple s42.2.2) s42.1
def qb_law_books_2 (d : PyData) (i : List PyData × PyData × PyData × List PyData × PyData × PyData) (s : Unit) (sk : (List PyData × PyData × PyData × List PyData × PyData × PyData) → Unit → Prop) (yd : PyData → (List PyData × PyData × PyData × List PyData × PyData × PyData) → Unit → Prop) : Prop :=
  tupQ d fun r =>
  consQ r fun hour' r1 =>
  consQ r1 fun x' r2 =>
  consQ r2 fun y' r3 =>
  nilQ r3 (oNeg i.2.2.1 fun t46 =>
  oAdd x' i.2.2.2.2.2 fun t47 =>
  nMin2 [i.2.2.1, t47] fun t48 =>
  nMax2 [t46, t48] fun t49 =>
  yd (.tuple [hour', t49, y']) (i.1, i.2.1, i.2.2.1, i.2.2.2.1, i.2.2.2.2.1, i.2.2.2.2.2) ())
def qb_law_books_1 (K : PyData → List PyData → Prop) (d : PyData) (i : PyData × PyData) (s : List PyData × List PyData) (nx bk : (PyData × PyData) → (List PyData × List PyData) → Prop) : Prop :=
  q_law_take s.1 (.int 5) fun way5 pot_here6 =>
  q_law_log pot_here6 i.1 i.2 fun log_here7 pot_here8 =>
  tAnd (List.isEmpty s.2 != true) (fun k11 => oGt way5 (.int 1) fun t9 =>
  bT t9 fun b10 =>
  k11 b10) fun b12 =>
  jn (fun J56 => bIf b12
  (q_law_take pot_here8 (.int ((List.length s.2 : Nat) : Int)) fun t13 pot_here14 =>
  ixQ s.2 t13 fun log_here15 =>
  nLen [log_here15] fun t16 =>
  q_law_take pot_here14 t16 fun t17 pot_here18 =>
  q_law_take pot_here18 (.int 7) fun t19 pot_here20 =>
  oSub t19 (.int 3) fun t21 =>
  tupQ (.tuple [t17, t21]) fun r22 =>
  consQ r22 fun at_23 r24 =>
  consQ r24 fun by_25 r26 =>
  nilQ r26 (oEq way5 (.int 3) fun t27 =>
  bT t27 fun b28 =>
  jn (fun J42 => bIf b28
  (nList [log_here15] fun l29 =>
  oIx log_here15 at_23 fun t30 =>
  oIx t30 (.int 0) fun t31 =>
  oNeg i.2 fun t32 =>
  oIx log_here15 at_23 fun t33 =>
  oIx t33 (.int 1) fun t34 =>
  oAdd t34 by_25 fun t35 =>
  nMin2 [i.2, t35] fun t36 =>
  nMax2 [t32, t36] fun t37 =>
  oIx log_here15 at_23 fun t38 =>
  oIx t38 (.int 2) fun t39 =>
  stQ l29 at_23 (.tuple [t31, t37, t39]) fun rows40 =>
  J42 (.tuple rows40))
  (J42 log_here15)) fun log_here41 =>
  oEq way5 (.int 4) fun t43 =>
  bT t43 fun b44 =>
  bIf b44
  (itemsQ log_here41 fun l45 =>
  qLc qb_law_books_2 (pot_here20, i.1, i.2, s.2, log_here41, by_25) l45 [] () fun l50 s52 =>
  nTuple [(.list l50)] fun log_here53 =>
  J56 pot_here20 log_here53)
  (J56 pot_here20 log_here41)))
  (J56 pot_here8 log_here7)) fun pot_here54 log_here55 =>
  apQ s.2 log_here55 fun found57 =>
  nx (i.1, i.2) (pot_here54, found57)
def q_law_books (pot_here : List PyData) (step : PyData) (far : PyData) (K : PyData → List PyData → Prop) : Prop :=
  q_law_take pot_here (.int 4) fun t1 pot_here2 =>
  oAdd (.int 1) t1 fun t3 =>
  rng1 [t3] fun l4 =>
  qFor (qb_law_books_1 K) (step, far) l4 (pot_here2, []) fun s59 =>
  K (.tuple s59.2) s59.1
def q_law_asked_for (pot_here : List PyData) (way : PyData) (K : PyData → List PyData → Prop) : Prop :=
  oIx (.list [(.tuple [(.int 2), (.int 5)]), (.tuple [(.int 4), (.int 12)]), (.tuple [(.int 5000), (.int 10000)]), (.tuple [(.int 30), (.int 60)])]) way fun t1 =>
  tupQ t1 fun r2 =>
  consQ r2 fun step3 r4 =>
  consQ r4 fun far5 r6 =>
  nilQ r6 (q_law_take pot_here (.int 8) fun t7 pot_here8 =>
  q_law_take pot_here8 (.int 8) fun t9 pot_here10 =>
  q_law_take pot_here10 (.int 100001) fun t11 pot_here12 =>
  q_law_take pot_here12 (.int 40) fun t13 pot_here14 =>
  oIx (.list [t7, t9, t11, t13]) way fun low15 =>
  q_law_take pot_here14 (.int 12) fun t16 pot_here17 =>
  q_law_take pot_here17 (.int 50000) fun t18 pot_here19 =>
  q_law_take pot_here19 (.int 4) fun t20 pot_here21 =>
  oIx (.list [(.int 0), t16, (.int 100000), t18]) t20 fun t22 =>
  oAdd low15 t22 fun t23 =>
  nMin2 [(.int 100000), t23] fun high24 =>
  q_law_take pot_here21 (.int 5) fun t25 pot_here26 =>
  oAdd far5 (.int 1) fun t27 =>
  q_law_take pot_here26 t27 fun t28 pot_here29 =>
  oMul (.int 3) far5 fun t30 =>
  q_law_take pot_here29 t30 fun t31 pot_here32 =>
  q_law_take pot_here32 (.int 5) fun t33 pot_here34 =>
  oIx (.list [(.int 0), t25, t28, t31, (.int 100000)]) t33 fun miles35 =>
  K (.tuple [step3, far5, low15, high24, miles35]) pot_here34)
def qb_law_table_2 (d : PyData) (i : PyData × PyData × PyData × PyData × PyData) (s : List PyData) (sk : (PyData × PyData × PyData × PyData × PyData) → (List PyData) → Prop) (yd : PyData → (PyData × PyData × PyData × PyData × PyData) → (List PyData) → Prop) : Prop :=
  q_law_take s (.int 2) fun t11 pot_here12 =>
  oEq t11 (.int 0) fun t13 =>
  yd t13 (i.1, i.2.1, i.2.2.1, i.2.2.2.1, i.2.2.2.2) pot_here12
def qb_law_table_1 (d : PyData) (i : PyData × PyData × PyData × PyData) (s : List PyData) (sk : (PyData × PyData × PyData × PyData) → (List PyData) → Prop) (yd : PyData → (PyData × PyData × PyData × PyData) → (List PyData) → Prop) : Prop :=
  rng1 [i.2.1] fun l10 =>
  qLc qb_law_table_2 (i.1, i.2.1, i.2.2.1, i.2.2.2, d) l10 [] s fun l14 s16 =>
  yd (rowD l14) (i.1, i.2.1, i.2.2.1, i.2.2.2) s16
def qb_law_table_4 (d : PyData) (i : List PyData × PyData × PyData × PyData × PyData × PyData) (s : Unit) (sk : (List PyData × PyData × PyData × PyData × PyData × PyData) → Unit → Prop) (yd : PyData → (List PyData × PyData × PyData × PyData × PyData × PyData) → Unit → Prop) : Prop :=
  yd i.2.2.2.2.1 (i.1, i.2.1, i.2.2.1, i.2.2.2.1, i.2.2.2.2.1, i.2.2.2.2.2) ()
def qb_law_table_3 (d : PyData) (i : List PyData × PyData × PyData × PyData × PyData) (s : Unit) (sk : (List PyData × PyData × PyData × PyData × PyData) → Unit → Prop) (yd : PyData → (List PyData × PyData × PyData × PyData × PyData) → Unit → Prop) : Prop :=
  rng1 [i.2.2.1] fun l23 =>
  qLc qb_law_table_4 (i.1, i.2.1, i.2.2.1, i.2.2.2.1, i.2.2.2.2, d) l23 [] () fun l24 s26 =>
  yd (rowD l24) (i.1, i.2.1, i.2.2.1, i.2.2.2.1, i.2.2.2.2) ()
def qb_law_table_5 (d : PyData) (i : List PyData × PyData × List PyData) (s : Unit) (sk : (List PyData × PyData × List PyData) → Unit → Prop) (yd : PyData → (List PyData × PyData × List PyData) → Unit → Prop) : Prop :=
  ixQ i.2.2 (.int 0) fun t57 =>
  yd t57 (i.1, i.2.1, i.2.2) ()
def qb_law_table_6 (d : PyData) (i : List PyData × PyData) (s : Unit) (sk : (List PyData × PyData) → Unit → Prop) (yd : PyData → (List PyData × PyData) → Unit → Prop) : Prop :=
  nTuple [d] fun t64 =>
  yd t64 (i.1, i.2) ()
def q_law_table (pot_here : List PyData) (rows : PyData) (K : PyData → List PyData → Prop) : Prop :=
  bIf (atoms [.cel true pot_here, .dat rows])
  (q_law_take pot_here (.int 4) fun t1 pot_here2 =>
  oAdd (.int 1) t1 fun many3 =>
  q_law_take pot_here2 (.int 6) fun way4 pot_here5 =>
  q_law_take pot_here5 (.int 2) fun t6 pot_here7 =>
  oEq t6 (.int 0) fun t8 =>
  rng1 [rows] fun l9 =>
  qLc qb_law_table_1 (rows, many3, way4, t8) l9 [] pot_here7 fun l17 s19 =>
  oGt way4 (.int 2) fun t20 =>
  bT t20 fun b21 =>
  jn (fun J31 => bIf b21
  (rng1 [rows] fun l22 =>
  qLc qb_law_table_3 (s19, rows, many3, way4, t8) l22 [] () fun l27 s29 =>
  J31 l27)
  (J31 l17)) fun found30 =>
  oEq way4 (.int 4) fun t32 =>
  bT t32 fun b33 =>
  jn (fun J43 => bIf b33
  (bT t8 fun b34 =>
  q_law_take s19 rows fun t35 pot_here36 =>
  ixQ found30 t35 fun row37 =>
  q_law_take pot_here36 many3 fun t38 pot_here39 =>
  bIf (lfX [.cel true pot_here39, .dat rows, .dat many3, .dat way4, .dat t8, .cel false found30, .un, .un] 5)
  (neQ found30 row37 t38 (.bool (!b34)) fun found40 =>
  J43 pot_here39 found40)
  False)
  (J43 s19 found30)) fun pot_here41 found42 =>
  oEq way4 (.int 5) fun t44 =>
  bT t44 fun b45 =>
  jn (fun J53 => bIf b45
  (bT t8 fun b46 =>
  repQ (.bool (!b46)) many3 fun l47 =>
  q_law_take pot_here41 rows fun t48 pot_here49 =>
  stQ found42 t48 (.list l47) fun found50 =>
  J53 pot_here49 found50)
  (J53 pot_here41 found42)) fun pot_here51 found52 =>
  oEq way4 (.int 2) fun t54 =>
  bT t54 fun b55 =>
  jn (fun J62 => bIf b55
  (rng1 [rows] fun l56 =>
  qLc qb_law_table_5 (pot_here51, rows, found52) l56 [] () fun l58 s60 =>
  J62 l58)
  (J62 found52)) fun found61 =>
  itemsQ (.list found61) fun l63 =>
  qLc qb_law_table_6 (pot_here51, (.list found61)) l63 [] () fun l65 s67 =>
  nTuple [(.list l65)] fun t68 =>
  K t68 pot_here51)
  False
def q_law_sort (caught : PyData) (K : PyData → Prop) : Prop :=
  isxQ caught ["NoLogs"] fun b1 =>
  isxQ caught ["NoChase"] fun b2 =>
  isxQ caught ["NoMiles"] fun b3 =>
  isxQ caught ["NoTable"] fun b4 =>
  isxQ caught ["NoSights"] fun b5 =>
  isxQ caught ["NoSet"] fun b6 =>
  catN (.list [(.bool b1), (.bool b2), (.bool b3)]) (.list [(.bool b4), (.bool b5), (.bool b6)]) fun l7 =>
  isxQ caught ["NoNumber"] fun b8 =>
  apQ l7 (.bool b8) fun kinds9 =>
  isxQ caught ["NoWeights", "NoPart", "NoLog", "NoRoll", "NoName", "NoHour", "NoScheme", "NoCrew", "NoMan", "NoSale"] fun b10 =>
  bIf b10
  (K (.str "odd"))
  (isxQ caught ["NoCrews", "NoPages", "NoPage", "NoPrize", "NoBalances", "NoMoney", "NoChange", "NoText", "NoRow"] fun b11 =>
  bIf b11
  (K (.str "odd"))
  (lstQ (.list kinds9) fun l12 =>
  cntQ l12 (.bool true) fun t13 =>
  oNe t13 (.int 1) fun t14 =>
  bT t14 fun b15 =>
  tOr b15 (fun k20 => isxQ caught ["TooMany"] fun b16 =>
  tOr b16 (fun k18 => isvQ caught fun b17 =>
  k18 (!b17)) fun b19 =>
  k20 b19) fun b21 =>
  bIf b21
  (K (.str "odd"))
  (lstQ (.list kinds9) fun l22 =>
  idxQ l22 (.bool true) fun t23 =>
  oIx (.list [(.str "logs"), (.str "chase"), (.str "miles"), (.str "table"), (.str "sights"), (.str "set"), (.str "number")]) t23 fun t24 =>
  K t24)))
def qb_law_no_books_1 (d : PyData) (i : List PyData × PyData × PyData) (s : Unit) (sk : (List PyData × PyData × PyData) → Unit → Prop) (yd : PyData → (List PyData × PyData × PyData) → Unit → Prop) : Prop :=
  yd (.tuple [d, (.int 0), (.int 0)]) (i.1, i.2.1, i.2.2) ()
def q_law_no_books (pot_here : List PyData) (books_here : PyData) (K : PyData → List PyData → Prop) : Prop :=
  nLen [books_here] fun t1 =>
  q_law_take pot_here t1 fun t2 pot_here3 =>
  oIx books_here t2 fun log_here4 =>
  nLen [log_here4] fun t5 =>
  q_law_take pot_here3 t5 fun at_6 pot_here7 =>
  oIx log_here4 at_6 fun t8 =>
  tupQ t8 fun r9 =>
  consQ r9 fun hour10 r11 =>
  consQ r11 fun x12 r13 =>
  consQ r13 fun y14 r15 =>
  nilQ r15 (oAdd (.list [(.tuple [hour10, x12]), (.tuple [hour10, x12, y14, (.int 0)]), (.list [hour10, x12, y14]), (.tuple [hour10, x12, .none]), (.tuple [hour10, (.int 10001), y14]), (.tuple [(.bool true), x12, y14]), (.tuple [hour10, x12, (.bool true)])]) (.list [(.tuple [(.int 100001), x12, y14]), (.tuple [(.int (-1)), x12, y14]), (.tuple [(.str "0"), x12, y14]), (.tuple [hour10, x12, (.tuple [y14, (.int 1)])]), .none]) fun odd16 =>
  soQ at_6 fun o17 =>
  oSl log_here4 none o17 fun l18 =>
  q_law_take pot_here7 (.int 12) fun t19 pot_here20 =>
  oIx odd16 t19 fun t21 =>
  oAdd l18 (.tuple [t21]) fun t22 =>
  oAdd at_6 (.int 1) fun t23 =>
  soQ t23 fun o24 =>
  oSl log_here4 o24 none fun l25 =>
  oAdd t22 l25 fun spoilt26 =>
  oSl books_here none (some 3) fun l27 =>
  oAdd l27 (.tuple [spoilt26]) fun t28 =>
  nList [books_here] fun l29 =>
  nList [log_here4] fun l30 =>
  oMul (.tuple [log_here4]) (.int 5) fun t31 =>
  oSl log_here4 (some (-1)) none fun l32 =>
  oAdd log_here4 l32 fun t33 =>
  oIx log_here4 (.int (-1)) fun t34 =>
  oAdd (.tuple [t34]) log_here4 fun t35 =>
  rng1 [(.int 21)] fun l36 =>
  qLc qb_law_no_books_1 (pot_here20, log_here4, (.list [(.tuple [spoilt26]), t28, (.tuple []), (.list l29), .none, (.int 0), (.tuple [log_here4, (.tuple [])]), (.tuple [(.list l30)]), t31, log_here4])) l36 [] () fun l37 s39 =>
  nTuple [(.list l37)] fun t40 =>
  oAdd (.list [(.tuple [spoilt26]), t28, (.tuple []), (.list l29), .none, (.int 0), (.tuple [log_here4, (.tuple [])]), (.tuple [(.list l30)]), t31, log_here4]) (.list [(.tuple [t33]), (.tuple [t35]), (.tuple [t40]), (.dict []), (.str "log"), (.bool true)]) fun some_41 =>
  q_law_take pot_here20 (.int 16) fun t42 pot_here43 =>
  oIx some_41 t42 fun t44 =>
  K t44 pot_here43)
def q_law_no_chase (pot_here : List PyData) (low : PyData) (high : PyData) (K : PyData → List PyData → Prop) : Prop :=
  oAdd high (.int 1) fun t1 =>
  oPow (.int 10) (.int 39) fun t2 =>
  oPow (.int 10) (.int 39) fun t3 =>
  oAdd (.list [(.tuple [t1, high]), (.tuple [(.int (-1)), high]), (.tuple [low, (.int 100001)]), (.tuple [(.bool true), high]), (.tuple [low, .none]), (.tuple [(.str "0"), high]), (.tuple [low, (.list [high])])]) (.list [(.tuple [low, (.tuple [high, (.int 1)])]), (.tuple [.none, .none]), (.tuple [low, (.bool true)]), (.tuple [t2, t3]), (.tuple [(.tuple [low, (.int 1)]), high]), (.tuple [(.int (-5)), (.int (-1))])]) fun some_4 =>
  q_law_take pot_here (.int 13) fun t5 pot_here6 =>
  oIx some_4 t5 fun t7 =>
  K t7 pot_here6
def q_law_no_miles (pot_here : List PyData) (K : PyData → List PyData → Prop) : Prop :=
  oPow (.int 10) (.int 39) fun t1 =>
  q_law_take pot_here (.int 12) fun t2 pot_here3 =>
  oIx (.list [(.int (-1)), (.int 100001), (.bool true), (.bool false), .none, (.str "5"), (.tuple [(.int 5)]), (.list [(.int 5)]), t1, (.dict []), (.tuple [(.int 5), (.int 1)]), (.str "")]) t2 fun t4 =>
  K t4 pot_here3
def q_law_no_table (pot_here : List PyData) (table_here : PyData) (K : PyData → List PyData → Prop) : Prop :=
  nLen [table_here] fun t1 =>
  q_law_take pot_here t1 fun t2 pot_here3 =>
  oIx table_here t2 fun row4 =>
  nList [table_here] fun l5 =>
  oAdd row4 (.tuple [(.bool true)]) fun t6 =>
  oAdd table_here (.tuple [t6]) fun t7 =>
  oSl row4 none (some (-1)) fun l8 =>
  oMul (.tuple [row4]) (.int 5) fun t9 =>
  oMul (.tuple [(.bool true)]) (.int 5) fun t10 =>
  nList [row4] fun l11 =>
  oAdd table_here (.tuple [.none]) fun t12 =>
  oAdd (.list [(.tuple []), (.tuple [(.tuple [])]), (.list l5), .none, (.int 0), (.bool true), (.str "in"), t7, (.tuple [row4, l8]), t9, row4]) (.list [(.tuple [t10]), (.tuple [(.tuple [(.int 1)])]), (.tuple [(.list l11)]), (.tuple [(.tuple [(.bool true), .none])]), t12, (.tuple [(.tuple [(.bool true)]), (.tuple [])]), (.dict [])]) fun some_13 =>
  q_law_take pot_here3 (.int 18) fun t14 pot_here15 =>
  oIx some_13 t14 fun t16 =>
  K t16 pot_here15
def q_law_asked (door : PyData) (handed : PyData) (K : PyData → Prop) : Prop :=
  jn (fun J29 => oEq door (.int 0) fun t1 =>
  bT t1 fun b2 =>
  jn (fun J10 => bIf b2
  (oIx handed (.int 0) fun t3 =>
  oIx handed (.int 1) fun t4 =>
  oIx handed (.int 2) fun t5 =>
  oIx handed (.int 3) fun t6 =>
  oIx handed (.int 4) fun t7 =>
  q_sight_table t3 t4 t5 t6 t7 (fun s8 =>
  J10) (fun c => q_law_sort (exD c) fun s9 =>
  K s9))
  (J10)) (oEq door (.int 1) fun t11 =>
  bT t11 fun b12 =>
  jn (fun J16 => bIf b12
  (oIx handed (.int 0) fun t13 =>
  q_word_of t13 (fun w14 =>
  J16) (fun c => q_law_sort (exD c) fun s15 =>
  K s15))
  (J16)) (oEq door (.int 2) fun t17 =>
  bT t17 fun b18 =>
  jn (fun J22 => bIf b18
  (oIx handed (.int 0) fun t19 =>
  q_open_by t19 (fun o20 =>
  J22) (fun c => q_law_sort (exD c) fun s21 =>
  K s21))
  (J22)) (oEq door (.int 3) fun t23 =>
  bT t23 fun b24 =>
  bIf b24
  (oIx handed (.int 0) fun t25 =>
  oIx handed (.int 1) fun t26 =>
  q_shows_open t25 t26 (fun s27 =>
  J29) (fun c => q_law_sort (exD c) fun s28 =>
  K s28))
  (J29))))) (K .none)
def qb_law_tables_right_1 (K : PyData → List PyData → Prop) (d : PyData) (i : PyData) (s : List PyData) (nx bk : PyData → (List PyData) → Prop) : Prop :=
  q_law_no_table s i fun odd2 pot_here3 =>
  nRepr [odd2] fun kept4 =>
  q_law_asked d (.list [odd2, (.tuple [(.tuple [(.int 0), (.int 0)]), (.tuple [(.int 0), (.int 0)])])]) fun a5 =>
  oNe a5 (.str "table") fun t6 =>
  bT t6 fun b7 =>
  tOr b7 (fun k11 => nRepr [odd2] fun t8 =>
  oNe t8 kept4 fun t9 =>
  bT t9 fun b10 =>
  k11 b10) fun b12 =>
  bIf b12
  (K (.bool false) pot_here3)
  (q_law_asked d (.list [i, .none]) fun a13 =>
  oNotN a13 fun t14 =>
  bT t14 fun b15 =>
  bIf b15
  (K (.bool false) pot_here3)
  (nx i pot_here3))
def q_law_tables_right (pot_here : List PyData) (table_here : PyData) (K : PyData → List PyData → Prop) : Prop :=
  itemsQ (.tuple [(.int 1), (.int 2), (.int 3)]) fun l1 =>
  qFor (qb_law_tables_right_1 K) table_here l1 pot_here fun s17 =>
  K (.bool true) s17
def qb_law_3 (d : PyData) (i : PyData × PyData × PyData × PyData × PyData × PyData × PyData) (s : List PyData) (sk : (PyData × PyData × PyData × PyData × PyData × PyData × PyData) → (List PyData) → Prop) (yd : PyData → (PyData × PyData × PyData × PyData × PyData × PyData × PyData) → (List PyData) → Prop) : Prop :=
  oGt d i.2.2.2.2.2.2 fun t29 =>
  bT t29 fun b30 =>
  jn (fun k35 => bIf b30 (q_law_take s (.int 3) fun t31 pot_here32 =>
  oEq t31 (.int 0) fun t33 =>
  bT t33 fun b34 =>
  k35 b34 pot_here32) (k35 false s)) fun b36 pot_here37 =>
  bIf b36
  (yd d (i.1, i.2.1, i.2.2.1, i.2.2.2.1, i.2.2.2.2.1, i.2.2.2.2.2.1, i.2.2.2.2.2.2) pot_here37)
  (sk (i.1, i.2.1, i.2.2.1, i.2.2.2.1, i.2.2.2.2.1, i.2.2.2.2.2.1, i.2.2.2.2.2.2) pot_here37)
def qb_law_4 (K : PyData → Prop) (d : PyData) (i : PyData × List PyData × PyData × PyData × PyData × PyData × PyData × PyData × List PyData) (s : List PyData) (nx bk : (PyData × List PyData × PyData × PyData × PyData × PyData × PyData × PyData × List PyData) → (List PyData) → Prop) : Prop :=
  ixQ i.2.2.2.2.2.2.2.2 d fun t52 =>
  stQ s d t52 fun handed53 =>
  nx (i.1, i.2.1, i.2.2.1, i.2.2.2.1, i.2.2.2.2.1, i.2.2.2.2.2.1, i.2.2.2.2.2.2.1, i.2.2.2.2.2.2.2.1, i.2.2.2.2.2.2.2.2) handed53
def qb_law_2 (K : PyData → Prop) (d : PyData) (i : PyData × PyData × PyData × PyData × PyData × PyData) (s : List PyData) (nx bk : (PyData × PyData × PyData × PyData × PyData × PyData) → (List PyData) → Prop) : Prop :=
  q_law_take s (.int 4) fun which26 pot_here27 =>
  rng1 [(.int 4)] fun l28 =>
  qLc qb_law_3 (i.1, i.2.1, i.2.2.1, i.2.2.2.1, i.2.2.2.2.1, i.2.2.2.2.2, which26) l28 [] pot_here27 fun l38 s40 =>
  oAdd (.list [which26]) (.list l38) fun more41 =>
  q_law_no_books s40 i.2.2.2.2.1 fun n42 pot_here43 =>
  q_law_no_books pot_here43 i.2.2.2.2.2 fun n44 pot_here45 =>
  q_law_no_chase pot_here45 i.2.1 i.2.2.1 fun n46 pot_here47 =>
  q_law_no_miles pot_here47 fun n48 pot_here49 =>
  apQ [n42, n44, n46] n48 fun odd50 =>
  itemsQ more41 fun l51 =>
  qFor (qb_law_4 K) (i.1, pot_here49, i.2.1, i.2.2.1, i.2.2.2.1, i.2.2.2.2.1, i.2.2.2.2.2, which26, odd50) l51 [i.2.2.2.2.1, i.2.2.2.2.2, (.tuple [i.2.1, i.2.2.1]), i.2.2.2.1] fun s55 =>
  ixQ s55 (.int 2) fun t56 =>
  nList [t56] fun l57 =>
  oAdd (.list (DL.cutD s55 none (some 2))) (.list l57) fun t58 =>
  catN t58 (.list (DL.cutD s55 (some 3) none)) fun l59 =>
  nRepr [(.list l59)] fun kept60 =>
  q_law_asked (.int 0) (.list l59) fun a61 =>
  oIx (.list [(.str "logs"), (.str "logs"), (.str "chase"), (.str "miles")]) which26 fun t62 =>
  oNe a61 t62 fun t63 =>
  bT t63 fun b64 =>
  tOr b64 (fun k68 => nRepr [(.list l59)] fun t65 =>
  oNe t65 kept60 fun t66 =>
  bT t66 fun b67 =>
  k68 b67) fun b69 =>
  bIf b69
  (K (.bool false))
  (nx (i.1, i.2.1, i.2.2.1, i.2.2.2.1, i.2.2.2.2.1, i.2.2.2.2.2) pot_here49)
def qb_law_1 (K : PyData → Prop) (d : PyData) (i : PyData) (s : Unit) (nx bk : PyData → Unit → Prop) : Prop :=
  q_law_pot i d fun pot_here5 =>
  q_law_take pot_here5 (.int 4) fun t6 pot_here7 =>
  q_law_asked_for pot_here7 t6 fun a8 pot_here9 =>
  tupQ a8 fun r10 =>
  consQ r10 fun step11 r12 =>
  consQ r12 fun far13 r14 =>
  consQ r14 fun low15 r16 =>
  consQ r16 fun high17 r18 =>
  consQ r18 fun miles19 r20 =>
  nilQ r20 (q_law_books pot_here9 step11 far13 fun b21 pot_here22 =>
  q_law_books pot_here22 step11 far13 fun b23 pot_here24 =>
  rng1 [(.int 8)] fun l25 =>
  qFor (qb_law_2 K) (i, low15, high17, miles19, b21, b23) l25 pot_here24 fun s71 =>
  q_law_asked (.int 0) (.list [b21, b23, low15, high17, miles19]) fun a72 =>
  oNotN a72 fun t73 =>
  bT t73 fun b74 =>
  bIf b74
  (K (.bool false))
  (q_law_take s71 (.int 4) fun t75 pot_here76 =>
  oAdd (.int 1) t75 fun t77 =>
  q_law_table pot_here76 t77 fun t78 pot_here79 =>
  q_law_tables_right pot_here79 t78 fun t80 pot_here81 =>
  bT t80 fun b82 =>
  bIf (!b82)
  (K (.bool false))
  (nx i ())))
def qb_law_5 (K : PyData → Prop) (d : PyData) (i : PyData) (s : Unit) (nx bk : PyData → Unit → Prop) : Prop :=
  tupQ d fun r86 =>
  consQ r86 fun handed87 r88 =>
  consQ r88 fun due89 r90 =>
  nilQ r90 (q_law_asked (.int 0) handed87 fun a91 =>
  oNe a91 due89 fun t92 =>
  bT t92 fun b93 =>
  bIf b93
  (K (.bool false))
  (nx i ()))
def q_law (script : PyData) (K : PyData → Prop) : Prop :=
  nLen [script] fun t1 =>
  nMin2 [(.int 6), t1] fun t2 =>
  nMax2 [(.int 1), t2] fun t3 =>
  rng1 [t3] fun l4 =>
  qFor (qb_law_1 K) script l4 () fun s84 =>
  itemsQ (.tuple [(.tuple [(.list [.none, .none, (.int 5), (.int 4), (.int (-1))]), (.str "logs")]), (.tuple [(.list [(.tuple [(.tuple [(.tuple [(.int 0), (.int 0), (.int 0)])])]), (.tuple [(.tuple [(.tuple [(.int 0), (.int 0), (.int 0)])])]), (.int 5), (.int 4), (.int (-1))]), (.str "chase")])]) fun l85 =>
  qFor (qb_law_5 K) (.tuple [(.tuple [(.int 0), (.int 0), (.int 0)])]) l85 () fun s95 =>
  q_law_asked (.int 0) (.list [(.tuple [(.tuple [(.tuple [(.int 0), (.int 0), (.int 0)])])]), (.tuple [(.tuple [(.tuple [(.int 0), (.int 0), (.int 0)])])]), (.int 0), (.int 0), (.bool true)]) fun a96 =>
  oEq a96 (.str "miles") fun t97 =>
  K t97
local macro_rules | `(tactic| walk_at "q") => `(tactic| try simp only [q_bT, q_add, q_addT, q_addL, q_addS, q_sub, q_mul, q_mulT, q_div, q_mod, q_pow, q_neg, q_lt, q_le, q_gt, q_ge, q_oI, q_eq, q_ne, q_eqS, q_neS, q_isN, q_isNi, q_isNt, q_isNs, q_notN, q_notNi, q_notNt, q_ix, q_ixL, q_ixQ, q_len, q_lenT, q_lenS, q_abs, q_min, q_max, q_tupleOf, q_tupleOfT, q_int, q_intB, q_list, q_listT, q_tup, q_cons, q_nil, q_so, q_lst, q_items, q_itemsT, q_rev, q_zip, q_zipT, q_rng1, q_rng2, q_sumI, q_sumTI, q_allB, q_anyB, q_ap, q_jn, q_fd, q_rep, q_slT, q_slL, q_max3, q_min3, q_str, q_cat, q_catN, q_scalN, q_scalB, q_scalI, q_scalS, q_enumL, q_enumT, q_inL, q_inT, q_inS, q_ninL, q_ninT, q_ninS, Bool.true_eq_false, Bool.false_eq_true, false_imp_iff, true_imp_iff, q_eqB, q_neB, q_empL, q_empT, q_isB, q_revL, q_revT, List.isEmpty_cons, List.isEmpty_nil, bne_self_eq_false, Bool.bne_false, Bool.bne_true, q_same, q_tAnd_k, q_tOr_k, q_vAnd_k, q_vOr_k, q_tAnd_s, q_tOr_s, q_vAnd_s, q_vOr_s, q_vIf_k, q_tAnd_t, q_tAnd_f, q_tOr_t, q_tOr_f, q_vAnd_t, q_vAnd_f, q_vOr_t, q_vOr_f, q_vIf_t, q_vIf_f, at0, at1, at2, at3, at4, at5, at6, atLast, st0, st1, st2, st3, st4, bIf_t, bIf_f, true_and, and_true, Bool.not_true, Bool.not_false, Bool.true_and, Bool.false_and, Bool.and_true, Bool.and_false, Bool.true_or, Bool.or_true, Bool.false_or, Bool.or_false, Bool.not_not, decide_true, decide_false, List.length_cons, List.cons_append, List.nil_append, List.length_nil, List.length_map, List.length_append, isi_non_int, isi_non_bool, isi_non_str, isi_non_list, isi_non_tuple, isi_non_dict, isi_bl_int, isi_bl_bool, isi_bl_str, isi_bl_list, isi_bl_tuple, isi_bl_dict, isi_int_int, isi_int_bool, isi_int_str, isi_int_list, isi_int_tuple, isi_int_dict, isi_str_int, isi_str_bool, isi_str_str, isi_str_list, isi_str_tuple, isi_str_dict, isi_lst_int, isi_lst_bool, isi_lst_str, isi_lst_list, isi_lst_tuple, isi_lst_dict, isi_tup_int, isi_tup_bool, isi_tup_str, isi_tup_list, isi_tup_tuple, isi_tup_dict, isi_dct_int, isi_dct_bool, isi_dct_str, isi_dct_list, isi_dct_tuple, isi_dct_dict])
local macro_rules | `(tactic| walk_at "side") => `(tactic| first | assumption | exact rfl | omega | exact sz_of (by omega) (by omega) | decide | (refine ⟨?_, ?_⟩ <;> walk_at "side"))
local macro_rules | `(tactic| walk_at "sides") => `(tactic| repeat ((with_reducible refine And.intro ?_ ?_); (· walk_at "side"); walk_at "q"))
local macro_rules | `(tactic| walk_at "go") => `(tactic| (walk_at "q"; walk_at "sides"))
local macro_rules | `(tactic| walk_at "j") => `(tactic| try simp only [q_bT, q_add, q_addT, q_addL, q_addS, q_sub, q_mul, q_mulT, q_div, q_mod, q_pow, q_neg, q_lt, q_le, q_gt, q_ge, q_oI, q_eq, q_ne, q_eqS, q_neS, q_isN, q_isNi, q_isNt, q_isNs, q_notN, q_notNi, q_notNt, q_ix, q_ixL, q_ixQ, q_len, q_lenT, q_lenS, q_abs, q_min, q_max, q_tupleOf, q_tupleOfT, q_int, q_intB, q_list, q_listT, q_tup, q_cons, q_nil, q_so, q_lst, q_items, q_itemsT, q_rev, q_zip, q_zipT, q_rng1, q_rng2, q_sumI, q_sumTI, q_allB, q_anyB, q_ap, q_fd, q_rep, q_slT, q_slL, q_max3, q_min3, q_str, q_cat, q_catN, q_scalN, q_scalB, q_scalI, q_scalS, q_enumL, q_enumT, q_inL, q_inT, q_inS, q_ninL, q_ninT, q_ninS, Bool.true_eq_false, Bool.false_eq_true, false_imp_iff, true_imp_iff, q_eqB, q_neB, q_empL, q_empT, q_isB, q_revL, q_revT, List.isEmpty_cons, List.isEmpty_nil, bne_self_eq_false, Bool.bne_false, Bool.bne_true, q_same, q_tAnd_k, q_tOr_k, q_vAnd_k, q_vOr_k, q_tAnd_s, q_tOr_s, q_vAnd_s, q_vOr_s, q_vIf_k, q_tAnd_t, q_tAnd_f, q_tOr_t, q_tOr_f, q_vAnd_t, q_vAnd_f, q_vOr_t, q_vOr_f, q_vIf_t, q_vIf_f, at0, at1, at2, at3, at4, at5, at6, atLast, st0, st1, st2, st3, st4, bIf_t, bIf_f, true_and, and_true, Bool.not_true, Bool.not_false, Bool.true_and, Bool.false_and, Bool.and_true, Bool.and_false, Bool.true_or, Bool.or_true, Bool.false_or, Bool.or_false, Bool.not_not, decide_true, decide_false, List.length_cons, List.cons_append, List.nil_append, List.length_nil, List.length_map, List.length_append, isi_non_int, isi_non_bool, isi_non_str, isi_non_list, isi_non_tuple, isi_non_dict, isi_bl_int, isi_bl_bool, isi_bl_str, isi_bl_list, isi_bl_tuple, isi_bl_dict, isi_int_int, isi_int_bool, isi_int_str, isi_int_list, isi_int_tuple, isi_int_dict, isi_str_int, isi_str_bool, isi_str_str, isi_str_list, isi_str_tuple, isi_str_dict, isi_lst_int, isi_lst_bool, isi_lst_str, isi_lst_list, isi_lst_tuple, isi_lst_dict, isi_tup_int, isi_tup_bool, isi_tup_str, isi_tup_list, isi_tup_tuple, isi_tup_dict, isi_dct_int, isi_dct_bool, isi_dct_str, isi_dct_list, isi_dct_tuple, isi_dct_dict])
def isW : PyData → Bool
  | .int _ => true
  | _ => false
def isIn (a : PyData) (l m : Int) : Bool := match a with
  | .int i => decide (l ≤ i) && decide (i ≤ m)
  | _ => false
structure Sale (g c r h b p q : Int) : Prop where
  g0 : 0 ≤ g
  g1 : g ≤ 10 ^ 12
  c0 : 0 ≤ c
  c1 : c ≤ 10 ^ 12
  r0 : 0 ≤ r
  r1 : r ≤ 10000
  h0 : 0 ≤ h
  h1 : h ≤ 1000
  b0 : 0 ≤ b
  b1 : b ≤ 10 ^ 9
  p0 : 0 ≤ p
  pq : p ≤ q
  q0 : 0 < q
  q1 : q ≤ 10 ^ 40
  co : Int.gcd p q = 1
structure SaleB (g c r h b p q : Int) : Prop where
  g0 : 0 ≤ g
  g1 : g ≤ 10 ^ 70
  c0 : 0 ≤ c
  c1 : c ≤ 10 ^ 12
  r0 : 0 ≤ r
  r1 : r ≤ 10000
  h0 : 0 ≤ h
  h1 : h ≤ 1000
  b0 : 0 ≤ b
  b1 : b ≤ 10 ^ 9
  p0 : 0 ≤ p
  pq : p ≤ q
  q0 : 0 < q
  q1 : q ≤ 10 ^ 40
theorem Sale.B {g c r h b p q : Int} (s : Sale g c r h b p q) : SaleB g c r h b p q := ⟨s.g0, Int.le_trans s.g1 (by decide), s.c0, s.c1, s.r0, s.r1, s.h0, s.h1, s.b0, s.b1, s.p0, s.pq, s.q0, s.q1⟩
def paid (g c : Int) : Int := if g < c then g else c
def caps (g c p q : Int) : Int := (g - paid g c) * p / q
def pot (g c h b p q : Int) : Int := caps g c p q + h * b
def fee (g c r h b p q : Int) : Int := pot g c h b p q * r / 10000
def PotOk (n : Int) (xs : List PyData) : Prop := ∃ g s t : Int, xs = [.int g, .int s, .int t] ∧ 0 ≤ s ∧ s ≤ 10 ^ 12 ∧ 0 ≤ t ∧ t ≤ n
theorem PotOk.mono {n m : Int} {xs : List PyData} (h : PotOk n xs) (e : n ≤ m) : PotOk m xs := by
  obtain ⟨g, s, t, h1, h2, h3, h4, h5⟩ := h
  exact ⟨g, s, t, h1, h2, h3, h4, by omega⟩
theorem gcd_step (i j : Int) (h0 : 0 < j) (hi : 0 ≤ i) : Int.gcd j (i % j) = Int.gcd i j := by
  obtain ⟨a, rfl⟩ := Int.eq_ofNat_of_zero_le hi
  obtain ⟨b, rfl⟩ := Int.eq_ofNat_of_zero_le (Int.le_of_lt h0)
  have e : ((a : Int) % (b : Int)) = ((a % b : Nat) : Int) := by simp
  rw [e]
  show Nat.gcd b (a % b) = Nat.gcd a b
  rw [Nat.gcd_comm a b, Nat.gcd_comm b (a % b)]
  exact (Nat.gcd_rec b a).symm
theorem caps_le {x p q : Int} (h0 : 0 ≤ x) (h1 : 0 ≤ p) (h2 : p ≤ q) (h3 : 0 < q) : 0 ≤ x * p / q ∧ x * p / q ≤ x := by
  refine ⟨Int.ediv_nonneg (Int.mul_nonneg h0 h1) (by omega), ?_⟩
  have : x * p ≤ x * q := Int.mul_le_mul_of_nonneg_left h2 h0
  exact Int.le_trans (Int.ediv_le_ediv h3 this) (by rw [Int.mul_ediv_cancel _ (by omega)]; exact Int.le_refl x)
theorem paid_in {g c : Int} (h0 : 0 ≤ g) (h1 : 0 ≤ c) : 0 ≤ paid g c ∧ paid g c ≤ g := by
  unfold paid
  split <;> omega
theorem sale_caps {g c r h b p q : Int} (s : Sale g c r h b p q) : 0 ≤ caps g c p q ∧ caps g c p q ≤ 10 ^ 12 := by
  have h1 := paid_in s.g0 s.c0
  have h2 := s.g1
  have h3 := caps_le (x := g - paid g c) (by omega) s.p0 s.pq s.q0
  unfold caps
  constructor
  · exact h3.1
  · exact Int.le_trans h3.2 (by omega)
theorem sale_pot {g c r h b p q : Int} (s : Sale g c r h b p q) : 0 ≤ pot g c h b p q ∧ pot g c h b p q ≤ 10 ^ 13 := by
  have h1 := sale_caps s
  have h2 : 0 ≤ h * b := Int.mul_nonneg s.h0 s.b0
  have h3 : h * b ≤ 1000 * 10 ^ 9 := Int.mul_le_mul s.h1 s.b1 s.b0 (by decide)
  unfold pot
  constructor <;> omega
def sharedOf (g c r h b p q : Int) : Int := pot g c h b p q - fee g c r h b p q
theorem Sale.sh {g c r h b p q : Int} (s : Sale g c r h b p q) : 0 ≤ sharedOf g c r h b p q ∧ sharedOf g c r h b p q ≤ 10 ^ 13 := by
  have h1 := sale_pot s
  have h2 := caps_le (x := pot g c h b p q) h1.1 s.r0 s.r1 (by decide : (0 : Int) < 10000)
  unfold sharedOf fee
  omega
theorem Sale.zero {g c r h b p q : Int} (s : Sale g c r h b p q) : Sale 0 c r h b p q := ⟨by omega, by omega, s.c0, s.c1, s.r0, s.r1, s.h0, s.h1, s.b0, s.b1, s.p0, s.pq, s.q0, s.q1, s.co⟩
theorem is_whole_q (a : PyData) (K : PyData → Prop) : q_is_whole a K = K (.bool (isW a)) := by
  cases a with
  | dict kv => cases kv <;> rfl
  | _ => rfl
theorem divisor_of_q (i j : Int) (K : PyData → Prop) (h : K (.int (Int.gcd i j : Nat))) : q_divisor_of (.int i) (.int j) K := by
  unfold q_divisor_of
  walk_at "q"
  have ea : (if i < 0 then -i else i) = (i.natAbs : Int) := by split <;> omega
  have eb : (if j < 0 then -j else j) = (j.natAbs : Int) := by split <;> omega
  rw [ea, eb]
  refine qWhile_ind (m := j.natAbs) (fun m s => ∃ a b : Int, s = (.int a, .int b) ∧ 0 ≤ a ∧ 0 ≤ b ∧ b.toNat = m ∧ Int.gcd a b = Int.gcd i j) ⟨_, _, rfl, by omega, by omega, by omega, by simp [Int.gcd]⟩ ?_
  rintro m _ nx ⟨a, b, rfl, ha, hb, hm, hg⟩ hn
  unfold qb_divisor_of_1
  walk_at "q"
  refine bIf_d (fun h0 => ?_) fun h0 => ?_
  · walk_at "go"
    have hm1 := Int.emod_lt_of_pos a h0
    have hm0 := Int.emod_nonneg a (by omega : b ≠ 0)
    exact hn (a % b).toNat _ (by omega) ⟨b, a % b, rfl, by omega, hm0, rfl, by rw [gcd_step a b h0 ha]; exact hg⟩
  · have e : b = 0 := by omega
    subst e
    have : Int.gcd a 0 = a.natAbs := Int.gcd_zero_right a
    rw [← hg, this] at h
    have e2 : ((a.natAbs : Nat) : Int) = a := by omega
    rw [e2] at h
    exact h
theorem lowest_ok (p q : Int) (hq : q ≠ 0) : ∃ a b : Int, (∀ by_ : Int, by_ = (if q < 0 then 0 - (Int.gcd p q : Int) else Int.gcd p q) → p.fdiv by_ = a ∧ q.fdiv by_ = b ∧ by_ ≠ 0) ∧ 0 < b ∧ Int.gcd a b = 1 ∧ a * q = p * b ∧ a.natAbs ≤ p.natAbs ∧ b.natAbs ≤ q.natAbs := by
  have g0 : 0 < Int.gcd p q := Int.gcd_pos_of_ne_zero_right p hq
  obtain ⟨p', hp⟩ := Int.gcd_dvd_left p q
  obtain ⟨q', hq'⟩ := Int.gcd_dvd_right p q
  generalize hg : Int.gcd p q = g at *
  have g1 : Int.gcd p' q' = 1 := by
    have := Int.gcd_mul_left (g : Int) p' q'
    rw [← hp, ← hq', hg] at this
    have e : g * 1 = g * Int.gcd p' q' := by simpa using this
    exact (Nat.eq_of_mul_eq_mul_left g0 e).symm
  have gi : (g : Int) ≠ 0 := by omega
  have np : p'.natAbs ≤ p.natAbs := by
    conv => rhs; rw [hp]
    rw [Int.natAbs_mul]
    exact Nat.le_mul_of_pos_left _ (by omega)
  have nq : q'.natAbs ≤ q.natAbs := by
    conv => rhs; rw [hq']
    rw [Int.natAbs_mul]
    exact Nat.le_mul_of_pos_left _ (by omega)
  by_cases hn : q < 0
  · refine ⟨-p', -q', fun by_ hb => ?_, ?_, ?_, ?_, by omega, by omega⟩
    · rw [if_pos hn] at hb
      have e1 : p = by_ * -p' := by rw [hb, Int.zero_sub, Int.neg_mul_neg]; exact hp
      have e2 : q = by_ * -q' := by rw [hb, Int.zero_sub, Int.neg_mul_neg]; exact hq'
      have b0 : by_ ≠ 0 := by omega
      refine ⟨?_, ?_, b0⟩
      · rw [e1]; exact Int.mul_fdiv_cancel_left _ b0
      · rw [e2]; exact Int.mul_fdiv_cancel_left _ b0
    · have : ¬ 0 ≤ q' := fun h => by
        have := Int.mul_nonneg (show (0 : Int) ≤ g by omega) h
        omega
      omega
    · rw [Int.neg_gcd, Int.gcd_neg]; exact g1
    · rw [hp, hq', Int.neg_mul, Int.mul_neg]
      congr 1
      rw [← Int.mul_assoc, Int.mul_comm p' g, Int.mul_assoc]
  · refine ⟨p', q', fun by_ hb => ?_, ?_, g1, ?_, np, nq⟩
    · rw [if_neg hn] at hb
      subst hb
      refine ⟨?_, ?_, gi⟩
      · rw [hp]; exact Int.mul_fdiv_cancel_left _ gi
      · rw [hq']; exact Int.mul_fdiv_cancel_left _ gi
    · have : ¬ q' ≤ 0 := fun h => by
        have := Int.mul_nonneg (show (0 : Int) ≤ g by omega) (show 0 ≤ -q' by omega)
        rw [Int.mul_neg] at this
        omega
      omega
    · rw [hp, hq', ← Int.mul_assoc, Int.mul_comm p' g]
/-- the top, the bottom of p by q, q above 0 -/
def lowN (p q : Int) : Int := p.fdiv (Int.gcd p q : Int)
def lowB (p q : Int) : Int := q.fdiv (Int.gcd p q : Int)
abbrev lowD (p q : Int) : PyData := .tuple [.int (lowN p q), .int (lowB p q)]
structure Low (p q : Int) : Prop where
  b0 : 0 < lowB p q
  b1 : lowB p q ≤ q
  co : Int.gcd (lowN p q) (lowB p q) = 1
  eq : lowN p q * q = p * lowB p q
  n0 : -(p.natAbs : Int) ≤ lowN p q
  n1 : lowN p q ≤ p.natAbs
  g0 : (Int.gcd p q : Int) ≠ 0
  g1 : (Int.gcd p q : Int) ≤ q
theorem low_of (p : Int) {q : Int} (h : 0 < q) : Low p q := by
  obtain ⟨a, b, hb, b0, g1, e, _⟩ := lowest_ok p q (by omega)
  obtain ⟨e1, e2, e3⟩ := hb (Int.gcd p q : Int) (by rw [if_neg (by omega)])
  have gd : (Int.gcd p q : Int) ≤ q := Int.le_of_dvd h (Int.gcd_dvd_right p q)
  have ea : lowN p q = a := e1
  have eb : lowB p q = b := e2
  have g0 : (0 : Int) < (Int.gcd p q : Int) := by omega
  have xa : p = (Int.gcd p q : Int) * a := by
    rw [← e1, Int.mul_fdiv_cancel' (Int.gcd_dvd_left p q)]
  have xb : q = (Int.gcd p q : Int) * b := by
    rw [← e2, Int.mul_fdiv_cancel' (Int.gcd_dvd_right p q)]
  have na : a.natAbs ≤ p.natAbs := by
    conv => rhs; rw [xa]
    rw [Int.natAbs_mul]
    exact Nat.le_mul_of_pos_left _ (by omega)
  refine ⟨by rw [eb]; exact b0, ?_, by rw [ea, eb]; exact g1, by rw [ea, eb]; exact e, by rw [ea]; omega, by rw [ea]; omega, e3, gd⟩
  rw [eb]
  conv => rhs; rw [xb]
  have := Int.mul_le_mul_of_nonneg_right (show (1 : Int) ≤ (Int.gcd p q : Int) by omega) (show 0 ≤ b by omega)
  rwa [Int.one_mul] at this
theorem lowest_q {p q : Int} (hq : 0 < q) (h1 : q ≤ 10 ^ 100) (K : PyData → Prop) (h : K (lowD p q)) : q_lowest (.int p) (.int q) K := by
  unfold q_lowest
  refine divisor_of_q p q _ ?_
  walk_at "q"
  have l := low_of p hq
  have g0 := l.g0
  have g1 := l.g1
  refine bIf_d (fun hn => ?_) fun hn => ?_
  · omega
  · exact ⟨⟨g0, sz_of (by omega) (by omega)⟩, ⟨g0, sz_of (by omega) (by omega)⟩, h⟩
theorem jn_by {α : Type} {f : (α → Prop) → Prop} {K : α → Prop} (P : α → Prop) (h : ∀ J : α → Prop, (∀ x, P x → J x) → f J) (k : ∀ x, P x → K x) : jn f K := h K k
theorem jn_by2 {α β : Type} {f : (α → β → Prop) → Prop} {K : α → β → Prop} (P : α → β → Prop) (h : ∀ J : α → β → Prop, (∀ x y, P x y → J x y) → f J) (k : ∀ x y, P x y → K x y) : jn f K := h K k
def CupOk (n : Int) (xs : List PyData) : Prop := ∃ g s t : Int, xs = [.int g, .int s, .int t] ∧ 0 ≤ s ∧ s < 2147483647 ∧ 0 ≤ t ∧ t ≤ n
theorem CupOk.mono {n m : Int} {xs : List PyData} (h : CupOk n xs) (e : n ≤ m) : CupOk m xs := by
  obtain ⟨g, s, t, h1, h2, h3, h4, h5⟩ := h
  exact ⟨g, s, t, h1, h2, h3, h4, by omega⟩
theorem cup_pot_q (ns : List Int) (k : Int) (k0 : 0 ≤ k) (k1 : k ≤ 1000) (K : List PyData → Prop) (h : ∀ xs, CupOk 0 xs → K xs) : q_law_pot (.list (ns.map .int)) (.int k) K := by
  unfold q_law_pot
  walk_at "j"
  have z := sz_of (i := 10) (by decide) (by decide)
  have z60 : Sz (10 ^ Int.toNat 60) := sz_of (by decide) (by decide)
  have zz : (0 : Int) < (10 ^ Int.toNat 60) ^ Int.toNat 10 := by decide +kernel
  refine jn_by (fun d => ∃ c : Int, d = .int c ∧ 0 ≤ c ∧ c < (10 ^ Int.toNat 60) ^ Int.toNat 10) (fun J hJ => ?_) ?_
  · refine bIf_d (fun hk => ?_) fun _ => ?_
    · refine pick_mem k0 (by simpa using hk) fun d mem => ?_
      obtain ⟨c, _, rfl⟩ := List.mem_map.mp mem
      walk_at "q"
      refine ⟨⟨z, by decide, by decide⟩, ⟨z60, by decide, by decide⟩, zz, ?_⟩
      exact hJ _ ⟨_, rfl, Int.emod_nonneg _ (Int.ne_of_gt zz), Int.emod_lt_of_pos _ zz⟩
    · exact hJ _ ⟨0, rfl, Int.le_refl _, zz⟩
  · rintro _ ⟨c, rfl, c0, c1⟩
    have zc : Sz c := by
      unfold Sz
      have e : (10 : Int) ^ 1000 = (((10 : Nat) ^ 1000 : Nat) : Int) := by rw [Int.natCast_pow]; rfl
      have : (10 ^ Int.toNat 60 : Int) ^ Int.toNat 10 ≤ 10 ^ 1000 := by decide +kernel
      rw [e] at this
      omega
    walk_at "q"
    have b1 := Int.emod_nonneg c (by decide : (2147483629 : Int) ≠ 0)
    have b2 := Int.emod_lt_of_pos c (by decide : (0 : Int) < 2147483629)
    generalize c % 2147483629 = m at b1 b2 ⊢
    refine ⟨⟨z, by decide, by decide⟩, ⟨zc, ?_⟩, by decide, ⟨by walk_at "side", by walk_at "side"⟩, ⟨by walk_at "side", by decide, by decide⟩, by decide, ?_⟩
    · split <;> exact sz_of (by decide) (by decide)
    · exact h _ ⟨_, _, _, rfl, Int.emod_nonneg _ (by decide), Int.emod_lt_of_pos _ (by decide), by decide, by decide⟩
theorem cup_take_q {n m : Int} {xs : List PyData} (hp : CupOk n xs) (hn : n ≤ 10 ^ 6) (m0 : 0 < m) (m1 : m ≤ 10 ^ 50) (K : PyData → List PyData → Prop) (h : ∀ r xs', 0 ≤ r → r < m → CupOk (n + 1) xs' → K (.int r) xs') : q_law_take xs (.int m) K := by
  obtain ⟨g, s, t, rfl, s0, s1, t0, t1⟩ := hp
  unfold q_law_take
  walk_at "q"
  refine bIf_d (fun h0 => ?_) fun h0 => ?_
  · walk_at "sides"
    exact h _ _ (Int.emod_nonneg _ (by omega)) (Int.emod_lt_of_pos _ m0) ⟨_, s, t, rfl, s0, s1, t0, by omega⟩
  · have b1 := Int.emod_nonneg ((s + 104729 * (t + 1)) ^ Int.toNat 3) (by decide : (2147483587 : Int) ≠ 0)
    have b2 := Int.emod_lt_of_pos ((s + 104729 * (t + 1)) ^ Int.toNat 3) (by decide : (0 : Int) < 2147483587)
    have c1 := Int.emod_nonneg s (by decide : (65537 : Int) ≠ 0)
    have c2 := Int.emod_lt_of_pos s (by decide : (0 : Int) < 65537)
    generalize (s + 104729 * (t + 1)) ^ Int.toNat 3 % 2147483587 = A at b1 b2 ⊢
    generalize s % 65537 = C at c1 c2 ⊢
    have d1 := Int.emod_nonneg ((A + C + 31 * (t + 1)) ^ Int.toNat 5) (by decide : (2147483579 : Int) ≠ 0)
    have d2 := Int.emod_lt_of_pos ((A + C + 31 * (t + 1)) ^ Int.toNat 5) (by decide : (0 : Int) < 2147483579)
    generalize (A + C + 31 * (t + 1)) ^ Int.toNat 5 % 2147483579 = D at d1 d2 ⊢
    walk_at "sides"
    exact h _ _ (Int.emod_nonneg _ (by omega)) (Int.emod_lt_of_pos _ m0) ⟨g, s, t + 1, rfl, s0, s1, by omega, by omega⟩
mutual
/-- whole numbers of few figures -/
def nb : PyData → Bool
  | .none => true
  | .bool _ => true
  | .int i => decide (i.natAbs ≤ 10 ^ 45)
  | .str x => x.cps.toList.all fun c => decide (c < 16 ^ 8)
  | .list xs => nbs xs
  | .tuple xs => nbs xs
  | .dict kvs => kvs.isEmpty
def nbs : List PyData → Bool
  | [] => true
  | x :: xs => nb x && nbs xs
end
theorem st_in {xs : List PyData} {i : Int} {d : PyData} {K : List PyData → Prop} (h0 : 0 ≤ i) (h1 : i < xs.length) (h : K (xs.set i.toNat d)) : stQ xs (.int i) d K := by
  show (match ixN xs.length i with | some j => K (xs.set j d) | none => False)
  rw [ixN_in h0 h1]
  exact h
def isBoo : PyData → Bool
  | .bool _ => true
  | _ => false
def tlen : PyData → Nat
  | .tuple xs => xs.length
  | _ => 0
def isTRow : PyData → Bool
  | .tuple xs => decide (1 ≤ xs.length) && decide (xs.length ≤ 4) && xs.all isBoo
  | _ => false
def isTab : PyData → Bool
  | .tuple xs => decide (1 ≤ xs.length) && decide (xs.length ≤ 4) && xs.all isTRow && xs.all fun r => decide (tlen r = tlen (xs.headD .none))
  | _ => false
theorem isi_boo (d : PyData) : isiB d "bool" = isBoo d := by
  cases d with
  | dict kv => cases kv <;> rfl
  | _ => rfl
theorem isi_tup {d : PyData} (h : isiB d "tuple" = true) : ∃ xs, d = .tuple xs := by
  cases d with
  | tuple xs => exact ⟨xs, rfl⟩
  | dict kv => cases kv <;> cases h
  | _ => cases h
theorem isTRow_t {xs : List PyData} : isTRow (.tuple xs) = (decide (1 ≤ xs.length) && decide (xs.length ≤ 4) && xs.all isBoo) := rfl
theorem isTab_t {xs : List PyData} : isTab (.tuple xs) = (decide (1 ≤ xs.length) && decide (xs.length ≤ 4) && xs.all isTRow && xs.all fun r => decide (tlen r = tlen (xs.headD .none))) := rfl
theorem isTRow_inv {d : PyData} (h : isTRow d = true) : ∃ xs, d = .tuple xs ∧ 1 ≤ xs.length ∧ xs.length ≤ 4 ∧ xs.all isBoo = true := by
  unfold isTRow at h
  split at h
  · simp only [Bool.and_eq_true, decide_eq_true_eq] at h
    exact ⟨_, rfl, h.1.1, h.1.2, h.2⟩
  · cases h
theorem is_row_q (d : PyData) (K : PyData → Prop) (h : K (.bool (isTRow d))) : q_is_row d K := by
  unfold q_is_row
  cases e : isiB d "tuple" with
  | false =>
    have : isTRow d = false := by
      cases d with
      | tuple xs => cases e
      | _ => rfl
    rw [this] at h
    walk_at "q"
    exact h
  | true =>
    obtain ⟨xs, rfl⟩ := isi_tup e
    walk_at "q"
    refine bIf_of (fun hc => ?_) fun hc => ?_
    · have : isTRow (.tuple xs) = false := by
        unfold isTRow
        simp only [Bool.not_eq_true', Bool.and_eq_false_iff, decide_eq_false_iff_not] at hc ⊢
        left
        omega
      rwa [this] at h
    · simp only [Bool.not_eq_false', Bool.and_eq_true, decide_eq_true_eq] at hc
      refine qLc_map (fun d => .bool (isBoo d)) (by omega) (fun d hd sk yd hy => ?_) ?_
      · unfold qb_is_row_1
        rw [isi_boo]
        exact hy
      · walk_at "q"
        have : isTRow (.tuple xs) = xs.all isBoo := by
          rw [isTRow_t, decide_eq_true (show 1 ≤ xs.length by omega), decide_eq_true (show xs.length ≤ 4 by omega)]
          rfl
        rwa [this] at h
theorem head_pick {xs : List PyData} (h : 1 ≤ xs.length) {P : PyData → Prop} (hp : P (xs.headD .none)) : pick xs 0 P := by
  cases xs with
  | nil => simp at h
  | cons a b => rw [at0]; exact hp
theorem is_table_q (d : PyData) (K : PyData → Prop) (h : K (.bool (isTab d))) : q_is_table d K := by
  unfold q_is_table
  cases e : isiB d "tuple" with
  | false =>
    have : isTab d = false := by
      cases d with
      | tuple xs => cases e
      | _ => rfl
    rw [this] at h
    walk_at "q"
    exact h
  | true =>
    obtain ⟨xs, rfl⟩ := isi_tup e
    walk_at "q"
    by_cases hl : 1 ≤ xs.length ∧ xs.length ≤ 4
    · rw [decide_eq_true (show (1 : Int) ≤ xs.length by omega), decide_eq_true (show (xs.length : Int) ≤ 4 by omega)]
      walk_at "q"
      refine qLc_map (fun d => .bool (isTRow d)) (by omega) (fun d hd sk yd hy => by unfold qb_is_table_1; exact is_row_q d _ hy) ?_
      walk_at "q"
      have e1 : isTab (.tuple xs) = (xs.all isTRow && xs.all fun r => decide (tlen r = tlen (xs.headD .none))) := by
        rw [isTab_t, decide_eq_true hl.1, decide_eq_true hl.2]
        rfl
      rw [e1] at h
      cases ha : xs.all isTRow with
      | false =>
        walk_at "q"
        rw [ha] at h
        exact h
      | true =>
        walk_at "q"
        rw [ha, Bool.true_and] at h
        have hr := List.all_eq_true.mp ha
        refine qLc_map (fun r => .bool (decide (tlen r = tlen (xs.headD .none)))) (by omega) (fun r hm sk yd hy => ?_) ?_
        · unfold qb_is_table_2
          obtain ⟨ys, rfl, y1, y2, _⟩ := isTRow_inv (hr r hm)
          walk_at "q"
          refine head_pick hl.1 ?_
          have hh : xs.headD .none ∈ xs := by
            cases xs with
            | nil => simp at hl
            | cons a b => exact List.mem_cons_self ..
          obtain ⟨zs, ez, z1, z2, _⟩ := isTRow_inv (hr _ hh)
          rw [ez] at hy ⊢
          walk_at "q"
          have : decide ((ys.length : Int) = (zs.length : Int)) = decide (tlen (.tuple ys) = tlen (.tuple zs)) := by
            simp only [tlen]
            exact decide_eq_decide.mpr (by omega)
          rw [this]
          exact hy
        · walk_at "q"
          exact h
    · have e1 : isTab (.tuple xs) = false := by
        unfold isTab
        simp only [Bool.and_eq_false_iff, decide_eq_false_iff_not]
        left; left
        omega
      rw [e1] at h
      have e2 : (decide ((1 : Int) ≤ xs.length) && decide ((xs.length : Int) ≤ 4)) = false := by
        simp only [Bool.and_eq_false_iff, decide_eq_false_iff_not]
        omega
      rw [e2]
      walk_at "q"
      exact h
def TabOk (rows : Nat) (d : PyData) : Prop := ∃ (many : Nat) (rs : List PyData), d = .tuple rs ∧ rs.length = rows ∧ 1 ≤ many ∧ many ≤ 4 ∧ ∀ r ∈ rs, ∃ bs : List Bool, r = .tuple (bs.map .bool) ∧ bs.length = many
theorem bools_of : ∀ {xs : List PyData}, (∀ y ∈ xs, ∃ b : Bool, y = .bool b) → ∃ bs : List Bool, xs = bs.map .bool
  | [], _ => ⟨[], rfl⟩
  | x :: xs, h => by
    obtain ⟨b, rfl⟩ := h x (List.mem_cons_self ..)
    obtain ⟨bs, rfl⟩ := bools_of fun y hy => h y (List.mem_cons_of_mem _ hy)
    exact ⟨b :: bs, rfl⟩
theorem range_len (lo : Int) (n : Nat) : (rangeD lo n).length = n := by simp [rangeD]
theorem lfs_bools : ∀ bs : List Bool, lfs (bs.map .bool) = true
  | [] => rfl
  | b :: bs => by rw [List.map_cons, lfs, lf, lfs_bools bs]; rfl
theorem neQ_ok {xs ds : List PyData} {n : Int} {d : PyData} {K : List PyData → Prop} (h0 : 0 ≤ n) (h1 : n < ds.length) (hx : xs.all rowB = true) (hd : lfs ds = true) (hl : lf d = true)
    (h : ∀ xs', xs'.length = xs.length → (∀ z ∈ xs', z ∈ xs ∨ z = rowD (ds.set n.toNat d)) → K xs') : neQ xs (rowD ds) (.int n) d K := by
  show bIf (xs.all rowB && lfs ds && lf d) (stQ ds (.int n) d fun ds' => ∀ xs', xs'.length = xs.length → (∀ z ∈ xs', z ∈ xs ∨ z = rowD ds') → K xs') False
  rw [hx, hd, hl]
  exact st_in (K := fun ds' => ∀ xs', xs'.length = xs.length → (∀ z ∈ xs', z ∈ xs ∨ z = rowD ds') → K xs') h0 h1 h
theorem cup_atoms {n : Int} {xs : List PyData} (h : CupOk n xs) : xs.all atB = true ∧ lfs xs = true := by
  obtain ⟨g, s, t, rfl, _⟩ := h
  exact ⟨rfl, rfl⟩
def RowR (many : Nat) (y : PyData) : Prop := ∃ bs : List Bool, y = rowD (bs.map .bool) ∧ bs.length = many
def RowL (many : Nat) (y : PyData) : Prop := ∃ bs : List Bool, (y = rowD (bs.map .bool) ∨ y = .list (bs.map .bool)) ∧ bs.length = many
theorem law_table_q {n : Int} {xs : List PyData} {rows : Nat} (hp : CupOk n xs) (hn : n ≤ 10 ^ 5) (r0 : 1 ≤ rows) (r1 : rows ≤ 4) (K : PyData → List PyData → Prop) (hK : ∀ d xs', TabOk rows d → CupOk (n + 40) xs' → K d xs') : q_law_table xs (.int rows) K := by
  unfold q_law_table
  have ha : atoms [.cel true xs, .dat (.int rows)] = true := by simp only [atoms, (cup_atoms hp).1, atB]; rfl
  rw [ha]
  show q_law_take _ _ _
  refine cup_take_q hp (by omega) (by decide) (by decide) _ fun t xs t0 t1 hp => ?_
  walk_at "j"
  obtain ⟨many, em⟩ : ∃ many : Nat, 1 + t = (many : Int) := ⟨(1 + t).toNat, by omega⟩
  rw [em]
  have m0 : 1 ≤ many := by omega
  have m1 : many ≤ 4 := by omega
  refine cup_take_q hp (by omega) (by decide) (by decide) _ fun way xs w0 w1 hp => ?_
  refine cup_take_q hp (by omega) (by decide) (by decide) _ fun s xs s0 s1 hp => ?_
  walk_at "j"
  refine ⟨by omega, ?_⟩
  generalize decide (s = 0) = sign
  rw [show (rows : Int).toNat = rows by omega]
  refine qLc_each (RowR many) (fun k s => CupOk (n + 3 + 4 * k) s) (hp.mono (by omega)) (by rw [range_len]; omega) (fun k d s sk yd hd hp hy => ?_) fun f1 xs hl1 hf1 hp => ?_
  · unfold qb_law_table_1
    have hk : k < rows := by have := (List.getElem?_eq_some_iff.mp hd).1; rwa [range_len] at this
    dsimp only
    walk_at "j"
    refine ⟨by omega, ?_⟩
    rw [show (many : Int).toNat = many by omega]
    refine qLc_each (fun y => ∃ b : Bool, y = .bool b) (fun j s => CupOk (n + 3 + 4 * k + j) s) (hp.mono (by omega)) (by rw [range_len]; omega) (fun j d s sk yd hd hp hy => ?_) fun acc s hl ht hp => ?_
    · unfold qb_law_table_2
      have hj : j < many := by have := (List.getElem?_eq_some_iff.mp hd).1; rwa [range_len] at this
      refine cup_take_q hp (by omega) (by decide) (by decide) _ fun t xs t0 t1 hp => ?_
      walk_at "j"
      exact hy _ _ ⟨_, rfl⟩ (hp.mono (by omega))
    · obtain ⟨bs, rfl⟩ := bools_of ht
      rw [range_len] at hl hp
      exact hy _ _ ⟨bs, rfl, by simpa using hl⟩ (hp.mono (by omega))
  · rw [range_len] at hl1 hp
    have hp : CupOk (n + 19) xs := hp.mono (by omega)
    refine jn_by (fun f : List PyData => f.length = rows ∧ ∀ y ∈ f, RowR many y) (fun J hJ => ?_) fun f2 ⟨hl2, hf2⟩ => ?_
    · refine bIf_d (fun _ => ?_) fun _ => hJ _ ⟨hl1, hf1⟩
      walk_at "j"
      refine ⟨by omega, ?_⟩
      refine qLc_each (RowR many) (fun _ _ => True) trivial (by rw [range_len]; omega) (fun k d s sk yd hd _ hy => ?_) fun acc s hl ht _ => hJ _ ⟨by rw [hl, range_len], ht⟩
      unfold qb_law_table_3
      dsimp only
      walk_at "j"
      refine ⟨by omega, ?_⟩
      rw [show (many : Int).toNat = many by omega]
      refine qLc_each (fun y => ∃ b : Bool, y = .bool b) (fun _ _ => True) trivial (by rw [range_len]; omega) (fun j d s sk yd hd _ hy => ?_) fun acc s hl ht _ => ?_
      · unfold qb_law_table_4
        exact hy _ _ ⟨_, rfl⟩ trivial
      · obtain ⟨bs, rfl⟩ := bools_of ht
        rw [range_len] at hl
        exact hy _ _ ⟨bs, rfl, by simpa using hl⟩ trivial
    · walk_at "j"
      refine jn_by2 (fun (p f : List PyData) => CupOk (n + 21) p ∧ f.length = rows ∧ ∀ y ∈ f, RowR many y) (fun J hJ => ?_) fun p3 f3 ⟨hp3, hl3, hf3⟩ => ?_
      · refine bIf_d (fun _ => ?_) fun _ => hJ _ _ ⟨hp.mono (by omega), hl2, hf2⟩
        walk_at "j"
        refine cup_take_q hp (by omega) (by omega) (by omega) _ fun a xs a0 a1 hp => ?_
        refine pick_mem a0 (by omega) fun r hr => ?_
        refine cup_take_q hp (by omega) (by omega) (by omega) _ fun b xs b0 b1 hp => ?_
        obtain ⟨bs, rfl, hbs⟩ := hf2 r hr
        have hfl : lfX [.cel true xs, .dat (.int rows), .dat (.int many), .dat (.int way), .dat (.bool sign), .cel false f2, .un, .un] 5 = true := by
          simp only [lfX, (cup_atoms hp).2, lf, lfE, Bool.and_self]
        rw [hfl]
        refine neQ_ok b0 (by rw [List.length_map, hbs]; omega) ?_ (lfs_bools bs) rfl fun f' hl' hf' => hJ _ _ ⟨hp.mono (by omega), by rw [hl', hl2], fun y hy => ?_⟩
        · refine List.all_eq_true.mpr fun y hy => ?_
          obtain ⟨cs, rfl, _⟩ := hf2 y hy
          exact lfs_bools cs
        · rcases hf' y hy with z | rfl
          · exact hf2 y z
          · refine ⟨bs.set b.toNat (!sign), ?_, by rw [List.length_set, hbs]⟩
            rw [List.map_set]
      · walk_at "j"
        refine jn_by2 (fun (p f : List PyData) => CupOk (n + 22) p ∧ f.length = rows ∧ ∀ y ∈ f, RowL many y) (fun J hJ => ?_) fun p4 f4 ⟨hp4, hl4, hf4⟩ => ?_
        · have hf3' : ∀ y ∈ f3, RowL many y := fun y hy => by
            obtain ⟨bs, e, l⟩ := hf3 y hy
            exact ⟨bs, .inl e, l⟩
          refine bIf_d (fun _ => ?_) fun _ => hJ _ _ ⟨hp3.mono (by omega), hl3, hf3'⟩
          walk_at "j"
          refine ⟨by omega, ?_⟩
          refine cup_take_q hp3 (by omega) (by omega) (by omega) _ fun a xs a0 a1 hp => ?_
          refine st_in a0 (by omega) (hJ _ _ ⟨hp.mono (by omega), by rw [List.length_set, hl3], fun y hy => ?_⟩)
          rcases List.mem_or_eq_of_mem_set hy with z | rfl
          · exact hf3' y z
          · exact ⟨List.replicate many (!sign), .inr (by rw [List.map_replicate]; rfl), by simp⟩
        · walk_at "j"
          refine jn_by (fun f : List PyData => f.length = rows ∧ ∀ y ∈ f, RowL many y) (fun J hJ => ?_) fun f5 ⟨hl5, hf5⟩ => ?_
          · refine bIf_d (fun _ => ?_) fun _ => hJ _ ⟨hl4, hf4⟩
            walk_at "j"
            refine ⟨by omega, ?_⟩
            refine qLc_each (RowL many) (fun _ _ => True) trivial (by rw [range_len]; omega) (fun k d s sk yd hd _ hy => ?_) fun acc s hl ht _ => hJ _ ⟨by rw [hl, range_len], ht⟩
            unfold qb_law_table_5
            walk_at "j"
            exact pick_mem (Int.le_refl _) (by omega) fun r hr => hy _ _ (hf4 r hr) trivial
          · walk_at "j"
            refine qLc_each (fun y => ∃ bs : List Bool, y = .tuple (bs.map .bool) ∧ bs.length = many) (fun _ _ => True) trivial (by omega) (fun k d s sk yd hd _ hy => ?_) fun acc s hl ht _ => ?_
            · unfold qb_law_table_6
              obtain ⟨bs, e, l⟩ := hf5 d (List.mem_of_getElem? hd)
              rcases e with rfl | rfl
              · exact hy _ _ ⟨bs, rfl, l⟩ trivial
              · exact hy _ _ ⟨bs, rfl, l⟩ trivial
            · exact hK _ _ ⟨many, acc, rfl, by rw [hl, hl5], m0, m1, ht⟩ (hp4.mono (by omega))
def hourOf : PyData → Int
  | .tuple (.int h :: _) => h
  | _ => 0
def isFar : PyData → Bool
  | .int i => decide ((if i < 0 then -i else i) ≤ 10000)
  | _ => false
def isRow : PyData → Bool
  | .tuple [h, x, y] => isIn h 0 100000 && (isFar x && isFar y)
  | _ => false
/-- rows, each behind the one ahead -/
def rowsFrom : Int → List PyData → Bool
  | _, [] => true
  | l, r :: rs => isRow r && (decide (l < hourOf r) && rowsFrom (hourOf r) rs)
def isLog : PyData → Bool
  | .tuple xs => decide (1 ≤ xs.length) && decide (xs.length ≤ 20) && rowsFrom (-1) xs
  | _ => false
theorem isRow_inv {d : PyData} (h : isRow d = true) : ∃ h x y : Int, d = .tuple [.int h, .int x, .int y] ∧ 0 ≤ h ∧ h ≤ 100000 := by
  unfold isRow at h
  split at h
  · rename_i a b c
    simp only [Bool.and_eq_true] at h
    obtain ⟨h1, h2, h3⟩ := h
    cases a <;> simp only [isIn, Bool.and_eq_true, decide_eq_true_eq, Bool.false_eq_true] at h1
    cases b <;> simp only [isFar, Bool.false_eq_true] at h2
    cases c <;> simp only [isFar, Bool.false_eq_true] at h3
    exact ⟨_, _, _, rfl, h1.1, h1.2⟩
  · cases h
theorem rows_split : ∀ (l : Int) (xs : List PyData), l < 0 ∨ xs = [] ∨ True → rowsFrom l xs = (xs.all isRow && ((xs.head?.all fun r => decide (l < hourOf r)) && (zipD xs (xs.drop 1)).all fun d => match d with | .tuple [a, b] => decide (hourOf a < hourOf b) | _ => false))
  | _, [], _ => rfl
  | l, [r], _ => by simp [rowsFrom, zipD]
  | l, r :: r2 :: rs, _ => by
    have := rows_split (hourOf r) (r2 :: rs) (.inr (.inr trivial))
    rw [rowsFrom, this]
    simp only [List.all_cons, List.drop_succ_cons, List.drop_zero, List.head?_cons, Option.all_some, zipD]
    cases isRow r <;> cases isRow r2 <;> cases rs.all isRow <;> cases decide (l < hourOf r) <;> cases decide (hourOf r < hourOf r2) <;> rfl
theorem is_hour_q (a : PyData) (K : PyData → Prop) : q_is_hour a K = K (.bool (isIn a 0 100000)) := by
  unfold q_is_hour
  simp only [is_whole_q]
  cases a <;> simp only [isW, isIn] <;> walk_at "q"
theorem is_log_row_q (a : PyData) (K : PyData → Prop) (h : K (.bool (isRow a))) : q_is_log_row a K := by
  unfold q_is_log_row
  cases a with
  | tuple xs =>
    walk_at "q"
    by_cases hn : (xs.length : Int) = 3
    · rw [decide_eq_true hn]
      walk_at "q"
      match xs, hn, h with
      | [a, b, c], _, h =>
        walk_at "q"
        rw [is_hour_q]
        walk_at "q"
        cases e : isIn a 0 100000 with
        | false =>
          walk_at "q"
          simpa only [isRow, e, Bool.false_and] using h
        | true =>
          walk_at "q"
          simp only [cut1]
          refine qLc_map (fun d => .bool (isFar d)) (by simp) (fun d hd sk yd hy => ?_) ?_
          · unfold qb_is_log_row_1
            rw [is_whole_q]
            cases d <;> simp only [isW] <;> walk_at "q" <;> exact hy
          · walk_at "q"
            simpa only [isRow, e, Bool.true_and, List.all_cons, List.all_nil, Bool.and_true] using h
    · rw [decide_eq_false hn]
      walk_at "q"
      have e : isRow (.tuple xs) = false := by
        unfold isRow
        split
        · rename_i e
          cases e
          exact absurd rfl hn
        · rfl
      rwa [e] at h
  | dict kv => cases kv <;> exact h
  | _ => walk_at "q"; exact h
theorem is_log_q (a : PyData) (K : PyData → Prop) (h : K (.bool (isLog a))) : q_is_log a K := by
  unfold q_is_log
  cases a with
  | tuple xs =>
    walk_at "q"
    by_cases hn : decide (1 ≤ (xs.length : Int)) && decide ((xs.length : Int) ≤ 20)
    · rw [hn]
      simp only [Bool.and_eq_true, decide_eq_true_eq] at hn
      walk_at "q"
      refine qLc_map (fun d => .bool (isRow d)) (by omega) (fun d hd sk yd hy => by unfold qb_is_log_1; exact is_log_row_q d _ hy) ?_
      walk_at "q"
      have e0 : isLog (.tuple xs) = rowsFrom (-1) xs := by
        simp only [isLog, decide_eq_true (show 1 ≤ xs.length by omega), decide_eq_true (show xs.length ≤ 20 by omega), Bool.true_and]
      rw [e0, rows_split _ _ (.inl (by decide))] at h
      cases ea : xs.all isRow with
      | false =>
        walk_at "q"
        simpa only [ea, Bool.false_and] using h
      | true =>
        walk_at "q"
        have ec : DL.cutD xs (some 1) none = xs.drop 1 := by
          match xs, hn with
          | a :: l, _ => rw [cut1]; rfl
        rw [ec]
        walk_at "q"
        have hr : ∀ d ∈ xs, isRow d = true := List.all_eq_true.mp ea
        refine qLc_map (fun d => .bool (match d with | .tuple [a, b] => decide (hourOf a < hourOf b) | _ => false)) (by rw [zipD_length]; omega) (fun d hd sk yd hy => ?_) ?_
        · obtain ⟨i, hi⟩ := List.mem_iff_getElem?.mp hd
          obtain ⟨x, y, e1, e2, rfl⟩ := zipD_get hi
          obtain ⟨h1, _, _, rfl, _⟩ := isRow_inv (hr x (List.mem_of_getElem? e1))
          obtain ⟨h2, _, _, rfl, _⟩ := isRow_inv (hr y (List.mem_of_mem_drop (List.mem_of_getElem? e2)))
          unfold qb_is_log_2
          walk_at "q"
          exact hy
        · rw [q_allB]
          have eh : (xs.head?.all fun r => decide (-1 < hourOf r)) = true := by
            match xs, hr with
            | [], _ => rfl
            | a :: l, hr =>
              obtain ⟨h1, _, _, rfl, h0, _⟩ := isRow_inv (hr a List.mem_cons_self)
              simp only [List.head?_cons, Option.all_some, hourOf]
              exact decide_eq_true (by omega)
          rw [eh] at h
          simpa only [ea, Bool.true_and] using h
    · rw [Bool.not_eq_true] at hn
      rw [hn]
      walk_at "q"
      have e0 : isLog (.tuple xs) = false := by
        have : (decide (1 ≤ xs.length) && decide (xs.length ≤ 20)) = false := by
          rw [← hn]
          congr 1 <;> exact decide_eq_decide.mpr (by omega)
        simp only [isLog, this, Bool.false_and]
      rwa [e0] at h
  | dict kv => cases kv <;> exact h
  | _ => walk_at "q"; exact h
structure Rw where
  h : Int
  x : Int
  y : Int
def rowD (r : Rw) : PyData := .tuple [.int r.h, .int r.x, .int r.y]
structure RowOk (r : Rw) : Prop where
  h0 : 0 ≤ r.h
  h1 : r.h ≤ 100000
  x0 : -10000 ≤ r.x
  x1 : r.x ≤ 10000
  y0 : -10000 ≤ r.y
  y1 : r.y ≤ 10000
def Rises (rs : List Rw) : Prop := rs.Pairwise fun a b => a.h < b.h
structure LogOk (rs : List Rw) : Prop where
  n0 : 1 ≤ rs.length
  n1 : rs.length ≤ 20
  ok : ∀ r ∈ rs, RowOk r
  up : Rises rs
abbrev logD (rs : List Rw) : PyData := .tuple (rs.map rowD)
theorem isFar_iff {i : Int} : isFar (.int i) = true ↔ -10000 ≤ i ∧ i ≤ 10000 := by
  unfold isFar
  rw [decide_eq_true_eq]
  split <;> omega
theorem isRow_iff {r : Rw} : isRow (rowD r) = true ↔ RowOk r := by
  unfold isRow rowD
  simp only [Bool.and_eq_true, isFar_iff, isIn, decide_eq_true_eq]
  exact ⟨fun ⟨⟨h1, h2⟩, ⟨h3, h4⟩, h5, h6⟩ => ⟨h1, h2, h3, h4, h5, h6⟩, fun h => ⟨⟨h.h0, h.h1⟩, ⟨h.x0, h.x1⟩, h.y0, h.y1⟩⟩
theorem rows_of : ∀ (rs : List Rw) (l : Int), (∀ r ∈ rs, RowOk r ∧ l < r.h) → Rises rs → rowsFrom l (rs.map rowD) = true
  | [], _, _, _ => rfl
  | r :: rs, l, h, u => by
    obtain ⟨u1, u2⟩ := List.pairwise_cons.mp u
    rw [List.map_cons, rowsFrom, isRow_iff.mpr (h r (by simp)).1]
    have e : hourOf (rowD r) = r.h := rfl
    rw [e, decide_eq_true (h r (by simp)).2, rows_of rs r.h (fun q hq => ⟨(h q (by simp [hq])).1, u1 q hq⟩) u2]
    rfl
theorem LogOk.is {rs : List Rw} (h : LogOk rs) : isLog (logD rs) = true := by
  have e : isLog (logD rs) = (decide (1 ≤ (rs.map rowD).length) && decide ((rs.map rowD).length ≤ 20) && rowsFrom (-1) (rs.map rowD)) := rfl
  rw [e, List.length_map, decide_eq_true h.n0, decide_eq_true h.n1, rows_of rs (-1) (fun r hr => ⟨h.ok r hr, by have := (h.ok r hr).h0; omega⟩) h.up]
  rfl
theorem row_get {rs : List Rw} {i : Nat} {d : PyData} (h : (rs.map rowD)[i]? = some d) : ∃ r, rs[i]? = some r ∧ d = rowD r := by
  rw [List.getElem?_map] at h
  cases e : rs[i]? with
  | none => rw [e] at h; cases h
  | some r => rw [e] at h; cases h; exact ⟨r, rfl, rfl⟩
theorem Rises.lt {rs : List Rw} (u : Rises rs) {i j : Nat} {a b : Rw} (ha : rs[i]? = some a) (hb : rs[j]? = some b) (h : i < j) : a.h < b.h := by
  obtain ⟨h1, rfl⟩ := List.getElem?_eq_some_iff.mp ha
  obtain ⟨h2, rfl⟩ := List.getElem?_eq_some_iff.mp hb
  exact List.pairwise_iff_getElem.mp u i j h1 h2 h
theorem Rises.le {rs : List Rw} (u : Rises rs) {i j : Nat} {a b : Rw} (ha : rs[i]? = some a) (hb : rs[j]? = some b) (h : i ≤ j) : a.h ≤ b.h := by
  rcases Nat.lt_or_eq_of_le h with h | rfl
  · exact Int.le_of_lt (u.lt ha hb h)
  · rw [ha] at hb
    cases hb
    exact Int.le_refl _
theorem rises_of {rs : List Rw} (h : ∀ (i j : Nat) (a b : Rw), rs[i]? = some a → rs[j]? = some b → i < j → a.h < b.h) : Rises rs :=
  List.pairwise_iff_getElem.mpr fun i j hi hj e => h i j _ _ (by simp [hi]) (by simp [hj]) e
theorem Rises.push {rs : List Rw} (u : Rises rs) {r : Rw} (h : ∀ q ∈ rs, q.h < r.h) : Rises (rs ++ [r]) :=
  List.pairwise_append.mpr ⟨u, List.pairwise_singleton _ _, fun a ha b hb => by rw [List.mem_singleton.mp hb]; exact h a ha⟩
/-- the first row, the last row -/
theorem LogOk.first {rs : List Rw} (h : 1 ≤ rs.length) : ∃ r, rs[0]? = some r ∧ r ∈ rs ∧ ∀ P : PyData → Prop, pick (rs.map rowD) 0 P = P (.tuple [.int r.h, .int r.x, .int r.y]) := by
  cases rs with
  | nil => simp at h
  | cons r rs => exact ⟨r, rfl, by simp, fun P => at0⟩
theorem LogOk.last {rs : List Rw} (h : 1 ≤ rs.length) : ∃ r, rs[rs.length - 1]? = some r ∧ r ∈ rs ∧ ∀ P : PyData → Prop, pick (rs.map rowD) (-1) P = P (.tuple [.int r.h, .int r.x, .int r.y]) := by
  have hne : rs ≠ [] := fun e => by rw [e] at h; simp at h
  have e := List.dropLast_concat_getLast hne
  refine ⟨rs.getLast hne, ?_, List.getLast_mem hne, fun P => ?_⟩
  · rw [List.getLast_eq_getElem]
    simp
  · have e2 : rs.map rowD = rs.dropLast.map rowD ++ [rowD (rs.getLast hne)] := by
      rw [← List.map_singleton, ← List.map_append, e]
    rw [e2]
    exact atLast
theorem pick_idx {xs : List PyData} {k : Int} {P : PyData → Prop} (h0 : 0 ≤ k) (h1 : k < xs.length) (h : ∀ (j : Nat) d, xs[j]? = some d → k = j → P d) : pick xs k P := by
  obtain ⟨n, rfl⟩ := Int.eq_ofNat_of_zero_le h0
  have hn : n < xs.length := by omega
  refine pick_at (d := xs[n]) (by simp [hn]) (h n _ (by simp [hn]) rfl)
def isBooks : PyData → Bool
  | .tuple xs => decide (1 ≤ xs.length) && decide (xs.length ≤ 4) && xs.all isLog
  | _ => false
theorem isBooks_t {xs : List PyData} : isBooks (.tuple xs) = (decide (1 ≤ xs.length) && decide (xs.length ≤ 4) && xs.all isLog) := rfl
theorem are_logbooks_q (d : PyData) (K : PyData → Prop) (h : K (.bool (isBooks d))) : q_are_logbooks d K := by
  unfold q_are_logbooks
  cases e : isiB d "tuple" with
  | false =>
    have : isBooks d = false := by
      cases d with
      | tuple xs => cases e
      | _ => rfl
    rw [this] at h
    walk_at "q"
    exact h
  | true =>
    obtain ⟨xs, rfl⟩ := isi_tup e
    walk_at "q"
    refine bIf_of (fun hc => ?_) fun hc => ?_
    · have : isBooks (.tuple xs) = false := by
        rw [isBooks_t]
        simp only [Bool.not_eq_true', Bool.and_eq_false_iff, decide_eq_false_iff_not] at hc ⊢
        left
        omega
      rwa [this] at h
    · simp only [Bool.not_eq_false', Bool.and_eq_true, decide_eq_true_eq] at hc
      refine qLc_map (fun d => .bool (isLog d)) (by omega) (fun d hd sk yd hy => by unfold qb_are_logbooks_1; exact is_log_q d _ hy) ?_
      walk_at "q"
      have : isBooks (.tuple xs) = xs.all isLog := by
        rw [isBooks_t, decide_eq_true (show 1 ≤ xs.length by omega), decide_eq_true (show xs.length ≤ 4 by omega)]
        rfl
      rwa [this] at h
def rowD1 (bs : List Bool) : PyData := .tuple (bs.map .bool)
def tabD (bss : List (List Bool)) : PyData := .tuple (bss.map rowD1)
def plD (r c : Nat) : PyData := .tuple [.int (r : Int), .int (c : Int)]
def rowPl (w : Bool) (r : Nat) : Nat → List Bool → List PyData
  | _, [] => []
  | c, b :: bs => if b = w then plD r c :: rowPl w r (c + 1) bs else rowPl w r (c + 1) bs
def tabPl (w : Bool) : Nat → List (List Bool) → List PyData
  | _, [] => []
  | r, bs :: bss => rowPl w r 0 bs ++ tabPl w (r + 1) bss
/-- one to four rows of one to four truths, all of a length -/
def TbOk (many : Nat) (bss : List (List Bool)) : Prop := 1 ≤ bss.length ∧ bss.length ≤ 4 ∧ 1 ≤ many ∧ many ≤ 4 ∧ ∀ bs ∈ bss, bs.length = many
theorem TabOk.tb {rows : Nat} {d : PyData} (h : TabOk rows d) (h0 : 1 ≤ rows) (h1 : rows ≤ 4) : ∃ many bss, d = tabD bss ∧ TbOk many bss ∧ bss.length = rows := by
  obtain ⟨many, rs, rfl, hl, m0, m1, hr⟩ := h
  have : ∀ rs : List PyData, (∀ r ∈ rs, ∃ bs : List Bool, r = .tuple (bs.map .bool) ∧ bs.length = many) → ∃ bss : List (List Bool), rs = bss.map rowD1 ∧ ∀ bs ∈ bss, bs.length = many := by
    intro rs
    induction rs with
    | nil => intro _; exact ⟨[], rfl, by simp⟩
    | cons a b ih =>
      intro h
      obtain ⟨bs, rfl, l⟩ := h a (List.mem_cons_self ..)
      obtain ⟨bss, rfl, q⟩ := ih fun r hr => h r (List.mem_cons_of_mem _ hr)
      refine ⟨bs :: bss, rfl, fun x hx => ?_⟩
      rcases List.mem_cons.mp hx with rfl | hx
      · exact l
      · exact q x hx
  obtain ⟨bss, rfl, q⟩ := this rs hr
  rw [List.length_map] at hl
  exact ⟨many, bss, rfl, ⟨by omega, by omega, m0, m1, q⟩, hl⟩
theorem all_boo : ∀ bs : List Bool, (bs.map PyData.bool).all isBoo = true
  | [] => rfl
  | b :: bs => by rw [List.map_cons, List.all_cons, all_boo bs]; rfl
theorem TbOk.tab {many : Nat} {bss : List (List Bool)} (h : TbOk many bss) : isTab (tabD bss) = true := by
  obtain ⟨h0, h1, m0, m1, hr⟩ := h
  unfold tabD
  rw [isTab_t, List.length_map, decide_eq_true h0, decide_eq_true h1]
  simp only [Bool.true_and, Bool.and_eq_true, List.all_eq_true]
  refine ⟨fun r hm => ?_, fun r hm => ?_⟩
  · obtain ⟨bs, hb, rfl⟩ := List.mem_map.mp hm
    have l := hr bs hb
    unfold rowD1
    rw [isTRow_t, all_boo, List.length_map, decide_eq_true (show 1 ≤ bs.length by omega), decide_eq_true (show bs.length ≤ 4 by omega)]
    rfl
  obtain ⟨bs, hb, rfl⟩ := List.mem_map.mp hm
  have l := hr bs hb
  obtain ⟨b0, br, rfl⟩ : ∃ b0 br, bss = b0 :: br := by
    cases bss with
    | nil => simp at h0
    | cons a b => exact ⟨a, b, rfl⟩
  have l2 := hr b0 (List.mem_cons_self ..)
  rw [decide_eq_true_eq]
  show (bs.map PyData.bool).length = (b0.map PyData.bool).length
  rw [List.length_map, List.length_map, l, l2]
def headK (xs : List PyData) (k : PyData → Prop) (n : Prop) : Prop := match xs with
  | [] => n
  | d :: _ => k d
theorem least_row_q {K : PyData → Prop} {w : Bool} {r : Nat} {F : Unit → Prop} : ∀ {bs : List Bool} {c : Nat}, headK (rowPl w r c bs) K (F ()) → qFor (qb_least_place_2 K) (.bool w, .int (r : Int)) (enumD c (bs.map .bool)) () F
  | [], c, h => h
  | b :: bs, c, h => by
    show qb_least_place_2 K (.tuple [.int (c : Int), .bool b]) (.bool w, .int (r : Int)) () (same _ fun s => qFor (qb_least_place_2 K) _ (enumD (c + 1) (bs.map .bool)) s F) (same _ F)
    refine (?_ : ∀ N : Unit → Prop, (headK (rowPl w r (c + 1) bs) K (F ()) → N ()) → qb_least_place_2 K (.tuple [.int (c : Int), .bool b]) (.bool w, .int (r : Int)) () (same _ N) (same _ F)) _ (least_row_q (K := K) (w := w) (r := r) (F := F) (bs := bs) (c := c + 1))
    intro N rest
    unfold qb_least_place_2
    walk_at "q"
    rw [rowPl] at h
    by_cases e : b = w
    · rw [if_pos e] at h
      subst e
      have : decide (b = b) = true := decide_eq_true rfl
      first | rw [this] | skip
      cases b <;> exact h
    · rw [if_neg e] at h
      cases b <;> cases w <;> first | exact absurd rfl e | exact rest h
theorem least_rows_q {K : PyData → Prop} {w : Bool} {F : Unit → Prop} : ∀ {bss : List (List Bool)} {r : Nat}, headK (tabPl w r bss) K (F ()) → qFor (qb_least_place_1 K) (.bool w) (enumD r (bss.map rowD1)) () F
  | [], r, h => h
  | bs :: bss, r, h => by
    show qb_least_place_1 K (.tuple [.int (r : Int), rowD1 bs]) (.bool w) () (same _ fun s => qFor (qb_least_place_1 K) _ (enumD (r + 1) (bss.map rowD1)) s F) (same _ F)
    refine (?_ : ∀ N : Unit → Prop, (headK (tabPl w (r + 1) bss) K (F ()) → N ()) → qb_least_place_1 K (.tuple [.int (r : Int), rowD1 bs]) (.bool w) () (same _ N) (same _ F)) _ (least_rows_q (K := K) (w := w) (F := F) (bss := bss) (r := r + 1))
    intro N rest
    unfold qb_least_place_1 rowD1
    walk_at "q"
    refine least_row_q ?_
    rw [tabPl] at h
    cases e : rowPl w r 0 bs with
    | nil =>
      rw [e, List.nil_append] at h
      exact rest h
    | cons a b =>
      rw [e] at h
      exact h
theorem least_place_q (bss : List (List Bool)) (w : Bool) (K : PyData → Prop) (h : headK (tabPl w 0 bss) K (K .none)) : q_least_place (tabD bss) (.bool w) K := by
  unfold q_least_place tabD
  walk_at "q"
  exact least_rows_q h
/-- a place by parts: x and y over h -/
def spotF : List Rw → Int → Rw
  | [], _ => ⟨1, 0, 0⟩
  | [a], _ => ⟨1, a.x, a.y⟩
  | a :: c :: rs, t => if t = a.h then ⟨1, a.x, a.y⟩ else if t < c.h then ⟨c.h - a.h, a.x * (c.h - a.h) + (c.x - a.x) * (t - a.h), a.y * (c.h - a.h) + (c.y - a.y) * (t - a.h)⟩ else spotF (c :: rs) t
theorem spot_row {t : Int} {r : Rw} (e : r.h = t) : ∀ {rs : List Rw} {i : Nat}, Rises rs → rs[i]? = some r → spotF rs t = ⟨1, r.x, r.y⟩
  | [], _, _, h => by simp at h
  | [a], i, _, h => by
    cases i with
    | zero => simp at h; subst h; rfl
    | succ i => simp at h
  | a :: c :: rs, i, u, h => by
    cases i with
    | zero =>
      simp at h
      subst h
      rw [spotF, if_pos e.symm]
    | succ i =>
      have u2 : Rises (c :: rs) := (List.pairwise_cons.mp u).2
      have h2 : (c :: rs)[i]? = some r := by simpa using h
      have l1 := u.lt (i := 0) (j := i + 1) rfl h (by omega)
      have l2 := u2.le (i := 0) (j := i) rfl h2 (by omega)
      rw [spotF, if_neg (by omega), if_neg (by omega)]
      exact spot_row e u2 h2
theorem spot_mid {t : Int} {a c : Rw} (e1 : a.h < t) (e2 : t < c.h) : ∀ {rs : List Rw} {i : Nat}, Rises rs → rs[i]? = some a → rs[i + 1]? = some c →
    spotF rs t = ⟨c.h - a.h, a.x * (c.h - a.h) + (c.x - a.x) * (t - a.h), a.y * (c.h - a.h) + (c.y - a.y) * (t - a.h)⟩
  | [], _, _, h, _ => by simp at h
  | [a], i, _, h, h' => by simp at h'
  | r :: q :: rs, i, u, h, h' => by
    cases i with
    | zero =>
      simp at h h'
      subst h
      subst h'
      rw [spotF, if_neg (by omega), if_pos e2]
    | succ i =>
      have u2 : Rises (q :: rs) := (List.pairwise_cons.mp u).2
      have h2 : (q :: rs)[i]? = some a := by simpa using h
      have h3 : (q :: rs)[i + 1]? = some c := by simpa using h'
      have l1 := u.lt (i := 0) (j := i + 1) rfl h (by omega)
      have l2 := u2.le (i := 0) (j := i) rfl h2 (by omega)
      rw [spotF, if_neg (by omega), if_neg (by omega)]
      exact spot_mid e1 e2 u2 h2 h3
def gapF (a b : List Rw) (t : Int) : Rw := ⟨(spotF a t).h * (spotF b t).h, (spotF a t).x * (spotF b t).h - (spotF b t).x * (spotF a t).h, (spotF a t).y * (spotF b t).h - (spotF b t).y * (spotF a t).h⟩
/-- no farther than M at this moment -/
def NearAt (M : Int) (g : Rw) : Prop := g.x * g.x + g.y * g.y ≤ (M * g.h) * (M * g.h)
/-- the middle of a straight way is no farther than M -/
def NearOn (M x y u v m : Int) : Prop := x * (u - x) + y * (v - y) < 0 ∧ 0 < x * (u - x) + y * (v - y) + ((u - x) * (u - x) + (v - y) * (v - y)) ∧
  (x * x + y * y) * ((u - x) * (u - x) + (v - y) * (v - y)) - (x * (u - x) + y * (v - y)) * (x * (u - x) + y * (v - y)) ≤ m * ((u - x) * (u - x) + (v - y) * (v - y))
def NearMid (M : Int) (g k : Rw) : Prop := NearOn M (g.x * k.h) (g.y * k.h) (k.x * g.h) (k.y * g.h) ((M * g.h * k.h) * (M * g.h * k.h))
def Near (M : Int) (g : Int → Rw) (ms : List Int) : Prop := (∃ m ∈ ms, NearAt M (g m)) ∨ ∃ (j : Nat) (c d : Int), ms[j]? = some c ∧ ms[j + 1]? = some d ∧ NearMid M (g c) (g d)
theorem sq0 (a : Int) : 0 ≤ a * a := by
  rcases Int.le_total 0 a with h | h
  · exact Int.mul_nonneg h h
  · exact Int.mul_nonneg_of_nonpos_of_nonpos h h
theorem le_scale {a b c : Int} (h : 0 < c) : c * a ≤ c * b ↔ a ≤ b := ⟨fun e => Int.le_of_mul_le_mul_left e h, fun e => Int.mul_le_mul_of_nonneg_left e (Int.le_of_lt h)⟩
theorem lt_scale {a b c : Int} (h : 0 < c) : c * a < c * b ↔ a < b := ⟨fun e => Int.lt_of_mul_lt_mul_left e (Int.le_of_lt h), fun e => Int.mul_lt_mul_of_pos_left e h⟩
/-- the moment's test over a further bottom -/
theorem nearAt_over {M : Int} {g : Rw} {k : Int} (hk : 0 < k) : (g.x * k) * (g.x * k) + (g.y * k) * (g.y * k) ≤ (M * g.h * k) * (M * g.h * k) ↔ NearAt M g := by
  unfold NearAt
  have e1 : (g.x * k) * (g.x * k) + (g.y * k) * (g.y * k) = (k * k) * (g.x * g.x + g.y * g.y) := by grind
  have e2 : (M * g.h * k) * (M * g.h * k) = (k * k) * ((M * g.h) * (M * g.h)) := by grind
  rw [e1, e2]
  exact le_scale (Int.mul_pos hk hk)
theorem nearAt_scale {M : Int} {g : Rw} {k : Int} (hk : 0 < k) : NearAt M ⟨k * g.h, k * g.x, k * g.y⟩ ↔ NearAt M g := by
  rw [← nearAt_over (k := k) (g := g) hk]
  unfold NearAt
  have e1 : (k * g.x) * (k * g.x) + (k * g.y) * (k * g.y) = (g.x * k) * (g.x * k) + (g.y * k) * (g.y * k) := by grind
  have e2 : (M * (k * g.h)) * (M * (k * g.h)) = (M * g.h * k) * (M * g.h * k) := by grind
  show (k * g.x) * (k * g.x) + (k * g.y) * (k * g.y) ≤ (M * (k * g.h)) * (M * (k * g.h)) ↔ _
  rw [e1, e2]
theorem nearOn_scale {M x y u v m c : Int} (hc : 0 < c) : NearOn M (c * x) (c * y) (c * u) (c * v) (c * c * m) ↔ NearOn M x y u v m := by
  unfold NearOn
  have h2 := Int.mul_pos hc hc
  have e1 : (c * x) * (c * u - c * x) + (c * y) * (c * v - c * y) = (c * c) * (x * (u - x) + y * (v - y)) := by grind
  have e2 : (c * u - c * x) * (c * u - c * x) + (c * v - c * y) * (c * v - c * y) = (c * c) * ((u - x) * (u - x) + (v - y) * (v - y)) := by grind
  have e3 : (c * x) * (c * x) + (c * y) * (c * y) = (c * c) * (x * x + y * y) := by grind
  rw [e1, e2, e3]
  generalize x * (u - x) + y * (v - y) = al
  generalize (u - x) * (u - x) + (v - y) * (v - y) = sw
  generalize x * x + y * y = a
  generalize c * c = k at h2 ⊢
  have f1 : k * al < 0 ↔ al < 0 := by rw [← lt_scale (a := al) (b := 0) h2, Int.mul_zero]
  have f2 : 0 < k * al + k * sw ↔ 0 < al + sw := by rw [← Int.mul_add, ← lt_scale (a := 0) (b := al + sw) h2, Int.mul_zero]
  have f3 : k * a * (k * sw) - k * al * (k * al) ≤ k * m * (k * sw) ↔ a * sw - al * al ≤ m * sw := by
    have g1 : k * a * (k * sw) - k * al * (k * al) = (k * k) * (a * sw - al * al) := by grind
    have g2 : k * m * (k * sw) = (k * k) * (m * sw) := by grind
    rw [g1, g2]
    exact le_scale (Int.mul_pos h2 h2)
  rw [f1, f2, f3]
theorem nearMid_scale {M : Int} {g k : Rw} {c d : Int} (hc : 0 < c) (hd : 0 < d) : NearMid M ⟨c * g.h, c * g.x, c * g.y⟩ ⟨d * k.h, d * k.x, d * k.y⟩ ↔ NearMid M g k := by
  unfold NearMid
  rw [← nearOn_scale (M := M) (x := g.x * k.h) (Int.mul_pos hc hd)]
  show NearOn M (c * g.x * (d * k.h)) (c * g.y * (d * k.h)) (d * k.x * (c * g.h)) (d * k.y * (c * g.h)) ((M * (c * g.h) * (d * k.h)) * (M * (c * g.h) * (d * k.h))) ↔ _
  have e1 : c * g.x * (d * k.h) = c * d * (g.x * k.h) := by grind
  have e2 : c * g.y * (d * k.h) = c * d * (g.y * k.h) := by grind
  have e3 : d * k.x * (c * g.h) = c * d * (k.x * g.h) := by grind
  have e4 : d * k.y * (c * g.h) = c * d * (k.y * g.h) := by grind
  have e5 : (M * (c * g.h) * (d * k.h)) * (M * (c * g.h) * (d * k.h)) = c * d * (c * d) * ((M * g.h * k.h) * (M * g.h * k.h)) := by grind
  rw [e1, e2, e3, e4, e5]
/-- the program's three cases: the start -/
theorem near_start {M x y u v m : Int} (h : 0 ≤ x * (u - x) + y * (v - y)) : x * x + y * y ≤ m ↔ (x * x + y * y ≤ m ∨ u * u + v * v ≤ m ∨ NearOn M x y u v m) := by
  refine ⟨.inl, fun e => ?_⟩
  rcases e with e | e | e
  · exact e
  · have e1 : u * u + v * v = x * x + y * y + 2 * (x * (u - x) + y * (v - y)) + ((u - x) * (u - x) + (v - y) * (v - y)) := by grind
    have := sq0 (u - x)
    have := sq0 (v - y)
    omega
  · have := e.1
    omega
theorem near_end {M x y u v m : Int} (h : x * (u - x) + y * (v - y) + ((u - x) * (u - x) + (v - y) * (v - y)) ≤ 0) : u * u + v * v ≤ m ↔ (x * x + y * y ≤ m ∨ u * u + v * v ≤ m ∨ NearOn M x y u v m) := by
  refine ⟨fun e => .inr (.inl e), fun e => ?_⟩
  rcases e with e | e | e
  · have e1 : x * x + y * y = u * u + v * v - 2 * (x * (u - x) + y * (v - y) + ((u - x) * (u - x) + (v - y) * (v - y))) + ((u - x) * (u - x) + (v - y) * (v - y)) := by grind
    have := sq0 (u - x)
    have := sq0 (v - y)
    omega
  · exact e
  · have := e.2.1
    omega
theorem near_way {M x y u v m : Int} (h1 : x * (u - x) + y * (v - y) < 0) (h2 : 0 < x * (u - x) + y * (v - y) + ((u - x) * (u - x) + (v - y) * (v - y))) :
    (x * (v - y) - y * (u - x)) * (x * (v - y) - y * (u - x)) ≤ m * ((u - x) * (u - x) + (v - y) * (v - y)) ↔ (x * x + y * y ≤ m ∨ u * u + v * v ≤ m ∨ NearOn M x y u v m) := by
  have e0 : (x * (v - y) - y * (u - x)) * (x * (v - y) - y * (u - x)) = (x * x + y * y) * ((u - x) * (u - x) + (v - y) * (v - y)) - (x * (u - x) + y * (v - y)) * (x * (u - x) + y * (v - y)) := by grind
  have s0 : 0 ≤ (u - x) * (u - x) + (v - y) * (v - y) := by
    have := sq0 (u - x)
    have := sq0 (v - y)
    omega
  rw [e0]
  refine ⟨fun e => .inr (.inr ⟨h1, h2, e⟩), fun e => ?_⟩
  rcases e with e | e | e
  · have := Int.mul_le_mul_of_nonneg_right e s0
    have := sq0 (x * (u - x) + y * (v - y))
    omega
  · have e1 : (x * x + y * y) * ((u - x) * (u - x) + (v - y) * (v - y)) - (x * (u - x) + y * (v - y)) * (x * (u - x) + y * (v - y)) = (u * u + v * v) * ((u - x) * (u - x) + (v - y) * (v - y)) - (x * (u - x) + y * (v - y) + ((u - x) * (u - x) + (v - y) * (v - y))) * (x * (u - x) + y * (v - y) + ((u - x) * (u - x) + (v - y) * (v - y))) := by grind
    have := Int.mul_le_mul_of_nonneg_right e s0
    have := sq0 (x * (u - x) + y * (v - y) + ((u - x) * (u - x) + (v - y) * (v - y)))
    omega
  · exact e.2.2
/-- a piece: an end is near, or its middle is -/
def Piece (M : Int) (g k : Rw) : Prop := NearAt M g ∨ NearAt M k ∨ NearMid M g k
theorem piece_iff {M : Int} {g k : Rw} (hg : 0 < g.h) (hk : 0 < k.h) : Piece M g k ↔ ((g.x * k.h) * (g.x * k.h) + (g.y * k.h) * (g.y * k.h) ≤ (M * g.h * k.h) * (M * g.h * k.h) ∨ (k.x * g.h) * (k.x * g.h) + (k.y * g.h) * (k.y * g.h) ≤ (M * g.h * k.h) * (M * g.h * k.h) ∨ NearOn M (g.x * k.h) (g.y * k.h) (k.x * g.h) (k.y * g.h) ((M * g.h * k.h) * (M * g.h * k.h))) := by
  unfold Piece NearMid
  rw [nearAt_over hk]
  have e : M * g.h * k.h = M * k.h * g.h := by grind
  have e2 := nearAt_over (M := M) (g := k) hg
  rw [← e] at e2
  rw [e2]
theorem piece_self {M : Int} {g : Rw} : Piece M g g ↔ NearAt M g := by
  refine ⟨fun e => ?_, .inl⟩
  rcases e with e | e | e
  · exact e
  · exact e
  · have := e.1
    have z : g.x * g.h * (g.x * g.h - g.x * g.h) + g.y * g.h * (g.y * g.h - g.y * g.h) = 0 := by grind
    omega
theorem near_of_pieces {M : Int} {g : Int → Rw} {m : Int} {ms : List Int} {P : Prop} (h : P ↔ (Piece M (g m) (g m) ∨ ∃ (j : Nat) (c d : Int), (m :: ms)[j]? = some c ∧ (m :: ms)[j + 1]? = some d ∧ Piece M (g c) (g d))) : P ↔ Near M g (m :: ms) := by
  rw [h, piece_self]
  constructor
  · rintro (e | ⟨j, c, d, e1, e2, e3⟩)
    · exact .inl ⟨m, by simp, e⟩
    · rcases e3 with e | e | e
      · exact .inl ⟨c, List.mem_of_getElem? e1, e⟩
      · exact .inl ⟨d, List.mem_of_getElem? e2, e⟩
      · exact .inr ⟨j, c, d, e1, e2, e⟩
  · rintro (⟨k, hk, e⟩ | ⟨j, c, d, e1, e2, e3⟩)
    · obtain ⟨i, hi⟩ := List.mem_iff_getElem?.mp hk
      cases i with
      | zero =>
        simp at hi
        subst hi
        exact .inl e
      | succ i =>
        have hl : i + 1 < (m :: ms).length := (List.getElem?_eq_some_iff.mp hi).1
        exact .inr ⟨i, (m :: ms)[i], k, by rw [List.getElem?_eq_getElem (by omega)], hi, .inr (.inl e)⟩
    · exact .inr ⟨j, c, d, e1, e2, .inr (.inr e3)⟩
def Bd (n : Nat) (i : Int) : Prop := i.natAbs ≤ 10 ^ n
theorem Bd.mul {n m : Nat} {a b : Int} (h1 : Bd n a) (h2 : Bd m b) : Bd (n + m) (a * b) := by
  unfold Bd at *
  rw [Int.natAbs_mul, Nat.pow_add]
  exact Nat.mul_le_mul h1 h2
theorem Bd.mono {n m : Nat} {a : Int} (h1 : Bd n a) (h : n ≤ m) : Bd m a := Nat.le_trans h1 (Nat.pow_le_pow_right (by decide) h)
theorem Bd.add {n m : Nat} {a b : Int} (h1 : Bd n a) (h2 : Bd m b) : Bd (max n m + 1) (a + b) := by
  have g1 := h1.mono (Nat.le_max_left n m)
  have g2 := h2.mono (Nat.le_max_right n m)
  unfold Bd at *
  have : (a + b).natAbs ≤ a.natAbs + b.natAbs := Int.natAbs_add_le a b
  rw [Nat.pow_succ]
  omega
theorem Bd.sub {n m : Nat} {a b : Int} (h1 : Bd n a) (h2 : Bd m b) : Bd (max n m + 1) (a - b) := by
  rw [Int.sub_eq_add_neg]
  refine Bd.add h1 ?_
  unfold Bd at *
  rwa [Int.natAbs_neg]
theorem sz_bd {n : Nat} {a : Int} (h : Bd n a) (hn : n ≤ 900) : Sz a := by
  unfold Sz
  refine Nat.lt_of_le_of_lt (h.mono hn) ?_
  exact Nat.pow_lt_pow_right (by decide) (by decide)
theorem bd5 {a : Int} (h0 : -(100000) ≤ a) (h1 : a ≤ 100000) : Bd 5 a := by
  unfold Bd
  have : (10 : Nat) ^ 5 = 100000 := by decide
  omega
theorem bd1 : Bd 1 1 := by unfold Bd; decide
local macro_rules | `(tactic| walk_at "bd") => `(tactic| first | assumption | exact bd1 | (apply Bd.mul <;> walk_at "bd") | (apply Bd.add <;> walk_at "bd") | (apply Bd.sub <;> walk_at "bd"))
local macro_rules | `(tactic| walk_at "bz") => `(tactic| first | assumption | (apply sz_bd; (· walk_at "bd"); decide) | (refine And.intro ?_ ?_ <;> walk_at "bz"))
local macro_rules | `(tactic| walk_at "bs") => `(tactic| (walk_at "q"; repeat ((with_reducible refine And.intro ?_ ?_); (· walk_at "bz"); walk_at "q")))
structure TriOk (n : Nat) (m : Nat) (g : Rw) : Prop where
  h0 : 0 < g.h
  h : Bd n g.h
  x : Bd m g.x
  y : Bd m g.y
abbrev tD (r : Rw) : PyData := .tuple [.int r.x, .int r.y, .int r.h]
theorem mix_ok {a c : Rw} {t : Int} (ha : RowOk a) (hc : RowOk c) (h : a.h < c.h) (t0 : 0 ≤ t) (t1 : t ≤ 100000) : TriOk 5 11 ⟨c.h - a.h, a.x * (c.h - a.h) + (c.x - a.x) * (t - a.h), a.y * (c.h - a.h) + (c.y - a.y) * (t - a.h)⟩ := by
  obtain ⟨a1, a2, a3, a4, a5, a6⟩ := ha
  obtain ⟨c1, c2, c3, c4, c5, c6⟩ := hc
  have b1 : Bd 5 (c.h - a.h) := bd5 (by omega) (by omega)
  have b2 : Bd 5 (t - a.h) := bd5 (by omega) (by omega)
  have b3 : Bd 5 a.x := bd5 (by omega) (by omega)
  have b4 : Bd 5 a.y := bd5 (by omega) (by omega)
  have b5 : Bd 5 (c.x - a.x) := bd5 (by omega) (by omega)
  have b6 : Bd 5 (c.y - a.y) := bd5 (by omega) (by omega)
  exact ⟨by show 0 < c.h - a.h; omega, b1, Bd.add (b3.mul b1) (b5.mul b2), Bd.add (b4.mul b1) (b6.mul b2)⟩
theorem one_ok {a : Rw} (ha : RowOk a) : TriOk 5 11 ⟨1, a.x, a.y⟩ := by
  obtain ⟨a1, a2, a3, a4, a5, a6⟩ := ha
  exact ⟨by show (0 : Int) < 1; decide, bd1.mono (by decide), (bd5 (by show -100000 ≤ a.x; omega) (by show a.x ≤ 100000; omega)).mono (by decide), (bd5 (by show -100000 ≤ a.y; omega) (by show a.y ≤ 100000; omega)).mono (by decide)⟩
theorem gap_of {p q : Rw} (hp : TriOk 5 11 p) (hq : TriOk 5 11 q) : TriOk 10 17 ⟨p.h * q.h, p.x * q.h - q.x * p.h, p.y * q.h - q.y * p.h⟩ :=
  ⟨Int.mul_pos hp.h0 hq.h0, hp.h.mul hq.h, (hp.x.mul hq.h).sub (hq.x.mul hp.h), (hp.y.mul hq.h).sub (hq.y.mul hp.h)⟩
/-- an hour that a log reaches -/
structure Within (rs : List Rw) (t : Int) : Prop where
  lo : ∀ a, rs[0]? = some a → a.h ≤ t
  hi : ∀ c, rs[rs.length - 1]? = some c → t ≤ c.h
theorem place_q {rs : List Rw} (hr : LogOk rs) {t : Int} (hw : Within rs t) (t0 : 0 ≤ t) (t1 : t ≤ 100000) (K : PyData → Prop)
    (h : ∀ (k : Int) (g : Rw), 0 < k → g = ⟨k * (spotF rs t).h, k * (spotF rs t).x, k * (spotF rs t).y⟩ → TriOk 5 11 g → K (tD g)) : q_whole_place (logD rs) (.int t) K := by
  unfold q_whole_place
  walk_at "q"
  have h1 := hr.n1
  obtain ⟨c, ec, mc, _⟩ := LogOk.last hr.n0
  obtain ⟨a, ea, ma, pa⟩ := LogOk.first hr.n0
  have hc := hw.hi c ec
  have ha := hw.lo a ea
  have ecut : DL.cutD (rs.map rowD) (some 1) none = (rs.drop 1).map rowD := by
    cases rs with
    | nil => simp at ea
    | cons r rs => simp only [List.map_cons, cut1]; rfl
  rw [ecut]
  have hlen : (zipD (rs.map rowD) ((rs.drop 1).map rowD)).length = rs.length - 1 := by rw [zipD_length]; simp only [List.length_map, List.length_drop]; omega
  refine qFor_ind (fun k _ => ∀ r, rs[k]? = some r → r.h ≤ t ∧ (0 < k → r.h < t)) (fun r z => ?_) (fun k d s nx hd hi hnx => ?_) fun s hi => ?_
  · rw [ea] at z
    cases z
    exact ⟨ha, fun z => absurd z (by omega)⟩
  · obtain ⟨x, y, e1, e2, rfl⟩ := zipD_get hd
    obtain ⟨p, ep, rfl⟩ := row_get e1
    obtain ⟨q, eq, rfl⟩ := row_get e2
    have eq2 : rs[k + 1]? = some q := by rw [List.getElem?_drop, Nat.add_comm] at eq; exact eq
    have zp := hr.ok p (List.mem_of_getElem? ep)
    have zq := hr.ok q (List.mem_of_getElem? eq2)
    have hpq := hr.up.lt ep eq2 (Nat.lt_succ_self k)
    obtain ⟨i1, i2⟩ := hi p ep
    unfold qb_whole_place_1 rowD
    walk_at "q"
    refine bIf_d (fun e => ?_) fun e => ?_
    · have mk := mix_ok (t := t) zp zq hpq t0 t1
      have tri : ∃ k : Int, 0 < k ∧ (⟨q.h - p.h, p.x * (q.h - p.h) + (q.x - p.x) * (t - p.h), p.y * (q.h - p.h) + (q.y - p.y) * (t - p.h)⟩ : Rw) = ⟨k * (spotF rs t).h, k * (spotF rs t).x, k * (spotF rs t).y⟩ := by
        by_cases z1 : p.h = t
        · refine ⟨q.h - p.h, by omega, ?_⟩
          rw [spot_row z1 hr.up ep, z1, Int.sub_self, Int.mul_zero, Int.mul_zero, Int.mul_one, Int.add_zero, Int.add_zero, Int.mul_comm p.x, Int.mul_comm p.y]
        · by_cases z2 : q.h = t
          · refine ⟨q.h - p.h, by omega, ?_⟩
            rw [spot_row z2 hr.up eq2, ← z2]
            congr 1 <;> grind
          · refine ⟨1, by decide, ?_⟩
            rw [spot_mid (by omega) (by omega) hr.up ep eq2]
            simp only [Int.one_mul]
      obtain ⟨k, k0, ek⟩ := tri
      obtain ⟨a1, a2, a3, a4, a5, a6⟩ := zp
      obtain ⟨c1, c2, c3, c4, c5, c6⟩ := zq
      have b1 : Bd 5 (q.h - p.h) := bd5 (by omega) (by omega)
      have b2 : Bd 5 (t - p.h) := bd5 (by omega) (by omega)
      have b3 : Bd 5 p.x := bd5 (by omega) (by omega)
      have b4 : Bd 5 p.y := bd5 (by omega) (by omega)
      have b5 : Bd 5 (q.x - p.x) := bd5 (by omega) (by omega)
      have b6 : Bd 5 (q.y - p.y) := bd5 (by omega) (by omega)
      walk_at "bs"
      exact h k _ k0 ek mk
    · refine hnx _ fun r z => ?_
      rw [eq2] at z
      cases z
      exact ⟨by omega, fun _ => by omega⟩
  · rw [hlen] at hi
    obtain ⟨i1, i2⟩ := hi c ec
    have hz : rs.length - 1 = 0 := by
      rcases Nat.eq_zero_or_pos (rs.length - 1) with z | z
      · exact z
      · have := i2 z
        omega
    have h0 := hr.n0
    match rs, hz, h0, h, pa, ea with
    | [r], _, _, h, pa, ea =>
      simp at ea
      subst ea
      walk_at "q"
      simp only [List.map_cons, List.map_nil, rowD]
      walk_at "q"
      have zr := hr.ok r (by simp)
      refine h 1 ⟨1, r.x, r.y⟩ (by decide) ?_ (one_ok zr)
      simp only [spotF, Int.one_mul]
theorem apart_q {a b : List Rw} (ha : LogOk a) (hb : LogOk b) {t : Int} (wa : Within a t) (wb : Within b t) (t0 : 0 ≤ t) (t1 : t ≤ 100000) (K : PyData → Prop)
    (h : ∀ (k : Int) (g : Rw), 0 < k → g = ⟨k * (gapF a b t).h, k * (gapF a b t).x, k * (gapF a b t).y⟩ → TriOk 10 17 g → K (tD g)) : q_apart_at (logD a) (logD b) (.int t) K := by
  unfold q_apart_at
  refine place_q ha wa t0 t1 _ fun k p k0 ek okp => ?_
  walk_at "q"
  refine place_q hb wb t0 t1 _ fun l q l0 el okq => ?_
  have ok := gap_of okp okq
  obtain ⟨_, p1, p2, p3⟩ := okp
  obtain ⟨_, q1, q2, q3⟩ := okq
  walk_at "bs"
  refine h (k * l) ⟨p.h * q.h, p.x * q.h - q.x * p.h, p.y * q.h - q.y * p.h⟩ (Int.mul_pos k0 l0) ?_ ok
  rw [ek, el]
  unfold gapF
  generalize spotF a t = A
  generalize spotF b t = B
  show (⟨k * A.h * (l * B.h), k * A.x * (l * B.h) - l * B.x * (k * A.h), k * A.y * (l * B.h) - l * B.y * (k * A.h)⟩ : Rw) = ⟨k * l * (A.h * B.h), k * l * (A.x * B.h - B.x * A.h), k * l * (A.y * B.h - B.y * A.h)⟩
  congr 1 <;> grind
theorem piece_scale {M : Int} {g k : Rw} {c d : Int} (hc : 0 < c) (hd : 0 < d) : Piece M ⟨c * g.h, c * g.x, c * g.y⟩ ⟨d * k.h, d * k.x, d * k.y⟩ ↔ Piece M g k := by
  unfold Piece
  rw [nearAt_scale hc, nearAt_scale hd, nearMid_scale hc hd]
theorem low_le {P Q c : Int} (hq : 0 < Q) : lowN P Q ≤ c * lowB P Q ↔ P ≤ c * Q := by
  have l := low_of P hq
  rw [← le_scale hq, ← le_scale (a := P) l.b0]
  have e1 : Q * lowN P Q = lowB P Q * P := by rw [Int.mul_comm, l.eq, Int.mul_comm]
  have e2 : Q * (c * lowB P Q) = lowB P Q * (c * Q) := by grind
  rw [e1, e2]
theorem low_bd {n : Nat} {P Q : Int} (hq : 0 < Q) (h : Bd n P) : Bd n (lowN P Q) := by
  have l := low_of P hq
  have h0 := l.n0
  have h1 := l.n1
  unfold Bd at *
  omega
theorem low_bdB {n : Nat} {P Q : Int} (hq : 0 < Q) (h : Bd n Q) : Bd n (lowB P Q) := by
  have l := low_of P hq
  have h0 := l.b0
  have h1 := l.b1
  unfold Bd at *
  omega
theorem bd_le {n : Nat} {q : Int} (h : Bd n q) (hn : n ≤ 100) : q ≤ 10 ^ 100 := by
  have h2 := h.mono hn
  unfold Bd at h2
  have e : (10 : Int) ^ 100 = ((10 ^ 100 : Nat) : Int) := by rw [Int.natCast_pow]; rfl
  rw [e]
  omega
theorem least_q {a b : List Rw} (ha : LogOk a) (hb : LogOk b) {s t : Int} (wa : Within a s) (wb : Within b s) (wa' : Within a t) (wb' : Within b t) (s0 : 0 ≤ s) (s1 : s ≤ 100000) (t0 : 0 ≤ t) (t1 : t ≤ 100000) (K : PyData → Prop)
    (h : ∀ (p q : Int) (w : PyData), 0 < q → Bd 120 p → Bd 120 q → (∀ M : Int, p ≤ M * M * q ↔ Piece M (gapF a b s) (gapF a b t)) → K (.tuple [.tuple [.int p, .int q], w])) : q_least_between (logD a) (logD b) (.int s) (.int t) K := by
  unfold q_least_between
  refine apart_q ha hb wa wb s0 s1 _ fun c g c0 eg okg => ?_
  walk_at "q"
  refine apart_q ha hb wa' wb' t0 t1 _ fun d k d0 ek okk => ?_
  have hp : ∀ M, Piece M g k ↔ Piece M (gapF a b s) (gapF a b t) := fun M => by rw [eg, ek]; exact piece_scale c0 d0
  have hp2 := fun M => (piece_iff (M := M) okg.h0 okk.h0).symm.trans (hp M)
  clear eg ek hp

  obtain ⟨g0, g1, g2, g3⟩ := okg
  obtain ⟨k0, k1, k2, k3⟩ := okk
  have bs : Bd 5 s := bd5 (by omega) (by omega)
  have bt : Bd 5 t := bd5 (by omega) (by omega)
  have xb : Bd 27 (g.x * k.h) := g2.mul k1
  have yb : Bd 27 (g.y * k.h) := g3.mul k1
  have ub : Bd 27 (k.x * g.h) := k2.mul g1
  have vb : Bd 27 (k.y * g.h) := k3.mul g1
  have gb : Bd 40 (g.h * g.h * k.h * k.h) := ((g1.mul g1).mul k1).mul k1
  have b0 : 0 < g.h * g.h * k.h * k.h := Int.mul_pos (Int.mul_pos (Int.mul_pos g0 g0) k0) k0
  have em : ∀ M : Int, M * M * (g.h * g.h * k.h * k.h) = (M * g.h * k.h) * (M * g.h * k.h) := fun M => by grind
  walk_at "bs"
  generalize g.h * g.h * k.h * k.h = Q at gb b0 em ⊢
  generalize g.x * k.h = x at xb hp2 ⊢
  generalize g.y * k.h = y at yb hp2 ⊢
  generalize k.x * g.h = u at ub hp2 ⊢
  generalize k.y * g.h = v at vb hp2 ⊢
  have du : Bd 28 (u - x) := ub.sub xb
  have dv : Bd 28 (v - y) := vb.sub yb
  refine bIf_d (fun e1 => ?_) fun e1 => ?_
  · walk_at "bs"
    have pb : Bd 55 (x * x + y * y) := (xb.mul xb).add (yb.mul yb)
    refine lowest_q b0 (bd_le gb (by decide)) _ ?_
    refine h _ _ _ (low_of _ b0).b0 ((low_bd b0 pb).mono (by decide)) ((low_bdB b0 gb).mono (by decide)) fun M => ?_
    rw [low_le b0, ← hp2, em]
    exact near_start e1
  · walk_at "bs"
    refine bIf_d (fun e2 => ?_) fun e2 => ?_
    · have eu : x + (u - x) = u := by omega
      have ev : y + (v - y) = v := by omega
      rw [eu, ev]
      walk_at "bs"
      have pb : Bd 55 (u * u + v * v) := (ub.mul ub).add (vb.mul vb)
      refine lowest_q b0 (bd_le gb (by decide)) _ ?_
      refine h _ _ _ (low_of _ b0).b0 ((low_bd b0 pb).mono (by decide)) ((low_bdB b0 gb).mono (by decide)) fun M => ?_
      rw [low_le b0, ← hp2, em]
      exact near_end e2
    · walk_at "bs"
      have cb : Bd 56 (x * (v - y) - y * (u - x)) := (xb.mul dv).sub (yb.mul du)
      have sb : Bd 57 ((u - x) * (u - x) + (v - y) * (v - y)) := (du.mul du).add (dv.mul dv)
      have ab : Bd 56 (x * (u - x) + y * (v - y)) := (xb.mul du).add (yb.mul dv)
      have s0 : 0 < (u - x) * (u - x) + (v - y) * (v - y) := by omega
      have z0 := Int.mul_pos s0 b0
      have zb : Bd 97 (((u - x) * (u - x) + (v - y) * (v - y)) * Q) := sb.mul gb
      refine lowest_q z0 (bd_le zb (by decide)) _ ?_
      have te : Bd 6 (t - s) := bt.sub bs
      walk_at "bs"
      refine lowest_q s0 (bd_le sb (by decide)) _ ?_
      refine h _ _ _ (low_of _ z0).b0 ((low_bd z0 (cb.mul cb)).mono (by decide)) ((low_bdB z0 zb).mono (by decide)) fun M => ?_
      rw [low_le z0, ← hp2, ← near_way (by omega) (by omega), ← em]
      have e3 : M * M * (((u - x) * (u - x) + (v - y) * (v - y)) * Q) = M * M * Q * ((u - x) * (u - x) + (v - y) * (v - y)) := by grind
      rw [e3]
def fH (rs : List Rw) : Int := match rs[0]? with
  | some r => r.h
  | none => 0
def lH (rs : List Rw) : Int := match rs[rs.length - 1]? with
  | some r => r.h
  | none => 0
def bE (a b : List Rw) (lo : Int) : Int := max3 (fH a) (fH b) lo
def eE (a b : List Rw) (hi : Int) : Int := min3 (lH a) (lH b) hi
def mkH (a b : List Rw) (B E : Int) : List Int := B :: E :: ((a ++ b).filter fun r => decide (B < r.h) && decide (r.h < E)).map Rw.h
def NearM (a b : List Rw) (lo hi M : Int) : Prop := ∀ ms : List Int, ms.Pairwise (· < ·) → (∀ k, k ∈ ms ↔ k ∈ mkH a b (bE a b lo) (eE a b hi)) → Near M (gapF a b) ms
theorem nearM_of {a b : List Rw} {lo hi M : Int} {ms : List Int} (h1 : ms.Pairwise (· < ·)) (h2 : ∀ k, k ∈ ms ↔ k ∈ mkH a b (bE a b lo) (eE a b hi)) : NearM a b lo hi M ↔ Near M (gapF a b) ms := by
  refine ⟨fun h => h ms h1 h2, fun h ns n1 n2 => ?_⟩
  rw [rise_uniq n1 h1 fun k => (n2 k).trans (h2 k).symm]
  exact h
theorem mk_in {a b : List Rw} {B E : Int} (h : B ≤ E) {t : Int} (ht : t ∈ mkH a b B E) : B ≤ t ∧ t ≤ E := by
  unfold mkH at ht
  rcases List.mem_cons.mp ht with rfl | ht
  · omega
  rcases List.mem_cons.mp ht with rfl | ht
  · omega
  obtain ⟨r, hr, rfl⟩ := List.mem_map.mp ht
  have := (List.mem_filter.mp hr).2
  simp only [Bool.and_eq_true, decide_eq_true_eq] at this
  omega
theorem within_of {a b : List Rw} {lo hi t : Int} (h1 : bE a b lo ≤ t) (h2 : t ≤ eE a b hi) : Within a t ∧ Within b t ∧ lo ≤ t ∧ t ≤ hi := by
  unfold bE max3 at h1
  unfold eE min3 at h2
  refine ⟨⟨fun r e => ?_, fun r e => ?_⟩, ⟨fun r e => ?_, fun r e => ?_⟩, by omega, by omega⟩
  · unfold fH at h1; rw [e] at h1; simp only at h1; omega
  · unfold lH at h2; rw [e] at h2; simp only at h2; omega
  · unfold fH at h1; rw [e] at h1; simp only at h1; omega
  · unfold lH at h2; rw [e] at h2; simp only at h2; omega
theorem first_q {rs : List Rw} (h : LogOk rs) {P : PyData → Prop} : ∃ r : Rw, r.h = fH rs ∧ pick (rs.map rowD) 0 P = P (.tuple [.int r.h, .int r.x, .int r.y]) := by
  obtain ⟨r, er, mr, p⟩ := LogOk.first h.n0
  exact ⟨r, by unfold fH; rw [er], p P⟩
theorem last_q {rs : List Rw} (h : LogOk rs) {P : PyData → Prop} : ∃ r : Rw, r.h = lH rs ∧ pick (rs.map rowD) (-1) P = P (.tuple [.int r.h, .int r.x, .int r.y]) := by
  obtain ⟨r, er, mr, p⟩ := LogOk.last h.n0
  exact ⟨r, by unfold lH; rw [er], p P⟩
theorem rows_fm {B E : Int} : ∀ rs : List Rw, (rs.map rowD).filterMap (fun d => if B < hourOf d ∧ hourOf d < E then some (PyData.int (hourOf d)) else none) = ((rs.filter fun r => decide (B < r.h) && decide (r.h < E)).map Rw.h).map .int
  | [] => rfl
  | r :: rs => by
    rw [List.map_cons, List.filterMap_cons, List.filter_cons, rows_fm rs]
    have e : hourOf (rowD r) = r.h := rfl
    rw [e]
    by_cases h : B < r.h ∧ r.h < E
    · rw [if_pos h, if_pos (by simpa using h)]
      rfl
    · rw [if_neg h, if_neg (by simpa using h)]
theorem mk_len {a b : List Rw} (ha : LogOk a) (hb : LogOk b) {B E : Int} : (mkH a b B E).length < 63 := by
  unfold mkH
  have := List.length_filter_le (fun r : Rw => decide (B < r.h) && decide (r.h < E)) (a ++ b)
  rw [List.length_append] at this
  have := ha.n1
  have := hb.n1
  simp only [List.length_cons, List.length_map]
  omega
theorem hours_q {a b : List Rw} (ha : LogOk a) (hb : LogOk b) {lo hi : Int} (K : PyData → Prop) (h0 : eE a b hi < bE a b lo → K .none) (h1 : bE a b lo ≤ eE a b hi → K (.tuple [.int (bE a b lo), .int (eE a b hi)])) : q_hours_of_both (logD a) (logD b) (.int lo) (.int hi) K := by
  unfold q_hours_of_both
  walk_at "q"
  obtain ⟨r, er, p⟩ := first_q ha (P := _)
  rw [p, q_ix, at0]
  obtain ⟨r2, er2, p2⟩ := first_q hb (P := _)
  rw [p2, q_ix, at0, q_max3]
  obtain ⟨r3, er3, p3⟩ := last_q ha (P := _)
  rw [p3, q_ix, at0]
  obtain ⟨r4, er4, p4⟩ := last_q hb (P := _)
  rw [p4, q_ix, at0, q_min3, er, er2, er3, er4]
  walk_at "q"
  refine bIf_d (fun e => h0 e) fun e => h1 ?_
  show max3 (fH a) (fH b) lo ≤ min3 (lH a) (lH b) hi
  omega
theorem marks_q {a b : List Rw} (ha : LogOk a) (hb : LogOk b) {B E : Int} (K : PyData → Prop) (h : ∀ ms : List Int, ms.Pairwise (· < ·) → (∀ k, k ∈ ms ↔ k ∈ mkH a b B E) → K (.list (ms.map .int))) : q_marks_between (logD a) (logD b) (.int B) (.int E) K := by
  unfold q_marks_between
  have l1 := ha.n1
  have l2 := hb.n1
  walk_at "q"
  refine ⟨by omega, ?_⟩
  rw [← List.map_append]
  refine qLc_fmap (fun d => if B < hourOf d ∧ hourOf d < E then some (PyData.int (hourOf d)) else none) (by simp; omega) (fun d hd sk yd hy hs => ?_) ?_
  · obtain ⟨r, _, rfl⟩ := List.mem_map.mp hd
    unfold qb_marks_between_1 rowD
    walk_at "q"
    refine bIf_of (fun e => hy _ (if_pos (by simpa using e : B < r.h ∧ r.h < E))) fun e => hs (if_neg (by simpa using e : ¬ (B < r.h ∧ r.h < E)))
  · rw [rows_fm]
    have ml := mk_len (B := B) (E := E) ha hb
    walk_at "q"
    refine ⟨?_, ?_⟩
    · unfold mkH at ml
      simp only [List.length_cons, List.length_map] at ml
      omega
    · show sortSetQ (.list ((mkH a b B E).map .int)) _
      rw [q_sortSet]
      exact ⟨ml, fun ms m1 m2 => h ms m1 m2⟩
theorem nearest_q {a b : List Rw} (ha : LogOk a) (hb : LogOk b) {lo hi : Int} (l0 : 0 ≤ lo) (h1 : hi ≤ 100000) (K : PyData → Prop) (k0 : eE a b hi < bE a b lo → K .none)
    (k1 : bE a b lo ≤ eE a b hi → ∀ (p q : Int) (w : PyData), 0 < q → Bd 120 p → Bd 120 q → (∀ M : Int, p ≤ M * M * q ↔ NearM a b lo hi M) → K (.tuple [.tuple [.int p, .int q], w])) : q_nearest_of (logD a) (logD b) (.int lo) (.int hi) K := by
  unfold q_nearest_of
  refine hours_q ha hb _ (fun e => ?_) fun e => ?_
  · walk_at "q"
    exact k0 e
  · have k1 := k1 e
    walk_at "q"
    refine marks_q ha hb _ fun ms m1 m2 => ?_
    have bd : ∀ t ∈ ms, Within a t ∧ Within b t ∧ 0 ≤ t ∧ t ≤ 100000 := fun t ht => by
      obtain ⟨i1, i2⟩ := mk_in e ((m2 t).mp ht)
      obtain ⟨w1, w2, w3, w4⟩ := within_of i1 i2
      exact ⟨w1, w2, by omega, by omega⟩
    obtain ⟨m, ns, rfl⟩ : ∃ m ns, ms = m :: ns := by
      cases ms with
      | nil => exact absurd ((m2 (bE a b lo)).mpr (by unfold mkH; simp)) (by simp)
      | cons m ns => exact ⟨m, ns, rfl⟩
    obtain ⟨w1, w2, w3, w4⟩ := bd m (by simp)
    rw [List.map_cons]
    walk_at "q"
    refine least_q ha hb w1 w2 w1 w2 w3 w4 w3 w4 _ fun p q w q0 bp bq hp => ?_
    walk_at "q"
    simp only [cut1]
    walk_at "q"
    have hlen : (zipD (PyData.int m :: ns.map .int) (ns.map .int)).length = ns.length := by rw [zipD_length]; simp
    refine qFor_ind (fun k s => ∃ (p q : Int) (w : PyData), s = .tuple [.tuple [.int p, .int q], w] ∧ 0 < q ∧ Bd 120 p ∧ Bd 120 q ∧ ∀ M : Int, p ≤ M * M * q ↔ (Piece M (gapF a b m) (gapF a b m) ∨ ∃ (j : Nat) (c d : Int), j < k ∧ (m :: ns)[j]? = some c ∧ (m :: ns)[j + 1]? = some d ∧ Piece M (gapF a b c) (gapF a b d)))
      ⟨p, q, w, rfl, q0, bp, bq, fun M => by rw [hp M]; exact ⟨.inl, fun z => z.elim id fun ⟨j, _, _, hj, _⟩ => absurd hj (by omega)⟩⟩ (fun k d s nx hd hs hnx => ?_) fun s hs => ?_
    · obtain ⟨p, q, w, rfl, q0, bp, bq, hp⟩ := hs
      obtain ⟨x, y, e1, e2, rfl⟩ := zipD_get hd
      rw [← List.map_cons (f := PyData.int), List.getElem?_map] at e1
      rw [List.getElem?_map] at e2
      obtain ⟨c, ec, rfl⟩ := Option.map_eq_some_iff.mp e1
      obtain ⟨d, ed, rfl⟩ := Option.map_eq_some_iff.mp e2
      have ed2 : (m :: ns)[k + 1]? = some d := by simpa using ed
      obtain ⟨v1, v2, v3, v4⟩ := bd c (List.mem_of_getElem? ec)
      obtain ⟨u1, u2, u3, u4⟩ := bd d (List.mem_of_getElem? ed2)
      unfold qb_nearest_of_1
      walk_at "q"
      refine least_q ha hb v1 v2 u1 u2 v3 v4 u3 u4 _ fun p' q' w' q0' bp' bq' hp' => ?_
      walk_at "bs"
      have more : ∀ M : Int, (p ≤ M * M * q ∨ p' ≤ M * M * q') ↔ (Piece M (gapF a b m) (gapF a b m) ∨ ∃ (j : Nat) (c d : Int), j < k + 1 ∧ (m :: ns)[j]? = some c ∧ (m :: ns)[j + 1]? = some d ∧ Piece M (gapF a b c) (gapF a b d)) := fun M => by
        rw [hp M, hp' M]
        constructor
        · rintro ((z | ⟨j, c', d', hj, z1, z2, z3⟩) | z)
          · exact .inl z
          · exact .inr ⟨j, c', d', by omega, z1, z2, z3⟩
          · exact .inr ⟨k, c, d, by omega, ec, ed2, z⟩
        · rintro (z | ⟨j, c', d', hj, z1, z2, z3⟩)
          · exact .inl (.inl z)
          · by_cases hz : j = k
            · subst hz
              rw [ec] at z1
              rw [ed2] at z2
              cases z1
              cases z2
              exact .inr z3
            · exact .inl (.inr ⟨j, c', d', by omega, z1, z2, z3⟩)
      refine bIf_d (fun lt => hnx _ ⟨p', q', w', rfl, q0', bp', bq', fun M => ?_⟩) fun lt => hnx _ ⟨p, q, w, rfl, q0, bp, bq, fun M => ?_⟩
      · rw [← more]
        refine ⟨.inr, fun z => z.elim (fun z => ?_) id⟩
        have z1 := Int.mul_le_mul_of_nonneg_right z (Int.le_of_lt q0')
        rw [← le_scale q0]
        have z2 : q * p' = p' * q := Int.mul_comm _ _
        have z3 : q * (M * M * q') = M * M * q * q' := by grind
        omega
      · rw [← more]
        refine ⟨.inl, fun z => z.elim id fun z => ?_⟩
        have z1 := Int.mul_le_mul_of_nonneg_right z (Int.le_of_lt q0)
        rw [← le_scale q0']
        have z2 : q' * p = p * q' := Int.mul_comm _ _
        have z3 : q' * (M * M * q) = M * M * q' * q := by grind
        omega
    · obtain ⟨p, q, w, rfl, q0, bp, bq, hp⟩ := hs
      rw [hlen] at hp
      refine k1 p q w q0 bp bq fun M => ?_
      rw [nearM_of m1 m2]
      refine near_of_pieces ?_
      rw [hp M]
      refine or_congr Iff.rfl ⟨fun ⟨j, c, d, _, z⟩ => ⟨j, c, d, z⟩, fun ⟨j, c, d, z1, z2, z3⟩ => ⟨j, c, d, ?_, z1, z2, z3⟩⟩
      have := (List.getElem?_eq_some_iff.mp z2).1
      simp at this
      exact this
theorem qLc_over {α I S : Type} {b : PyData → I → S → (I → S → Prop) → (PyData → I → S → Prop) → Prop} {xs : List α} {D : α → PyData} {i : I} {s : S} {K : List PyData → S → Prop} (F : α → PyData) (hz : xs.length ≤ 100000)
    (step : ∀ x ∈ xs, ∀ (sk : I → S → Prop) (yd : PyData → I → S → Prop), yd (F x) i s → b (D x) i s sk yd) (fin : K (xs.map F) s) : qLc b i (xs.map D) [] s K :=
  qLc_ind (fun k acc s' => acc = (xs.take k).map F ∧ s' = s) ⟨by simp, rfl⟩ (fun k acc s' hk h => by rw [h.1]; simp at hk ⊢; omega)
    (fun k d acc s' sk yd hd ⟨h1, h2⟩ _ hy => by
      subst h2
      rw [List.getElem?_map] at hd
      obtain ⟨x, ex, rfl⟩ := Option.map_eq_some_iff.mp hd
      refine step x (List.mem_of_getElem? ex) sk yd (hy _ _ ⟨?_, rfl⟩)
      rw [List.take_add_one, ex, h1]
      simp) fun acc s' ⟨h1, h2⟩ => by
      subst h1 h2
      rw [List.length_map, List.take_length]
      exact fin
theorem cut_last {xs : List PyData} {d : PyData} : DL.cutD (xs ++ [d]) (some (-1)) none = [d] := by
  unfold DL.cutD HT.sIx
  have e : (-1 + ((xs.length : Int) + 1)).toNat = xs.length := by omega
  simp [e]
structure BksOk (as : List (List Rw)) : Prop where
  n0 : 1 ≤ as.length
  n1 : as.length ≤ 4
  ok : ∀ a ∈ as, LogOk a
abbrev bksD (as : List (List Rw)) : PyData := .tuple (as.map logD)
theorem BksOk.is {as : List (List Rw)} (h : BksOk as) : isBooks (bksD as) = true := by
  rw [isBooks_t, List.length_map, decide_eq_true h.n0, decide_eq_true h.n1, Bool.true_and, Bool.true_and, List.all_eq_true]
  intro d hd
  obtain ⟨a, ma, rfl⟩ := List.mem_map.mp hd
  exact (h.ok a ma).is
theorem LogOk.put {rs : List Rw} (h : LogOk rs) {i : Nat} {r r' : Rw} (e : rs[i]? = some r) (eh : r'.h = r.h) (ok : RowOk r') : LogOk (rs.set i r') := by
  have hi := (List.getElem?_eq_some_iff.mp e).1
  have hh : ∀ (j : Nat) (a : Rw), (rs.set i r')[j]? = some a → ∃ a', rs[j]? = some a' ∧ a'.h = a.h := fun j a z => by
    rw [List.getElem?_set] at z
    split at z
    · rename_i hij
      subst hij
      cases z
      exact ⟨r, e, eh.symm⟩
    · exact ⟨a, z, rfl⟩
  refine ⟨by rw [List.length_set]; exact h.n0, by rw [List.length_set]; exact h.n1, fun q hq => ?_, rises_of fun j k a b ha hb hjk => ?_⟩
  · rcases List.mem_or_eq_of_mem_set hq with z | rfl
    · exact h.ok q z
    · exact ok
  · obtain ⟨a', e1, e2⟩ := hh j a ha
    obtain ⟨b', e3, e4⟩ := hh k b hb
    rw [← e2, ← e4]
    exact h.up.lt e1 e3 hjk
theorem LogOk.turn {rs : List Rw} (h : LogOk rs) {f : Rw → Rw} (eh : ∀ r, (f r).h = r.h) (ok : ∀ r, RowOk r → RowOk (f r)) : LogOk (rs.map f) := by
  refine ⟨by rw [List.length_map]; exact h.n0, by rw [List.length_map]; exact h.n1, fun q hq => ?_, ?_⟩
  · obtain ⟨r, hr, rfl⟩ := List.mem_map.mp hq
    exact ok r (h.ok r hr)
  · refine List.pairwise_map.mpr (h.up.imp fun {a b} z => ?_)
    rw [eh, eh]
    exact z
theorem loga_q {n step far : Int} {xs : List PyData} (hp : CupOk n xs) (hn : n ≤ 10 ^ 4) (s0 : 1 ≤ step) (s1 : step ≤ 5000) (f0 : 0 ≤ far) (f1 : far ≤ 10000) (K : PyData → List PyData → Prop)
    (hK : ∀ rs xs', LogOk rs → CupOk (n + 70) xs' → K (logD rs) xs') : q_law_log xs (.int step) (.int far) K := by
  unfold q_law_log
  refine cup_take_q hp (by omega) (by decide) (by decide) _ fun a xs a0 a1 hp => ?_
  refine cup_take_q hp (by omega) (by decide) (by decide) _ fun b xs b0 b1 hp => ?_
  refine cup_take_q hp (by omega) (by decide) (by decide) _ fun c xs c0 c1 hp => ?_
  obtain ⟨z, ez, z0, z1⟩ : ∃ z : Int, (if decide (50 < far) = true then (1 : Int) else 0) = z ∧ 0 ≤ z ∧ z ≤ 1 := ⟨_, rfl, by split <;> decide, by split <;> decide⟩
  walk_at "q"
  rw [ez]
  have q0 : 0 ≤ c * z := Int.mul_nonneg c0 z0
  have q1 : c * z < 4 := by
    rcases (by omega : z = 0 ∨ z = 1) with rfl | rfl <;> omega
  refine ⟨⟨by walk_at "side", by walk_at "side"⟩, ?_⟩
  refine pick_mem q0 (by simpa using q1) fun d hd => ?_
  obtain ⟨hour, rfl, h0, h1⟩ : ∃ h : Int, d = .int h ∧ 0 ≤ h ∧ h ≤ 100000 := by
    simp only [List.mem_cons, List.not_mem_nil, or_false] at hd
    rcases hd with rfl | rfl | rfl | rfl <;> exact ⟨_, rfl, by omega, by omega⟩
  refine cup_take_q hp (by omega) (by decide) (by decide) _ fun d xs d0 d1 hp => ?_
  walk_at "q"
  refine cup_take_q hp (by omega) (by decide) (by decide) _ fun e xs e0 e1 hp => ?_
  walk_at "q"
  refine cup_take_q hp (by omega) (by decide) (by decide) _ fun f xs g0 g1 hp => ?_
  walk_at "q"
  refine pick_mem g0 (by simpa using g1) fun m hm => ?_
  obtain ⟨m, rfl, m0, m1⟩ : ∃ i : Nat, m = .int i ∧ 1 ≤ i ∧ i ≤ 20 := by
    simp only [List.mem_cons, List.not_mem_nil, or_false] at hm
    rcases hm with rfl | rfl
    · exact ⟨(1 + d).toNat, by rw [Int.toNat_of_nonneg (by omega)], by omega, by omega⟩
    · exact ⟨(1 + e).toNat, by rw [Int.toNat_of_nonneg (by omega)], by omega, by omega⟩
  walk_at "q"
  refine ⟨by omega, ?_⟩
  refine qFor_range (fun k s => ∃ (xs : List PyData) (hour : Int) (rs : List Rw), s = (xs, .int hour, rs.map rowD) ∧ CupOk (n + 6 + 3 * k) xs ∧ 0 ≤ hour ∧ hour ≤ 100000 + 5001 * k ∧ rs.length ≤ k ∧ (1 ≤ k → 1 ≤ rs.length) ∧ (∀ r ∈ rs, RowOk r ∧ r.h < hour) ∧ Rises rs)
    ⟨_, hour, [], rfl, hp.mono (by omega), h0, by omega, by simp, fun z => absurd z (by omega), fun _ z => by simp at z, List.Pairwise.nil⟩ (fun k s nx hk hs hnx => ?_) fun s hs => ?_
  · obtain ⟨xs, hour, rs, rfl, hp, h0, h1, hl, hge, hr, hu⟩ := hs
    unfold qb_law_log_1
    walk_at "j"
    refine jn_by2 (fun p l => CupOk (n + 8 + 3 * k) p ∧ ∃ rs : List Rw, l = rs.map rowD ∧ rs.length ≤ k + 1 ∧ 1 ≤ rs.length ∧ (∀ r ∈ rs, RowOk r ∧ r.h ≤ hour) ∧ Rises rs) (fun J hJ => ?_) fun p l ⟨hp, rs, e, hl, hge, hr, hu⟩ => ?_
    · refine bIf_d (fun hh => ?_) fun hh => ?_
      · walk_at "j"
        refine ⟨⟨by walk_at "side", by walk_at "side"⟩, ?_⟩
        refine cup_take_q hp (by omega) (by omega) (by omega) _ fun x xs x0 x1 hp => ?_
        walk_at "j"
        refine ⟨⟨by walk_at "side", by walk_at "side"⟩, ?_⟩
        refine cup_take_q hp (by omega) (by omega) (by omega) _ fun y xs y0 y1 hp => ?_
        walk_at "j"
        refine ⟨by omega, hJ _ _ ⟨hp.mono (by omega), rs ++ [⟨hour, x - far, y - far⟩], by simp [rowD], by simp; omega, by simp, fun r hm => ?_, hu.push fun q hq => (hr q hq).2⟩⟩
        rcases List.mem_append.mp hm with hm | hm
        · have := hr r hm
          exact ⟨this.1, by omega⟩
        · rw [List.mem_singleton.mp hm]
          exact ⟨⟨h0, hh, by show -10000 ≤ x - far; omega, by show x - far ≤ 10000; omega, by show -10000 ≤ y - far; omega, by show y - far ≤ 10000; omega⟩, Int.le_refl _⟩
      · refine hJ _ _ ⟨hp.mono (by omega), rs, rfl, by omega, hge ?_, fun r hm => ⟨(hr r hm).1, by have := (hr r hm).2; omega⟩, hu⟩
        rcases Nat.eq_zero_or_pos k with z | z
        · subst z
          exact absurd h1 (by omega)
        · exact z
    · subst e
      walk_at "q"
      refine cup_take_q hp (by omega) (by omega) (by omega) _ fun y xs y0 y1 hp => ?_
      walk_at "q"
      exact hnx _ ⟨_, _, rs, rfl, hp.mono (by omega), by omega, by omega, hl, fun _ => hge, fun r hm => ⟨(hr r hm).1, by have := (hr r hm).2; omega⟩, hu⟩
  · obtain ⟨xs, hour, rs, rfl, hp, h0, h1, hl, hge, hr, hu⟩ := hs
    exact hK rs _ ⟨hge (by omega), by omega, fun r hm => (hr r hm).1, hu⟩ (hp.mono (by omega))
def clp (f a : Int) : Int := if (if a < f then a else f) > -f then (if a < f then a else f) else -f
theorem clampB {f a : Int} (f0 : 0 ≤ f) (f1 : f ≤ 10000) : -10000 ≤ clp f a ∧ clp f a ≤ 10000 := by
  unfold clp
  split <;> split at * <;> omega
theorem clamp_row {f w : Int} (f0 : 0 ≤ f) (f1 : f ≤ 10000) {r : Rw} (hr : RowOk r) : RowOk ⟨r.h, clp f (r.x + (w - 3)), r.y⟩ :=
  have c := clampB (a := r.x + (w - 3)) f0 f1
  ⟨hr.h0, hr.h1, c.1, c.2, hr.y0, hr.y1⟩
theorem bookss_q {n step far : Int} {xs : List PyData} (hp : CupOk n xs) (hn : n ≤ 10 ^ 3) (s0 : 1 ≤ step) (s1 : step ≤ 5000) (f0 : 0 ≤ far) (f1 : far ≤ 10000) (K : PyData → List PyData → Prop)
    (hK : ∀ as xs', BksOk as → CupOk (n + 310) xs' → K (bksD as) xs') : q_law_books xs (.int step) (.int far) K := by
  unfold q_law_books
  refine cup_take_q hp (by omega) (by decide) (by decide) _ fun a xs a0 a1 hp => ?_
  walk_at "q"
  refine ⟨by omega, ?_⟩
  obtain ⟨m, em⟩ : ∃ m : Nat, (1 + a).toNat = m := ⟨_, rfl⟩
  rw [em]
  refine qFor_range (fun k s => ∃ (xs : List PyData) (as : List (List Rw)), s = (xs, as.map logD) ∧ CupOk (n + 1 + 75 * k) xs ∧ as.length = k ∧ ∀ l ∈ as, LogOk l) ⟨_, [], rfl, hp.mono (by omega), rfl, by simp⟩ (fun k s nx hk hs hnx => ?_) fun s hs => ?_
  · obtain ⟨xs, as, rfl, hp, hl, hg⟩ := hs
    unfold qb_law_books_1
    refine cup_take_q hp (by omega) (by decide) (by decide) _ fun way xs w0 w1 hp => ?_
    refine loga_q hp (by omega) s0 s1 f0 f1 _ fun lg xs hlg hp => ?_
    walk_at "j"
    refine jn_by2 (fun p l => CupOk (n + 1 + 75 * k + 74) p ∧ ∃ rs, l = logD rs ∧ LogOk rs) (fun J hJ => ?_) fun p l ⟨hp, rs, e, hlg⟩ => ?_
    · refine bIf_of (fun hc => ?_) fun _ => hJ _ _ ⟨hp.mono (by omega), lg, rfl, hlg⟩
      have hne : 1 ≤ as.length := by
        cases as with
        | nil => simp at hc
        | cons a b => simp
      refine cup_take_q hp (by omega) (by omega) (by omega) _ fun i xs i0 i1 hp => ?_
      walk_at "j"
      refine pick_mem i0 (by simpa using i1) fun l hm => ?_
      obtain ⟨rs, mrs, rfl⟩ := List.mem_map.mp hm
      have hrs := hg rs mrs
      have l0 := hrs.n0
      have l1 := hrs.n1
      walk_at "j"
      refine cup_take_q hp (by omega) (by omega) (by omega) _ fun at_ xs t0 t1 hp => ?_
      refine cup_take_q hp (by omega) (by decide) (by decide) _ fun w xs v0 v1 hp => ?_
      have hp : CupOk (n + 1 + 75 * k + 74) xs := hp.mono (by omega)
      walk_at "j"
      refine jn_by (fun l => ∃ rs, l = logD rs ∧ LogOk rs) (fun J2 hJ2 => ?_) fun l hlg => ?_
      · refine bIf_d (fun _ => ?_) fun _ => hJ2 _ ⟨rs, rfl, hrs⟩
        obtain ⟨j, rfl⟩ := Int.eq_ofNat_of_zero_le t0
        have hj : j < rs.length := by omega
        have er : rs[j]? = some rs[j] := List.getElem?_eq_getElem hj
        generalize rs[j] = r at er
        have er2 : (rs.map rowD)[j]? = some (rowD r) := by rw [List.getElem?_map, er]; rfl
        have hr := hrs.ok r (List.mem_of_getElem? er)
        walk_at "j"
        refine pick_at er2 ?_
        unfold rowD
        walk_at "j"
        refine pick_at er2 ?_
        unfold rowD
        walk_at "j"
        refine pick_at er2 ?_
        unfold rowD
        walk_at "j"
        refine st_in (by omega) (by simpa using hj) ?_
        refine hJ2 _ ⟨rs.set j ⟨r.h, clp far (r.x + (w - 3)), r.y⟩, ?_, hrs.put er rfl (clamp_row f0 f1 hr)⟩
        unfold logD
        rw [List.map_set, Int.toNat_natCast]
        rfl
      · obtain ⟨rs, rfl, hrs⟩ := hlg
        have l1 := hrs.n1
        walk_at "j"
        refine bIf_d (fun _ => ?_) fun _ => hJ _ _ ⟨hp, rs, rfl, hrs⟩
        refine qLc_over (fun r => rowD ⟨r.h, clp far (r.x + (w - 3)), r.y⟩) (by omega) (fun r mr sk yd hy => ?_) ?_
        · unfold qb_law_books_2 rowD
          walk_at "q"
          exact hy
        · walk_at "j"
          refine hJ _ _ ⟨hp, rs.map (fun r => ⟨r.h, clp far (r.x + (w - 3)), r.y⟩), ?_, hrs.turn (fun r => rfl) fun r hr => clamp_row f0 f1 hr⟩
          show _ = PyData.tuple ((rs.map _).map rowD)
          rw [List.map_map]
          rfl
    · subst e
      walk_at "q"
      refine ⟨by omega, hnx _ ⟨_, as ++ [rs], by simp, hp.mono (by omega), by simp [hl], fun x hx => ?_⟩⟩
      rcases List.mem_append.mp hx with hx | hx
      · exact hg x hx
      · rw [List.mem_singleton.mp hx]; exact hlg
  · obtain ⟨xs, as, rfl, hp, hl, hg⟩ := hs
    exact hK as xs ⟨by omega, by omega, hg⟩ (hp.mono (by omega))
theorem need_logX (d : PyData) (K : PyData → Prop) (E : Str → Prop) (h1 : isLog d = true → K .none) (h0 : isLog d = false → E "NoLog") : q_need_log d K E := by
  unfold q_need_log
  refine is_log_q d _ ?_
  walk_at "q"
  cases e : isLog d with
  | true => walk_at "q"; exact h1 e
  | false => walk_at "q"; exact h0 e
def goodC (a b : PyData) : Bool := match a, b with
  | .int i, .int j => decide (0 ≤ i) && (decide (i ≤ 100000) && (decide (0 ≤ j) && (decide (j ≤ 100000) && decide (i ≤ j))))
  | _, _ => false
theorem isIn_int {a : PyData} {l m : Int} (h : isIn a l m = true) : ∃ i, a = .int i ∧ l ≤ i ∧ i ≤ m := by
  cases a <;> simp only [isIn, Bool.and_eq_true, decide_eq_true_eq, Bool.false_eq_true] at h
  exact ⟨_, rfl, h.1, h.2⟩
theorem goodC_in {a b : PyData} (h : goodC a b = true) : ∃ i j : Int, a = .int i ∧ b = .int j ∧ 0 ≤ i ∧ i ≤ 100000 ∧ 0 ≤ j ∧ j ≤ 100000 ∧ i ≤ j := by
  unfold goodC at h
  split at h
  · simp only [Bool.and_eq_true, decide_eq_true_eq] at h
    exact ⟨_, _, rfl, rfl, h⟩
  · cases h
theorem need_chaseX (a b : PyData) (K : PyData → Prop) (E : Str → Prop) (h1 : goodC a b = true → K .none) (h0 : goodC a b = false → E "NoChase") : q_need_chase a b K E := by
  unfold q_need_chase
  rw [is_hour_q]
  walk_at "q"
  have no : (∀ i j : Int, a = .int i → b = .int j → ¬ (0 ≤ i ∧ i ≤ 100000 ∧ 0 ≤ j ∧ j ≤ 100000 ∧ i ≤ j)) → E "NoChase" := fun z => h0 (by
    cases e : goodC a b with
    | false => rfl
    | true =>
      obtain ⟨i, j, e1, e2, r⟩ := goodC_in e
      exact absurd r (z i j e1 e2))
  cases ea : isIn a 0 100000 with
  | false =>
    walk_at "q"
    refine no fun i j e1 e2 r => ?_
    subst e1
    rw [show isIn (.int i) 0 100000 = true by simp only [isIn, Bool.and_eq_true, decide_eq_true_eq]; omega] at ea
    cases ea
  | true =>
    walk_at "q"
    rw [is_hour_q]
    walk_at "q"
    cases eb : isIn b 0 100000 with
    | false =>
      walk_at "q"
      refine no fun i j e1 e2 r => ?_
      subst e2
      rw [show isIn (.int j) 0 100000 = true by simp only [isIn, Bool.and_eq_true, decide_eq_true_eq]; omega] at eb
      cases eb
    | true =>
      obtain ⟨i, rfl, i0, i1⟩ := isIn_int ea
      obtain ⟨j, rfl, j0, j1⟩ := isIn_int eb
      walk_at "q"
      refine bIf_d (fun e => no fun i' j' e1 e2 r => ?_) fun e => h1 ?_
      · cases e1
        cases e2
        omega
      · simp only [goodC, Bool.and_eq_true, decide_eq_true_eq]
        omega
theorem rows_all : ∀ {xs : List PyData} {l : Int}, rowsFrom l xs = true → ∀ x ∈ xs, isRow x = true
  | [], _, _, x, hx => by simp at hx
  | r :: rs, l, h, x, hx => by
    simp only [rowsFrom, Bool.and_eq_true] at h
    rcases List.mem_cons.mp hx with rfl | hx
    · exact h.1
    · exact rows_all h.2.2 x hx
theorem no_row {xs : List PyData} {x : PyData} (hx : x ∈ xs) (h : isRow x = false) : isLog (.tuple xs) = false := by
  cases e : isLog (.tuple xs) with
  | false => rfl
  | true =>
    simp only [isLog, Bool.and_eq_true] at e
    rw [rows_all e.2 x hx] at h
    cases h
theorem no_long {xs : List PyData} (h : 20 < xs.length) : isLog (.tuple xs) = false := by
  cases e : isLog (.tuple xs) with
  | false => rfl
  | true =>
    simp only [isLog, Bool.and_eq_true, decide_eq_true_eq] at e
    omega
theorem rows_twice {d : PyData} : ∀ {xs : List PyData} {l : Int}, rowsFrom l (xs ++ [d, d]) = false
  | [], l => by
    simp only [List.nil_append, rowsFrom]
    have : decide (hourOf d < hourOf d) = false := decide_eq_false (by omega)
    rw [this]
    simp
  | x :: xs, l => by
    rw [List.cons_append, rowsFrom, rows_twice]
    simp
theorem no_twice {xs : List PyData} {d : PyData} : isLog (.tuple (xs ++ [d, d])) = false := by
  simp only [isLog, rows_twice, Bool.and_false]
theorem need_booksX (d : PyData) (K : PyData → Prop) (E : Str → Prop) (h1 : isBooks d = true → K .none) (h0 : isBooks d = false → E "NoLogs") : q_need_logbooks d K E := by
  unfold q_need_logbooks
  refine are_logbooks_q d _ ?_
  walk_at "q"
  cases e : isBooks d with
  | true => walk_at "q"; exact h1 e
  | false => walk_at "q"; exact h0 e
theorem near_any {a b : List Rw} (ha : LogOk a) (hb : LogOk b) {lo hi M : Int} (l0 : 0 ≤ lo) (h1 : hi ≤ 100000) (m0 : 0 ≤ M) (m1 : M ≤ 100000) (K : PyData → Prop) (h : ∀ t : Bool, K (.bool t)) : q_are_near_by (logD a) (logD b) (.int lo) (.int hi) (.int M) K := by
  unfold q_are_near_by
  refine nearest_q ha hb l0 h1 _ (fun z => ?_) fun hle p q w q0 bp bq hp => ?_
  · walk_at "q"
    exact h _
  · have mb : Bd 5 M := bd5 (by omega) (by omega)
    walk_at "bs"
    exact h _
theorem are_nearX {a b : List Rw} (ha : LogOk a) (hb : LogOk b) (x y m : PyData) (K : PyData → Prop) (E : Str → Prop) (e1 : goodC x y = false → E "NoChase") (e2 : goodC x y = true → isIn m 0 100000 = false → E "NoMiles")
    (k : goodC x y = true → isIn m 0 100000 = true → ∀ t : Bool, K (.bool t)) : q_are_near (logD a) (logD b) x y m K E := by
  unfold q_are_near q_need_both
  refine need_logX _ _ _ (fun _ => ?_) fun e => by rw [ha.is] at e; cases e
  refine need_logX _ _ _ (fun _ => ?_) fun e => by rw [hb.is] at e; cases e
  refine need_chaseX x y _ _ (fun hc => ?_) e1
  rw [is_whole_q]
  cases hm : isIn m 0 100000 with
  | false =>
    have er := e2 hc hm
    clear e2 k
    cases m with
    | int i =>
      have no : ¬ (0 ≤ i ∧ i ≤ 100000) := fun z => by
        rw [show isIn (.int i) 0 100000 = true by simp only [isIn, Bool.and_eq_true, decide_eq_true_eq]; exact z] at hm
        cases hm
      have w : isW (.int i) = true := rfl
      rw [w]
      walk_at "q"
      by_cases h0 : 0 ≤ i
      · rw [decide_eq_true h0]
        walk_at "q"
        rw [decide_eq_false (show ¬ i ≤ 100000 from fun z => no ⟨h0, z⟩)]
        walk_at "q"
        exact er
      · rw [decide_eq_false h0]
        walk_at "q"
        exact er
    | _ =>
      simp only [isW]
      walk_at "q"
      exact er
  | true =>
    obtain ⟨i, rfl, i0, i1⟩ := isIn_int hm
    obtain ⟨l, h, rfl, rfl, l0, _, _, h1, _⟩ := goodC_in hc
    have w : isW (.int i) = true := rfl
    rw [w]
    walk_at "q"
    rw [decide_eq_true i0]
    walk_at "q"
    rw [decide_eq_true i1]
    walk_at "q"
    exact near_any ha hb l0 h1 i0 i1 _ (k hc hm)
theorem sightX (a b x y m : PyData) (K : PyData → Prop) (E : Str → Prop) (ga : isBooks a = true → ∃ as, a = bksD as ∧ BksOk as) (gb : isBooks b = true → ∃ bs, b = bksD bs ∧ BksOk bs)
    (e0 : isBooks a = false → E "NoLogs") (e1 : isBooks a = true → isBooks b = false → E "NoLogs") (e2 : isBooks a = true → isBooks b = true → goodC x y = false → E "NoChase")
    (e3 : isBooks a = true → isBooks b = true → goodC x y = true → isIn m 0 100000 = false → E "NoMiles") (k : isBooks a = true → isBooks b = true → goodC x y = true → isIn m 0 100000 = true → ∀ d, K d) : q_sight_table a b x y m K E := by
  unfold q_sight_table
  refine need_booksX a _ _ (fun za => need_booksX b _ _ (fun zb => ?_) (e1 za)) e0
  obtain ⟨as, rfl, ha⟩ := ga za
  obtain ⟨bs, rfl, hb⟩ := gb zb
  have f2 := e2 za zb
  have f3 := e3 za zb
  have kk := k za zb
  walk_at "q"
  have a0 := ha.n0
  have a1 := ha.n1
  have b0 := hb.n0
  have b1 := hb.n1
  by_cases good : goodC x y = true ∧ isIn m 0 100000 = true
  · refine qFor_ind (fun n s => s.length = n) (by simp) (fun n d s nx hd hs hnx => ?_) fun s hs => kk good.1 good.2 _
    rw [List.getElem?_map] at hd
    obtain ⟨a, ea, rfl⟩ := Option.map_eq_some_iff.mp hd
    have hn := (List.getElem?_eq_some_iff.mp ea).1
    unfold qb_sight_table_1
    walk_at "q"
    refine qLc_ind (fun n acc s => acc.length = n) (by simp) (fun n acc s hk h => by rw [List.length_map] at hk; omega) (fun n d acc s sk yd hd h hsk hy => ?_) fun acc s h => ?_
    · rw [List.getElem?_map] at hd
      obtain ⟨b, eb, rfl⟩ := Option.map_eq_some_iff.mp hd
      unfold qb_sight_table_2
      exact are_nearX (ha.ok a (List.mem_of_getElem? ea)) (hb.ok b (List.mem_of_getElem? eb)) x y m _ _ (fun z => by rw [good.1] at z; cases z) (fun _ z => by rw [good.2] at z; cases z) fun _ _ t => hy _ _ (by simp [h])
    · walk_at "q"
      exact ⟨by omega, hnx _ (by simp [hs])⟩
  · obtain ⟨p, ps, rfl⟩ : ∃ p ps, as = p :: ps := by
      cases as with
      | nil => simp at a0
      | cons p ps => exact ⟨p, ps, rfl⟩
    obtain ⟨q, qs, rfl⟩ : ∃ q qs, bs = q :: qs := by
      cases bs with
      | nil => simp at b0
      | cons p ps => exact ⟨p, ps, rfl⟩
    rw [List.map_cons, qFor]
    unfold qb_sight_table_1
    dsimp only
    walk_at "q"
    rw [List.map_cons, qLc]
    unfold qb_sight_table_2
    exact are_nearX (ha.ok p (by simp)) (hb.ok q (by simp)) x y m _ _ f2 f3 fun z1 z2 => absurd ⟨z1, z2⟩ good
theorem sh_bools (t : Bool) (bs : List Bool) : shp (.bool t) (bs.map .bool) := by
  refine ⟨by cases t <;> rfl, ?_⟩
  have z : PyData.canLayAll0 (bs.map PyData.bool) = true ∧ PyData.depthAll (bs.map PyData.bool) ≤ 1 := by
    induction bs with
    | nil => exact ⟨rfl, by decide⟩
    | cons m r ih =>
      rw [List.map_cons]
      exact ⟨by simp [PyData.canLayAll0, PyData.canLay0, ih.1], by simp [PyData.depthAll, PyData.depth]; exact ih.2⟩
  unfold SeqAt.shaped
  rw [Bool.and_eq_true, decide_eq_true_eq]
  exact ⟨by simp [PyData.canLay0, z.1], by simp [PyData.depth]; omega⟩
theorem cnt_bool {bs : List Bool} {b : Bool} : (bs.map PyData.bool).countP (fun z => eqD z (.bool b)) = bs.count b := by
  rw [List.countP_map, List.count]
  refine List.countP_congr fun x _ => ?_
  simp [eqD_bool]
theorem find_bool {b : Bool} : ∀ {bs : List Bool}, b ∈ bs → (bs.map PyData.bool).findIdx? (fun z => eqD z (.bool b)) = some (bs.idxOf b)
  | [], h => by simp at h
  | a :: bs, h => by
    rw [List.map_cons, List.findIdx?_cons, eqD_bool, List.idxOf_cons]
    by_cases e : a = b
    · subst e
      simp
    · have h2 : b ∈ bs := (List.mem_cons.mp h).resolve_left fun z => e z.symm
      have e2 : (a == b) = false := by simpa using e
      rw [decide_eq_false e, find_bool h2, e2]
      rfl
theorem idx_q {bs : List Bool} {b : Bool} {P : PyData → Prop} (hb : b ∈ bs) (h : P (.int ((bs.idxOf b : Nat) : Int))) : idxQ (bs.map .bool) (.bool b) P := by
  unfold idxQ
  rw [find_bool hb]
  exact ⟨⟨(sh_bools b bs).2, (sh_bools b bs).1⟩, h⟩
theorem cnt_q {bs : List Bool} {b : Bool} {P : PyData → Prop} (h : P (.int (bs.count b : Nat))) : cntQ (bs.map .bool) (.bool b) P := by
  unfold cntQ
  refine ⟨⟨(sh_bools b bs).2, (sh_bools b bs).1⟩, ?_⟩
  unfold cntN
  rw [cnt_bool]
  exact h
theorem sort_q {c w : Str} {bs : List Bool} {j : Nat} (h1 : (["NoLogs"] : List Str).any (exSub c) = bs.getD 0 false) (h2 : (["NoChase"] : List Str).any (exSub c) = bs.getD 1 false) (h3 : (["NoMiles"] : List Str).any (exSub c) = bs.getD 2 false)
    (h4 : (["NoTable"] : List Str).any (exSub c) = bs.getD 3 false) (h5 : (["NoSights"] : List Str).any (exSub c) = bs.getD 4 false) (h6 : (["NoSet"] : List Str).any (exSub c) = bs.getD 5 false) (h7 : (["NoNumber"] : List Str).any (exSub c) = bs.getD 6 false)
    (h8 : (["NoWeights", "NoPart", "NoLog", "NoRoll", "NoName", "NoHour", "NoScheme", "NoCrew", "NoMan", "NoSale"] : List Str).any (exSub c) = false)
    (h9 : (["NoCrews", "NoPages", "NoPage", "NoPrize", "NoBalances", "NoMoney", "NoChange", "NoText", "NoRow"] : List Str).any (exSub c) = false)
    (h10 : (["TooMany"] : List Str).any (exSub c) = false) (hb : bs = [bs.getD 0 false, bs.getD 1 false, bs.getD 2 false, bs.getD 3 false, bs.getD 4 false, bs.getD 5 false, bs.getD 6 false]) (hc : bs.count true = 1) (hi : bs.idxOf true = j) (hm : true ∈ bs)
    (hw : ([.str "logs", .str "chase", .str "miles", .str "table", .str "sights", .str "set", .str "number"] : List PyData)[j]? = some (.str w)) (K : PyData → Prop) (hK : K (.str w)) : q_law_sort (exD c) K := by
  unfold q_law_sort
  simp only [q_isx, h1, h2, h3, h4, h5, h6, h7, h8, h9, h10]
  walk_at "q"
  refine ⟨by simp, ?_⟩
  try refine ⟨by simp, ?_⟩
  have e : ([.bool (bs.getD 0 false), .bool (bs.getD 1 false), .bool (bs.getD 2 false), .bool (bs.getD 3 false), .bool (bs.getD 4 false), .bool (bs.getD 5 false), .bool (bs.getD 6 false)] : List PyData) = bs.map .bool := by
    conv => rhs; rw [hb]
    rfl
  rw [e]
  refine cnt_q ?_
  rw [hc]
  walk_at "q"
  rw [decide_eq_true (show ((1 : Nat) : Int) = 1 from rfl)]
  simp only [q_isv]
  walk_at "q"
  refine idx_q hm ?_
  rw [hi]
  walk_at "q"
  exact pick_at hw hK
theorem sort_logs (K : PyData → Prop) (hK : K (.str "logs")) : q_law_sort (exD "NoLogs") K :=
  sort_q (bs := [true, false, false, false, false, false, false]) (j := 0) (by decide +kernel) (by decide +kernel) (by decide +kernel) (by decide +kernel) (by decide +kernel) (by decide +kernel) (by decide +kernel) (by decide +kernel) (by decide +kernel) (by decide +kernel) rfl (by decide) (by decide) (by decide) rfl K hK
theorem sort_chase (K : PyData → Prop) (hK : K (.str "chase")) : q_law_sort (exD "NoChase") K :=
  sort_q (bs := [false, true, false, false, false, false, false]) (j := 1) (by decide +kernel) (by decide +kernel) (by decide +kernel) (by decide +kernel) (by decide +kernel) (by decide +kernel) (by decide +kernel) (by decide +kernel) (by decide +kernel) (by decide +kernel) rfl (by decide) (by decide) (by decide) rfl K hK
theorem sort_miles (K : PyData → Prop) (hK : K (.str "miles")) : q_law_sort (exD "NoMiles") K :=
  sort_q (bs := [false, false, true, false, false, false, false]) (j := 2) (by decide +kernel) (by decide +kernel) (by decide +kernel) (by decide +kernel) (by decide +kernel) (by decide +kernel) (by decide +kernel) (by decide +kernel) (by decide +kernel) (by decide +kernel) rfl (by decide) (by decide) (by decide) rfl K hK
theorem sort_table (K : PyData → Prop) (hK : K (.str "table")) : q_law_sort (exD "NoTable") K :=
  sort_q (bs := [false, false, false, true, false, false, false]) (j := 3) (by decide +kernel) (by decide +kernel) (by decide +kernel) (by decide +kernel) (by decide +kernel) (by decide +kernel) (by decide +kernel) (by decide +kernel) (by decide +kernel) (by decide +kernel) rfl (by decide) (by decide) (by decide) rfl K hK
theorem need_tableX (d : PyData) (K : PyData → Prop) (E : Str → Prop) (h1 : isTab d = true → K .none) (h0 : isTab d = false → E "NoTable") : q_need_table d K E := by
  unfold q_need_table
  refine is_table_q d _ ?_
  walk_at "q"
  cases e : isTab d with
  | true => walk_at "q"; exact h1 e
  | false => walk_at "q"; exact h0 e
theorem head_any {xs : List PyData} {K : PyData → Prop} {n : Prop} (h : ∀ d, K d) (hn : n) : headK xs K n := by
  unfold headK
  cases xs with
  | nil => exact hn
  | cons x _ => exact h x
theorem isN_any {d : PyData} {P : PyData → Prop} (h : ∀ b : Bool, P (.bool b)) : oIsN d P := by
  cases d with
  | dict kv => cases kv <;> exact h _
  | _ => exact h _
theorem word_ofX {many : Nat} {bss : List (List Bool)} (ok : TbOk many bss) (K : PyData → Prop) (E : Str → Prop) (h : ∀ w : Str, K (.str w)) : q_word_of (tabD bss) K E := by
  unfold q_word_of
  refine need_tableX _ _ _ (fun _ => ?_) fun e => by rw [ok.tab] at e; cases e
  refine least_place_q bss false _ (head_any (fun a => ?_) ?_)
  all_goals
    refine isN_any fun b => ?_
    walk_at "q"
    cases b
    · walk_at "q"
      refine least_place_q bss true _ (head_any (fun a2 => ?_) ?_)
      all_goals
        refine isN_any fun b => ?_
        walk_at "q"
        cases b <;> walk_at "q" <;> exact h _
    · walk_at "q"
      exact h _
theorem open_byX {many : Nat} {bss : List (List Bool)} (ok : TbOk many bss) (K : PyData → Prop) (E : Str → Prop) (h : ∀ d, K d) : q_open_by (tabD bss) K E := by
  unfold q_open_by
  refine word_ofX ok _ _ fun w => ?_
  walk_at "q"
  refine bIf_of (fun _ => h _) fun _ => ?_
  exact least_place_q bss true _ (head_any (fun a => least_place_q bss false _ (head_any (fun b => h _) (h _))) (least_place_q bss false _ (head_any (fun b => h _) (h _))))
theorem shows_openX {many : Nat} {bss : List (List Bool)} (ok : TbOk many bss) (K : PyData → Prop) (E : Str → Prop) (h : ∀ d, K d) : q_shows_open (tabD bss) .none K E := by
  unfold q_shows_open
  refine need_tableX _ _ _ (fun _ => ?_) fun e => by rw [ok.tab] at e; cases e
  walk_at "q"
  exact h _
theorem no_word (d : PyData) (K : PyData → Prop) (E : Str → Prop) (hd : isTab d = false) (h : E "NoTable") : q_word_of d K E := by
  unfold q_word_of
  exact need_tableX d _ _ (fun e => by rw [hd] at e; cases e) fun _ => h
section
variable {a b : PyData} {K : PyData → Prop}
theorem asked1 (h : q_word_of a (fun _ => K .none) fun c => q_law_sort (exD c) fun w => K w) : q_law_asked (.int 1) (.list [a, b]) K := by
  unfold q_law_asked
  simp only [q_ix, q_ixL, q_jn, q_eq, q_bT, decide_true, bIf_t, Int.reduceEq, decide_false, bIf_f, at0]
  exact h
theorem asked2 (h : q_open_by a (fun _ => K .none) fun c => q_law_sort (exD c) fun w => K w) : q_law_asked (.int 2) (.list [a, b]) K := by
  unfold q_law_asked
  simp only [q_ix, q_ixL, q_jn, q_eq, q_bT, decide_true, bIf_t, Int.reduceEq, decide_false, bIf_f, at0]
  exact h
theorem asked3 (h : q_shows_open a b (fun _ => K .none) fun c => q_law_sort (exD c) fun w => K w) : q_law_asked (.int 3) (.list [a, b]) K := by
  unfold q_law_asked
  simp only [q_ix, q_ixL, q_jn, q_eq, q_bT, decide_true, bIf_t, Int.reduceEq, decide_false, bIf_f, at0, at1]
  exact h
theorem asked_tab {door : Nat} (h0 : 1 ≤ door) (h1 : door ≤ 3) (hd : isTab a = false) (h : K (.str "table")) : q_law_asked (.int (door : Int)) (.list [a, b]) K := by
  match door, h0, h1 with
  | 1, _, _ => exact asked1 (no_word a _ _ hd (sort_table _ h))
  | 2, _, _ =>
    refine asked2 ?_
    unfold q_open_by
    exact no_word a _ _ hd (sort_table _ h)
  | 3, _, _ =>
    refine asked3 ?_
    unfold q_shows_open
    exact need_tableX a _ _ (fun e => by rw [hd] at e; cases e) fun _ => sort_table _ h
theorem asked_tabN {door : Nat} (h0 : 1 ≤ door) (h1 : door ≤ 3) {many : Nat} {bss : List (List Bool)} (ok : TbOk many bss) (h : K .none) : q_law_asked (.int (door : Int)) (.list [tabD bss, .none]) K := by
  match door, h0, h1 with
  | 1, _, _ => exact asked1 (word_ofX ok _ _ fun _ => h)
  | 2, _, _ => exact asked2 (open_byX ok _ _ fun _ => h)
  | 3, _, _ => exact asked3 (shows_openX ok _ _ fun _ => h)
end
/-- the sort of what sight_table refuses -/
def wordS (a b x y m : PyData) : PyData := if (isBooks a && isBooks b) = true then (if goodC x y = true then (if isIn m 0 100000 = true then .none else .str "miles") else .str "chase") else .str "logs"
theorem asked0 {a b x y m : PyData} {K : PyData → Prop} (h : q_sight_table a b x y m (fun _ => K .none) fun c => q_law_sort (exD c) fun w => K w) : q_law_asked (.int 0) (.list [a, b, x, y, m]) K := by
  unfold q_law_asked
  simp only [q_ix, q_ixL, q_jn, q_eq, q_bT, decide_true, bIf_t, Int.reduceEq, decide_false, bIf_f, at0, at1, at2, at3, at4]
  exact h
theorem asked_sight {a b x y m : PyData} (ga : isBooks a = true → ∃ as, a = bksD as ∧ BksOk as) (gb : isBooks b = true → ∃ bs, b = bksD bs ∧ BksOk bs) {K : PyData → Prop} (h : K (wordS a b x y m)) : q_law_asked (.int 0) (.list [a, b, x, y, m]) K := by
  refine asked0 ?_
  unfold wordS at h
  refine sightX a b x y m _ _ ga gb (fun e => sort_logs _ ?_) (fun e e2 => sort_logs _ ?_) (fun e e2 e3 => sort_chase _ ?_) (fun e e2 e3 e4 => sort_miles _ ?_) fun e e2 e3 e4 _ => ?_
  · rw [e] at h; exact h
  · rw [e, e2] at h; exact h
  · rw [e, e2, e3] at h; exact h
  · rw [e, e2, e3, e4] at h; exact h
  · rw [e, e2, e3, e4] at h; exact h
def SmI : PyData → Prop := Sm 20 3
theorem row_smI {r : Rw} (h : RowOk r) : SmI (rowD r) := by
  have h0 := h.h0
  have h1 := h.h1
  have x0 := h.x0
  have x1 := h.x1
  have y0 := h.y0
  have y1 := h.y1
  exact (Sm.tup (n := 3) (b := 0) (k := 0) (by simp) fun x hx => by
    simp only [List.mem_cons, List.not_mem_nil, or_false] at hx
    rcases hx with rfl | rfl | rfl <;> exact Sm.int' (by omega) (by omega)).mono
theorem log_sm {ds : List PyData} (hl : ds.length ≤ 50) (h : ∀ d ∈ ds, SmI d) : Sm 1050 4 (.tuple ds) := Sm.tup (n := 50) (b := 20) (k := 3) hl h
theorem logL_sm {ds : List PyData} (hl : ds.length ≤ 50) (h : ∀ d ∈ ds, SmI d) : Sm 1050 4 (.list ds) := Sm.lst (n := 50) (b := 20) (k := 3) hl h
theorem bks_sm {ds : List PyData} (hl : ds.length ≤ 5) (h : ∀ d ∈ ds, Sm 1050 4 d) : Sm 6000 6 (.tuple ds) := (Sm.tup (n := 5) (b := 1050) (k := 4) hl h).mono
theorem bksL_sm {ds : List PyData} (hl : ds.length ≤ 5) (h : ∀ d ∈ ds, Sm 1050 4 d) : Sm 6000 6 (.list ds) := (Sm.lst (n := 5) (b := 1050) (k := 4) hl h).mono
theorem rowsIn {rs : List Rw} (h : LogOk rs) : ∀ d ∈ rs.map rowD, SmI d := fun d hd => by
  obtain ⟨r, hr, rfl⟩ := List.mem_map.mp hd
  exact row_smI (h.ok r hr)
theorem logD_sm {rs : List Rw} (h : LogOk rs) : Sm 1050 4 (logD rs) := log_sm (by have := h.n1; simp; omega) (rowsIn h)
theorem bksD_sm {as : List (List Rw)} (h : BksOk as) : Sm 6000 6 (bksD as) := bks_sm (by have := h.n1; simp; omega) fun d hd => by
  obtain ⟨a, ha, rfl⟩ := List.mem_map.mp hd
  exact logD_sm (h.ok a ha)
theorem books_not {xs : List PyData} {x : PyData} (hx : x ∈ xs) (h : isLog x = false) : isBooks (.tuple xs) = false := by
  cases e : isBooks (.tuple xs) with
  | false => rfl
  | true =>
    rw [isBooks_t] at e
    simp only [Bool.and_eq_true, List.all_eq_true] at e
    rw [e.2 x hx] at h
    cases h
theorem books_five {xs : List PyData} (h : 4 < xs.length) : isBooks (.tuple xs) = false := by
  rw [isBooks_t, decide_eq_false (show ¬ xs.length ≤ 4 by omega)]
  simp
theorem rows_last {d : PyData} : ∀ {xs : List PyData} {l : Int}, rowsFrom l (xs ++ [d]) = true → l < hourOf d
  | [], l, h => by
    simp only [List.nil_append, rowsFrom, Bool.and_eq_true, decide_eq_true_eq] at h
    exact h.2.1
  | x :: xs, l, h => by
    rw [List.cons_append] at h
    simp only [rowsFrom, Bool.and_eq_true, decide_eq_true_eq] at h
    have := rows_last h.2.2
    omega
theorem no_ahead {ds : List PyData} {d : PyData} : isLog (.tuple (d :: (ds ++ [d]))) = false := by
  cases e : isLog (.tuple (d :: (ds ++ [d]))) with
  | false => rfl
  | true =>
    simp only [isLog, rowsFrom, Bool.and_eq_true, decide_eq_true_eq] at e
    have := rows_last e.2.2.2
    omega
theorem row_no_log {r : Rw} : isLog (rowD r) = false := by
  refine no_row (x := .int r.h) ?_ rfl
  simp
def OddB (d : PyData) : Prop := isBooks d = false ∧ Sm 6000 6 d
theorem no_books_q {n : Int} {xs : List PyData} (hp : CupOk n xs) (hn : n ≤ 10 ^ 5) {as : List (List Rw)} (ha : BksOk as) (K : PyData → List PyData → Prop) (h : ∀ d xs', OddB d → CupOk (n + 4) xs' → K d xs') : q_law_no_books xs (bksD as) K := by
  have a0 := ha.n0
  have a1 := ha.n1
  unfold q_law_no_books
  walk_at "q"
  refine cup_take_q hp (by omega) (by omega) (by omega) _ fun i xs i0 i1 hp => ?_
  walk_at "q"
  refine pick_mem i0 (by simpa using i1) fun l hl => ?_
  obtain ⟨rs, hrs, rfl⟩ := List.mem_map.mp hl
  have hr := ha.ok rs hrs
  have n0 := hr.n0
  have n1 := hr.n1
  walk_at "q"
  refine cup_take_q hp (by omega) (by omega) (by omega) _ fun at_ xs t0 t1 hp => ?_
  refine pick_idx t0 (by simpa using t1) fun j d hd ej => ?_
  obtain ⟨r, er, rfl⟩ := row_get hd
  have zr := hr.ok r (List.mem_of_getElem? er)
  have h0 := zr.h0
  have h1 := zr.h1
  have x0 := zr.x0
  have x1 := zr.x1
  have y0 := zr.y0
  have y1 := zr.y1
  simp only [rowD]
  walk_at "go"
  refine cup_take_q hp (by omega) (by decide) (by decide) _ fun u xs u0 u1 hp => ?_
  walk_at "q"
  refine pick_mem u0 (by simpa using u1) fun o ho => ?_
  have bad : isRow o = false ∧ SmI o := by
    have f1 : isFar (.int 10001) = false := rfl
    have f2 : isFar (.bool true) = false := rfl
    have f3 : isFar .none = false := rfl
    have f4 : isFar (.tuple [.int r.y, .int 1]) = false := rfl
    have f5 : isIn (.int 100001) 0 100000 = false := rfl
    have f6 : isIn (.int (-1)) 0 100000 = false := rfl
    have two : SmI (.tuple [.int r.h, .int r.x]) := (Sm.tup (n := 2) (b := 0) (k := 0) (by simp) fun x hx => by
      simp only [List.mem_cons, List.not_mem_nil, or_false] at hx
      rcases hx with rfl | rfl <;> exact Sm.int' (by omega) (by omega)).mono
    have any : ∀ {a b c : PyData}, Sm 4 1 a → Sm 4 1 b → Sm 4 1 c → SmI (.tuple [a, b, c]) := fun {a b c} ha hb hc => (Sm.tup (n := 3) (b := 4) (k := 1) (by simp) fun x hx => by
      simp only [List.mem_cons, List.not_mem_nil, or_false] at hx
      rcases hx with rfl | rfl | rfl
      · exact ha
      · exact hb
      · exact hc).mono
    have ih : ∀ {k}, Sm 4 k (.int r.h) := fun {k} => Sm.int' (by omega) (by omega)
    have ix : ∀ {k}, Sm 4 k (.int r.x) := fun {k} => Sm.int' (by omega) (by omega)
    have iy : ∀ {k}, Sm 4 k (.int r.y) := fun {k} => Sm.int' (by omega) (by omega)
    have big : ∀ {k}, Sm 4 k (.int 10001) := fun {k} => Sm.int' (by decide) (by decide)
    have big2 : ∀ {k}, Sm 4 k (.int 100001) := fun {k} => Sm.int' (by decide) (by decide)
    have neg : ∀ {k}, Sm 4 k (.int (-1)) := fun {k} => Sm.int' (by decide) (by decide)
    simp only [List.mem_cons, List.not_mem_nil, or_false] at ho
    rcases ho with rfl | rfl | rfl | rfl | rfl | rfl | rfl | rfl | rfl | rfl | rfl | rfl
    · exact ⟨rfl, two⟩
    · exact ⟨rfl, (Sm.tup (n := 4) (b := 0) (k := 0) (by simp) fun x hx => by
        simp only [List.mem_cons, List.not_mem_nil, or_false] at hx
        rcases hx with rfl | rfl | rfl | rfl <;> exact Sm.int' (by omega) (by omega)).mono⟩
    · exact ⟨rfl, (Sm.lst (n := 3) (b := 0) (k := 0) (by simp) fun x hx => by
        simp only [List.mem_cons, List.not_mem_nil, or_false] at hx
        rcases hx with rfl | rfl | rfl <;> exact Sm.int' (by omega) (by omega)).mono⟩
    · exact ⟨by simp only [isRow, f3, Bool.and_false], any ih ix (Sm.none _ _)⟩
    · exact ⟨by simp only [isRow, f1, Bool.and_false, Bool.false_and], any ih big iy⟩
    · exact ⟨by simp only [isRow, isIn, Bool.and_false, Bool.false_and], any (Sm.bool _ _) ix iy⟩
    · exact ⟨by simp only [isRow, f2, Bool.and_false], any ih ix (Sm.bool _ _)⟩
    · exact ⟨by simp only [isRow, f5, Bool.false_and], any big2 ix iy⟩
    · exact ⟨by simp only [isRow, f6, Bool.false_and], any neg ix iy⟩
    · exact ⟨by simp only [isRow, isIn, Bool.false_and], any ⟨by decide, by decide, by decide⟩ ix iy⟩
    · exact ⟨by simp only [isRow, f4, Bool.and_false], any ih ix ((Sm.tup (n := 2) (b := 0) (k := 0) (by simp) fun x hx => by
        simp only [List.mem_cons, List.not_mem_nil, or_false] at hx
        rcases hx with rfl | rfl
        · exact Sm.int' (by omega) (by omega)
        · exact Sm.int' (by decide) (by decide)).mono)⟩
    · exact ⟨rfl, Sm.none _ _⟩
  clear ho
  have c1 := @cut_len (rs.map rowD) none (some at_)
  have c2 := @cut_len (rs.map rowD) (some (at_ + 1)) none
  have c3 := @cut_len (as.map logD) none (some 3)
  rw [List.length_map] at c1 c2 c3
  obtain ⟨ds, d, eds⟩ : ∃ ds d, rs.map rowD = ds ++ [d] := by
    have ne : rs.map rowD ≠ [] := by
      intro z
      rw [List.map_eq_nil_iff.mp z] at n0
      simp at n0
    exact ⟨_, _, (List.dropLast_concat_getLast ne).symm⟩
  have len : ds.length + 1 = rs.length := by
    have := congrArg List.length eds
    simpa using this.symm
  have cl : DL.cutD (rs.map rowD) (some (-1)) none = [d] := by rw [eds]; exact cut_last
  have md : d ∈ rs.map rowD := by rw [eds]; simp
  have lg := logD_sm hr
  have rowL : (rs.map rowD).length = rs.length := by simp
  refine ⟨by omega, by omega, by omega, ⟨by simp, by decide, by decide, by decide⟩, by rw [cl]; simp; omega, ?_⟩
  have pk : ∀ P : PyData → Prop, P d → pick (rs.map rowD) (-1) P := fun P hP => by
    rw [eds, atLast]
    exact hP
  refine pk _ ⟨by omega, by decide, ?_⟩
  rw [cl]
  refine qLc_map (fun d => .tuple [d, .int 0, .int 0]) (by simp [rangeD]) (fun d _ sk yd hy => by unfold qb_law_no_books_1; exact hy) ?_
  walk_at "q"
  refine ⟨by decide, ?_⟩
  refine cup_take_q hp (by omega) (by decide) (by decide) _ fun v xs v0 v1 hp => ?_
  refine pick_mem v0 (by simpa using v1) fun e he => h _ _ ?_ (hp.mono (by omega))
  -- the spoilt log
  have sL : isLog (.tuple (DL.cutD (rs.map rowD) none (some at_) ++ [o] ++ DL.cutD (rs.map rowD) (some (at_ + 1)) none)) = false := no_row (x := o) (by simp) bad.1
  have sS : Sm 1050 4 (.tuple (DL.cutD (rs.map rowD) none (some at_) ++ [o] ++ DL.cutD (rs.map rowD) (some (at_ + 1)) none)) := log_sm (by simp; omega) fun x hx => by
    simp only [List.mem_append, List.mem_singleton] at hx
    rcases hx with (hx | rfl) | hx
    · exact rowsIn hr _ (cut_mem hx)
    · exact bad.2
    · exact rowsIn hr _ (cut_mem hx)
  generalize (PyData.tuple (DL.cutD (rs.map rowD) none (some at_) ++ [o] ++ DL.cutD (rs.map rowD) (some (at_ + 1)) none)) = sp at sL sS he
  have one : ∀ {x : PyData}, isLog x = false → Sm 1050 4 x → OddB (.tuple [x]) := fun {x} h1 h2 => ⟨books_not (x := x) (by simp) h1, bks_sm (by simp) fun y hy => by rw [List.mem_singleton.mp hy]; exact h2⟩
  have il : isLog (.tuple []) = false := rfl
  simp only [List.mem_cons, List.not_mem_nil, or_false] at he
  rcases he with rfl | rfl | rfl | rfl | rfl | rfl | rfl | rfl | rfl | rfl | rfl | rfl | rfl | rfl | rfl | rfl
  · exact one sL sS
  · exact ⟨books_not (x := sp) (by simp) sL, bks_sm (by simp; omega) fun y hy => by
      rcases List.mem_append.mp hy with hy | hy
      · obtain ⟨a, ma, rfl⟩ := List.mem_map.mp (cut_mem hy)
        exact logD_sm (ha.ok a ma)
      · rw [List.mem_singleton.mp hy]; exact sS⟩
  · exact ⟨rfl, bks_sm (by simp) (by simp)⟩
  · exact ⟨rfl, bksL_sm (by simp; omega) fun y hy => by
      obtain ⟨a, ma, rfl⟩ := List.mem_map.mp hy
      exact logD_sm (ha.ok a ma)⟩
  · exact ⟨rfl, Sm.none _ _⟩
  · exact ⟨rfl, Sm.int' (by decide) (by decide)⟩
  · exact ⟨books_not (x := .tuple []) (by simp) il, bks_sm (by simp) fun y hy => by
      simp only [List.mem_cons, List.not_mem_nil, or_false] at hy
      rcases hy with rfl | rfl
      · exact lg
      · exact log_sm (by simp) (by simp)⟩
  · exact one rfl (logL_sm (by simp; omega) (rowsIn hr))
  · refine ⟨books_five ?_, bks_sm ?_ fun y hy => ?_⟩
    · exact show 4 < [logD rs, logD rs, logD rs, logD rs, logD rs].length by simp
    · exact show [logD rs, logD rs, logD rs, logD rs, logD rs].length ≤ 5 by simp
    · have : y = logD rs := by
        have e5 : (List.replicate (Int.toNat 5) [logD rs]).flatten = [logD rs, logD rs, logD rs, logD rs, logD rs] := rfl
        rw [e5] at hy
        simpa using hy
      rw [this]
      exact lg
  · refine ⟨?_, lg.mono⟩
    obtain ⟨q, qs, rfl⟩ : ∃ q qs, rs = q :: qs := by
      cases rs with
      | nil => simp at n0
      | cons p ps => exact ⟨p, ps, rfl⟩
    exact books_not (x := rowD q) (by simp) row_no_log
  · refine one ?_ (log_sm (by simp; omega) fun y hy => ?_)
    · rw [eds, List.append_assoc]
      exact no_twice
    · rcases List.mem_append.mp hy with hy | hy
      · exact rowsIn hr _ hy
      · rw [List.mem_singleton.mp hy]; exact rowsIn hr _ md
  · refine one ?_ (log_sm (by simp; omega) fun y hy => ?_)
    · rw [eds]
      exact no_ahead
    · rcases List.mem_cons.mp hy with rfl | hy
      · exact rowsIn hr _ md
      · exact rowsIn hr _ hy
  · refine one (no_long (by simp [rangeD])) (log_sm (by simp [rangeD]) fun y hy => ?_)
    obtain ⟨z, hz, rfl⟩ := List.mem_map.mp hy
    unfold rangeD at hz
    obtain ⟨k, hk, rfl⟩ := List.mem_map.mp hz
    have := List.mem_range.mp hk
    refine (Sm.tup (n := 3) (b := 0) (k := 0) (by simp) fun x hx => ?_).mono
    simp only [List.mem_cons, List.not_mem_nil, or_false] at hx
    rcases hx with rfl | rfl | rfl <;> exact Sm.int' (by omega) (by omega)
  · exact ⟨rfl, Sm.dict0 _ _⟩
  · exact ⟨rfl, ⟨by decide, by decide, by decide⟩⟩
  · exact ⟨rfl, Sm.bool _ _⟩
def OddC (x y : PyData) : Prop := goodC x y = false ∧ Sm 6000 6 x ∧ Sm 6000 6 y
theorem no_goodC {i j : Int} (h : ¬ (0 ≤ i ∧ i ≤ 100000 ∧ 0 ≤ j ∧ j ≤ 100000 ∧ i ≤ j)) : goodC (.int i) (.int j) = false := by
  cases e : goodC (.int i) (.int j) with
  | false => rfl
  | true =>
    obtain ⟨i', j', e1, e2, r⟩ := goodC_in e
    cases e1
    cases e2
    exact absurd r h
theorem no_chase_q {n lo hi : Int} {xs : List PyData} (hp : CupOk n xs) (hn : n ≤ 10 ^ 5) (l0 : 0 ≤ lo) (lh : lo ≤ hi) (h1 : hi ≤ 100000) (K : PyData → List PyData → Prop) (h : ∀ x y xs', OddC x y → CupOk (n + 1) xs' → K (.tuple [x, y]) xs') : q_law_no_chase xs (.int lo) (.int hi) K := by
  unfold q_law_no_chase
  have z := sz_of (i := 10) (by decide) (by decide)
  have e39 : (10 : Int) ^ Int.toNat 39 = 10 ^ 39 := by decide
  walk_at "go"
  refine cup_take_q hp (by omega) (by decide) (by decide) _ fun v xs v0 v1 hp => ?_
  refine pick_mem v0 (by simpa using v1) fun e he => ?_
  obtain ⟨x, y, rfl, od⟩ : ∃ x y, e = .tuple [x, y] ∧ OddC x y := by
    have iS : ∀ {i : Int}, -(10 ^ 100) ≤ i → i ≤ 10 ^ 100 → Sm 6000 6 (.int i) := fun h0 h1 => Sm.int' h0 h1
    have ones : ∀ {i j : Int}, -(10 ^ 100) ≤ i → i ≤ 10 ^ 100 → -(10 ^ 100) ≤ j → j ≤ 10 ^ 100 → Sm 6000 6 (.tuple [.int i, .int j]) := fun {i j} a b c d => (Sm.tup (n := 2) (b := 0) (k := 0) (by simp) fun x hx => by
      simp only [List.mem_cons, List.not_mem_nil, or_false] at hx
      rcases hx with rfl | rfl
      · exact Sm.int' a b
      · exact Sm.int' c d).mono
    have sl := iS (i := lo) (by omega) (by omega)
    have sh := iS (i := hi) (by omega) (by omega)
    simp only [List.mem_cons, List.not_mem_nil, or_false] at he
    rcases he with rfl | rfl | rfl | rfl | rfl | rfl | rfl | rfl | rfl | rfl | rfl | rfl | rfl <;> refine ⟨_, _, rfl, ?_⟩
    · exact ⟨no_goodC (by omega), iS (by omega) (by omega), sh⟩
    · exact ⟨no_goodC (by omega), iS (by decide) (by decide), sh⟩
    · exact ⟨no_goodC (by omega), sl, iS (by decide) (by decide)⟩
    · exact ⟨rfl, Sm.bool _ _, sh⟩
    · exact ⟨rfl, sl, Sm.none _ _⟩
    · exact ⟨rfl, ⟨by decide, by decide, by decide⟩, sh⟩
    · exact ⟨rfl, sl, (Sm.lst (n := 1) (b := 0) (k := 0) (by simp) fun x hx => by
        rw [List.mem_singleton.mp hx]
        exact Sm.int' (by omega) (by omega)).mono⟩
    · exact ⟨rfl, sl, ones (by omega) (by omega) (by decide) (by decide)⟩
    · exact ⟨rfl, Sm.none _ _, Sm.none _ _⟩
    · exact ⟨rfl, sl, Sm.bool _ _⟩
    · exact ⟨no_goodC (by decide), iS (by decide) (by decide), iS (by decide) (by decide)⟩
    · exact ⟨rfl, ones (by omega) (by omega) (by decide) (by decide), sh⟩
    · exact ⟨no_goodC (by decide), iS (by decide) (by decide), iS (by decide) (by decide)⟩
  exact h x y _ od hp
def OddM (d : PyData) : Prop := isIn d 0 100000 = false ∧ Sm 6000 6 d
theorem no_miles_q {n : Int} {xs : List PyData} (hp : CupOk n xs) (hn : n ≤ 10 ^ 5) (K : PyData → List PyData → Prop) (h : ∀ d xs', OddM d → CupOk (n + 1) xs' → K d xs') : q_law_no_miles xs K := by
  unfold q_law_no_miles
  have z := sz_of (i := 10) (by decide) (by decide)
  walk_at "go"
  refine cup_take_q hp (by omega) (by decide) (by decide) _ fun v xs v0 v1 hp => ?_
  walk_at "q"
  refine pick_mem v0 (by simpa using v1) fun e he => h _ _ ?_ (hp.mono (by omega))
  have iS : ∀ {i : Int}, -(10 ^ 100) ≤ i → i ≤ 10 ^ 100 → Sm 6000 6 (.int i) := fun h0 h1 => Sm.int' h0 h1
  have few : ∀ {xs : List Int}, xs.length ≤ 2 → (∀ i ∈ xs, -(10 ^ 100) ≤ i ∧ i ≤ 10 ^ 100) → Sm 6000 6 (.tuple (xs.map .int)) ∧ Sm 6000 6 (.list (xs.map .int)) := fun {xs} hl hx => by
    have hx : ∀ x ∈ xs.map PyData.int, Sm 0 0 x := fun x m => by
      obtain ⟨i, mi, rfl⟩ := List.mem_map.mp m
      exact Sm.int' (hx i mi).1 (hx i mi).2
    exact ⟨(Sm.tup (n := 2) (b := 0) (k := 0) (by simpa using hl) hx).mono, (Sm.lst (n := 2) (b := 0) (k := 0) (by simpa using hl) hx).mono⟩
  simp only [List.mem_cons, List.not_mem_nil, or_false] at he
  rcases he with rfl | rfl | rfl | rfl | rfl | rfl | rfl | rfl | rfl | rfl | rfl | rfl
  · exact ⟨rfl, iS (by decide) (by decide)⟩
  · exact ⟨rfl, iS (by decide) (by decide)⟩
  · exact ⟨rfl, Sm.bool _ _⟩
  · exact ⟨rfl, Sm.bool _ _⟩
  · exact ⟨rfl, Sm.none _ _⟩
  · exact ⟨rfl, ⟨by decide, by decide, by decide⟩⟩
  · exact ⟨rfl, (few (xs := [5]) (by decide) (by decide)).1⟩
  · exact ⟨rfl, (few (xs := [5]) (by decide) (by decide)).2⟩
  · exact ⟨by decide, iS (by decide) (by decide)⟩
  · exact ⟨rfl, Sm.dict0 _ _⟩
  · exact ⟨rfl, (few (xs := [5, 1]) (by decide) (by decide)).1⟩
  · exact ⟨rfl, ⟨by decide, by decide, by decide⟩⟩
def OddT (d : PyData) : Prop := isTab d = false ∧ Sm 6000 6 d
theorem tab_not {xs : List PyData} {x : PyData} (hx : x ∈ xs) (h : isTRow x = false) : isTab (.tuple xs) = false := by
  cases e : isTab (.tuple xs) with
  | false => rfl
  | true =>
    rw [isTab_t] at e
    simp only [Bool.and_eq_true, List.all_eq_true] at e
    rw [e.1.2 x hx] at h
    cases h
theorem tab_uneven {a b : PyData} {xs : List PyData} (h : tlen b ≠ tlen a) (hb : b ∈ xs) : isTab (.tuple (a :: xs)) = false := by
  cases e : isTab (.tuple (a :: xs)) with
  | false => rfl
  | true =>
    rw [isTab_t] at e
    simp only [Bool.and_eq_true, List.all_eq_true, decide_eq_true_eq] at e
    exact absurd (e.2 b (List.mem_cons_of_mem _ hb)) h
theorem no_table_q {n : Int} {xs : List PyData} (hp : CupOk n xs) (hn : n ≤ 10 ^ 5) {many : Nat} {bss : List (List Bool)} (ok : TbOk many bss) (K : PyData → List PyData → Prop) (h : ∀ d xs', OddT d → CupOk (n + 2) xs' → K d xs') : q_law_no_table xs (tabD bss) K := by
  have l0 := ok.1
  have l1 := ok.2.1
  have m0 := ok.2.2.1
  have m1 := ok.2.2.2.1
  unfold q_law_no_table
  unfold tabD
  walk_at "q"
  refine cup_take_q hp (by omega) (by omega) (by omega) _ fun i xs i0 i1 hp => ?_
  refine pick_mem i0 (by simpa using i1) fun l hl => ?_
  obtain ⟨bs, hbs, rfl⟩ := List.mem_map.mp hl
  have hb := ok.2.2.2.2 bs hbs
  unfold rowD1
  walk_at "q"
  refine ⟨by omega, by omega, ⟨by simp, by decide, by decide, by decide⟩, ⟨by simp, by decide, by decide, by decide⟩, by omega, by decide, ?_⟩
  refine cup_take_q hp (by omega) (by decide) (by decide) _ fun v xs v0 v1 hp => ?_
  refine pick_mem v0 (by simpa using v1) fun e he => h _ _ ?_ (hp.mono (by omega))
  obtain ⟨b0, br, eb⟩ : ∃ b0 br, bss = b0 :: br := by
    cases bss with
    | nil => simp at l0
    | cons a b => exact ⟨a, b, rfl⟩
  have lb0 : b0.length = many := ok.2.2.2.2 b0 (by rw [eb]; simp)
  obtain ⟨c0, cr, ec⟩ : ∃ c0 cr, bs = c0 :: cr := by
    cases bs with
    | nil => simp at hb; omega
    | cons a b => exact ⟨a, b, rfl⟩
  have sB : ∀ {k} {bs : List Bool}, bs.length ≤ 5 → Sm 20 (k + 1) (.tuple (bs.map .bool)) ∧ Sm 20 (k + 1) (.list (bs.map .bool)) := fun {k bs} hl => by
    have hx : ∀ x ∈ bs.map PyData.bool, Sm 0 k x := fun x m => by
      obtain ⟨i, mi, rfl⟩ := List.mem_map.mp m
      exact Sm.bool _ _
    exact ⟨(Sm.tup (n := 5) (b := 0) (k := k) (by simpa using hl) hx).mono, (Sm.lst (n := 5) (b := 0) (k := k) (by simpa using hl) hx).mono⟩
  have sT : ∀ {k} {ds : List PyData}, ds.length ≤ 5 → (∀ d ∈ ds, Sm 20 k d) → Sm 6000 (k + 1) (.tuple ds) ∧ Sm 6000 (k + 1) (.list ds) := fun {k ds} hl hx => ⟨(Sm.tup (n := 5) (b := 20) (k := k) hl hx).mono, (Sm.lst (n := 5) (b := 20) (k := k) hl hx).mono⟩
  have rows : ∀ d ∈ bss.map (fun bs => PyData.tuple (bs.map .bool)), Sm 20 5 d := fun d hd => by
    obtain ⟨a, ma, rfl⟩ := List.mem_map.mp hd
    exact (sB (k := 4) (by have := ok.2.2.2.2 a ma; omega)).1
  have rowS : Sm 20 5 (.tuple (bs.map .bool)) := (sB (k := 4) (by omega)).1
  have cutS : ∀ lo hi, Sm 20 5 (.tuple (DL.cutD (bs.map .bool) lo hi)) := fun lo hi => by
    have c := @cut_len (bs.map .bool) lo hi
    rw [List.length_map] at c
    exact (Sm.tup (n := 5) (b := 0) (k := 4) (by omega) fun x hx => by
      obtain ⟨i, mi, rfl⟩ := List.mem_map.mp (cut_mem hx)
      exact Sm.bool _ _).mono
  have tT : Sm 6000 6 (.tuple [.bool true]) := (sB (k := 5) (bs := [true]) (by decide)).1.mono
  simp only [List.mem_cons, List.not_mem_nil, or_false] at he
  rcases he with rfl | rfl | rfl | rfl | rfl | rfl | rfl | rfl | rfl | rfl | rfl | rfl | rfl | rfl | rfl | rfl | rfl | rfl
  · exact ⟨rfl, (sT (k := 5) (by simp) (by simp)).1⟩
  · exact ⟨rfl, (sT (k := 5) (ds := [.tuple []]) (by simp) fun x hx => by rw [List.mem_singleton.mp hx]; exact (sB (k := 4) (bs := []) (by simp)).1).1⟩
  · exact ⟨rfl, (sT (k := 5) (by simp; omega) rows).2⟩
  · exact ⟨rfl, Sm.none _ _⟩
  · exact ⟨rfl, Sm.int' (by decide) (by decide)⟩
  · exact ⟨rfl, Sm.bool _ _⟩
  · exact ⟨rfl, ⟨by decide, by decide, by decide⟩⟩
  · refine ⟨?_, (sT (k := 5) (by simp; omega) fun d hd => ?_).1⟩
    · rw [eb, List.map_cons, List.cons_append]
      refine tab_uneven (b := .tuple (bs.map .bool ++ [.bool true])) ?_ (by simp)
      simp only [tlen, List.length_append, List.length_map, List.length_singleton]
      omega
    · rcases List.mem_append.mp hd with hd | hd
      · exact rows d hd
      · rw [List.mem_singleton.mp hd]
        have := (sB (k := 4) (bs := bs ++ [true]) (by simp; omega)).1
        rw [List.map_append] at this
        exact this
  · refine ⟨tab_uneven (b := .tuple (DL.cutD (bs.map .bool) none (some (-1)))) ?_ (by simp), (sT (k := 5) (by simp) fun d hd => ?_).1⟩
    · have e : (DL.cutD (bs.map PyData.bool) none (some (-1))).length < (bs.map PyData.bool).length := by
        rw [ec]
        unfold DL.cutD HT.sIx
        rw [List.length_take, List.map_cons, List.length_cons]
        simp only [List.length_drop]
        have : ((-1 : Int) < 0) := by decide
        simp
        omega
      simp only [tlen]
      omega
    · simp only [List.mem_cons, List.not_mem_nil, or_false] at hd
      rcases hd with rfl | rfl
      · exact rowS
      · exact cutS _ _
  · have e5 : (List.replicate (Int.toNat 5) [PyData.tuple (bs.map .bool)]).flatten = [.tuple (bs.map .bool), .tuple (bs.map .bool), .tuple (bs.map .bool), .tuple (bs.map .bool), .tuple (bs.map .bool)] := rfl
    rw [e5]
    refine ⟨?_, (sT (k := 5) (by simp) fun d hd => ?_).1⟩
    · rw [isTab_t]
      rfl
    · simp only [List.mem_cons, List.not_mem_nil, or_false, or_self] at hd
      rw [hd]
      exact rowS
  · exact ⟨tab_not (x := .bool c0) (by rw [ec]; simp) rfl, (sB (k := 5) (by omega)).1.mono⟩
  · exact ⟨rfl, (sT (k := 5) (ds := [.tuple ([true, true, true, true, true].map .bool)]) (by simp) fun x hx => by rw [List.mem_singleton.mp hx]; exact (sB (k := 4) (by simp)).1).1⟩
  · exact ⟨rfl, ⟨by decide, by decide, by decide⟩⟩
  · exact ⟨tab_not (x := .list (bs.map .bool)) (by simp) rfl, (sT (k := 5) (by simp) fun x hx => by rw [List.mem_singleton.mp hx]; exact (sB (k := 4) (by omega)).2).1⟩
  · exact ⟨rfl, ⟨by decide, by decide, by decide⟩⟩
  · exact ⟨tab_not (x := .none) (by simp) rfl, (sT (k := 5) (by simp; omega) fun d hd => by
      rcases List.mem_append.mp hd with hd | hd
      · exact rows d hd
      · rw [List.mem_singleton.mp hd]; exact Sm.none _ _).1⟩
  · exact ⟨rfl, ⟨by decide, by decide, by decide⟩⟩
  · exact ⟨rfl, Sm.dict0 _ _⟩
theorem askedf_q {n way : Int} {xs : List PyData} (hp : CupOk n xs) (hn : n ≤ 10 ^ 3) (w0 : 0 ≤ way) (w1 : way < 4) (K : PyData → List PyData → Prop)
    (hK : ∀ (step far lo hi M : Int) xs', 1 ≤ step → step ≤ 5000 → 0 ≤ far → far ≤ 10000 → 0 ≤ lo → lo ≤ hi → hi ≤ 100000 → 0 ≤ M → M ≤ 100000 → CupOk (n + 20) xs' → K (.tuple [.int step, .int far, .int lo, .int hi, .int M]) xs') : q_law_asked_for xs (.int way) K := by
  unfold q_law_asked_for
  walk_at "q"
  refine pick_mem w0 (by simpa using w1) fun d hd => ?_
  obtain ⟨step, far, rfl, s0, s1, f0, f1⟩ : ∃ s f : Int, d = .tuple [.int s, .int f] ∧ 1 ≤ s ∧ s ≤ 5000 ∧ 1 ≤ f ∧ f ≤ 10000 := by
    simp only [List.mem_cons, List.not_mem_nil, or_false] at hd
    rcases hd with rfl | rfl | rfl | rfl <;> exact ⟨_, _, rfl, by decide, by decide, by decide, by decide⟩
  walk_at "q"
  refine cup_take_q hp (by omega) (by decide) (by decide) _ fun a xs a0 a1 hp => ?_
  refine cup_take_q hp (by omega) (by decide) (by decide) _ fun b xs b0 b1 hp => ?_
  refine cup_take_q hp (by omega) (by decide) (by decide) _ fun c xs c0 c1 hp => ?_
  refine cup_take_q hp (by omega) (by decide) (by decide) _ fun e xs e0 e1 hp => ?_
  walk_at "q"
  refine pick_mem w0 (by simpa using w1) fun d hd => ?_
  obtain ⟨lo, rfl, l0, l1⟩ : ∃ h : Int, d = .int h ∧ 0 ≤ h ∧ h ≤ 100000 := by
    simp only [List.mem_cons, List.not_mem_nil, or_false] at hd
    rcases hd with rfl | rfl | rfl | rfl <;> exact ⟨_, rfl, by omega, by omega⟩
  refine cup_take_q hp (by omega) (by decide) (by decide) _ fun a xs a0 a1 hp => ?_
  refine cup_take_q hp (by omega) (by decide) (by decide) _ fun b xs b0 b1 hp => ?_
  refine cup_take_q hp (by omega) (by decide) (by decide) _ fun c xs c0 c1 hp => ?_
  walk_at "q"
  refine pick_mem c0 (by simpa using c1) fun d hd => ?_
  obtain ⟨ad, rfl, d0, d1⟩ : ∃ h : Int, d = .int h ∧ 0 ≤ h ∧ h ≤ 100000 := by
    simp only [List.mem_cons, List.not_mem_nil, or_false] at hd
    rcases hd with rfl | rfl | rfl | rfl <;> exact ⟨_, rfl, by omega, by omega⟩
  walk_at "q"
  obtain ⟨hi, eh, h0, h1⟩ : ∃ h : Int, (if lo + ad < 100000 then lo + ad else 100000) = h ∧ lo ≤ h ∧ h ≤ 100000 := ⟨_, rfl, by split <;> omega, by split <;> omega⟩
  rw [eh]
  refine cup_take_q hp (by omega) (by decide) (by decide) _ fun a xs a0 a1 hp => ?_
  walk_at "q"
  refine cup_take_q hp (by omega) (by omega) (by omega) _ fun b xs b0 b1 hp => ?_
  walk_at "q"
  refine ⟨⟨by walk_at "side", by walk_at "side"⟩, ?_⟩
  refine cup_take_q hp (by omega) (by omega) (by omega) _ fun c xs c0 c1 hp => ?_
  refine cup_take_q hp (by omega) (by decide) (by decide) _ fun e xs e0 e1 hp => ?_
  walk_at "q"
  refine pick_mem e0 (by simpa using e1) fun d hd => ?_
  obtain ⟨M, rfl, m0, m1⟩ : ∃ h : Int, d = .int h ∧ 0 ≤ h ∧ h ≤ 100000 := by
    simp only [List.mem_cons, List.not_mem_nil, or_false] at hd
    rcases hd with rfl | rfl | rfl | rfl | rfl <;> exact ⟨_, rfl, by omega, by omega⟩
  exact hK _ _ _ _ _ _ s0 s1 (by omega) f1 l0 h0 h1 m0 m1 (hp.mono (by omega))
theorem tables_right_q {n : Int} {xs : List PyData} (hp : CupOk n xs) (hn : n ≤ 5000) {many : Nat} {bss : List (List Bool)} (ok : TbOk many bss) (K : PyData → List PyData → Prop) (h : ∀ xs', CupOk (n + 6) xs' → K (.bool true) xs') : q_law_tables_right xs (tabD bss) K := by
  unfold q_law_tables_right
  walk_at "q"
  refine qFor_ind (fun k s => CupOk (n + 2 * k) s) (hp.mono (by omega)) (fun k d s nx hd hp hnx => ?_) fun s hp => h _ (hp.mono (by simp only [List.length_cons, List.length_nil]; omega))
  have hk := (List.getElem?_eq_some_iff.mp hd).1
  simp only [List.length_cons, List.length_nil] at hk
  obtain ⟨door, rfl, d0, d1⟩ : ∃ door : Nat, d = .int (door : Int) ∧ 1 ≤ door ∧ door ≤ 3 := by
    have hd := List.mem_of_getElem? hd
    simp only [List.mem_cons, List.not_mem_nil, or_false] at hd
    rcases hd with rfl | rfl | rfl
    · exact ⟨1, rfl, by decide, by decide⟩
    · exact ⟨2, rfl, by decide, by decide⟩
    · exact ⟨3, rfl, by decide, by decide⟩
  unfold qb_law_tables_right_1
  refine no_table_q hp (by omega) ok _ fun d xs' od hp => ?_
  refine repr_q od.2.mono ?_
  refine asked_tab d0 d1 od.1 ?_
  walk_at "q"
  refine repr_q od.2.mono ?_
  walk_at "q"
  refine asked_tabN d0 d1 ok ?_
  walk_at "q"
  exact hnx _ (hp.mono (by omega))
def pk2 (t : Bool) (x y : PyData) : PyData := if t = true then x else y
theorem turn_q {n lo hi M : Int} {xs : List PyData} (hp : CupOk n xs) (hn : n ≤ 5000) {as bs : List (List Rw)} (ha : BksOk as) (hb : BksOk bs) (l0 : 0 ≤ lo) (lh : lo ≤ hi) (h1 : hi ≤ 100000) (m0 : 0 ≤ M) (m1 : M ≤ 100000) {d scr : PyData} {nx bk} {K : PyData → Prop}
    (h : ∀ xs', CupOk (n + 17) xs' → nx (scr, .int lo, .int hi, .int M, bksD as, bksD bs) xs') : qb_law_2 K d (scr, .int lo, .int hi, .int M, bksD as, bksD bs) xs nx bk := by
  unfold qb_law_2
  refine cup_take_q hp (by omega) (by decide) (by decide) _ fun w xs w0 w1 hp => ?_
  obtain ⟨w, rfl⟩ := Int.eq_ofNat_of_zero_le w0
  have w1 : w < 4 := by omega
  walk_at "q"
  refine ⟨by decide, ?_⟩
  refine qLc_ind (fun k acc s => acc.length ≤ k ∧ (∀ y ∈ acc, ∃ j : Nat, y = .int (j : Int) ∧ w < j ∧ j < 4) ∧ CupOk (n + 1 + k) s) ⟨by simp, by simp, hp.mono (by omega)⟩ (fun n acc s hk h => by have := h.1; rw [range_len] at hk; omega) (fun k d acc s sk yd hd hi hsk hy => ?_) fun acc s hacc => ?_
  · obtain ⟨c1, c2, c3⟩ := hi
    obtain ⟨hk, rfl⟩ := range_get hd
    have hk : k < 4 := hk
    unfold qb_law_3
    walk_at "q"
    refine bIf_d (fun hgt => ?_) fun _ => ?_
    · refine cup_take_q c3 (by omega) (by decide) (by decide) _ fun u xs u0 u1 hp => ?_
      walk_at "q"
      refine bIf_d (fun _ => ?_) fun _ => ?_
      · refine hy _ _ ⟨by simp; omega, fun y m => ?_, hp.mono (by omega)⟩
        rcases List.mem_append.mp m with m | m
        · exact c2 y m
        · rw [List.mem_singleton.mp m]
          exact ⟨k, by rw [Int.zero_add], by omega, hk⟩
      · exact hsk _ ⟨by omega, c2, hp.mono (by omega)⟩
    · exact hsk _ ⟨by omega, c2, c3.mono (by omega)⟩
  · obtain ⟨c1, c2, c3⟩ := hacc
    rw [range_len] at c1 c3
    have c1 : acc.length ≤ 4 := c1
    have c3 : CupOk (n + 5) s := c3.mono (by have : Int.toNat 4 = 4 := rfl; omega)
    walk_at "q"
    try refine ⟨by omega, ?_⟩
    refine no_books_q c3 (by omega) ha _ fun oa s z0 hp => ?_
    refine no_books_q hp (by omega) hb _ fun ob s z1 hp => ?_
    refine no_chase_q hp (by omega) l0 lh h1 _ fun ox oy s z2 hp => ?_
    refine no_miles_q hp (by omega) _ fun om s z3 hp => ?_
    walk_at "q"
    refine ⟨by decide, ?_⟩
    refine qFor_ind (fun k l => ∃ f : Nat → Bool, l = [pk2 (f 0) oa (bksD as), pk2 (f 1) ob (bksD bs), pk2 (f 2) (.tuple [ox, oy]) (.tuple [.int lo, .int hi]), pk2 (f 3) om (.int M)] ∧ (∀ j, j < w → f j = false) ∧ (1 ≤ k → f w = true)) ?_ (fun k d l nx2 hd hl hnx2 => ?_) fun l hl => ?_
    · exact ⟨fun _ => false, rfl, fun _ _ => rfl, fun z => absurd z (by decide)⟩
    · obtain ⟨f, rfl, f0, f1⟩ := hl
      obtain ⟨j, rfl, jw, j4, j0⟩ : ∃ j : Nat, d = .int (j : Int) ∧ w ≤ j ∧ j < 4 ∧ (k = 0 → j = w) := by
        cases k with
        | zero => exact ⟨w, (Option.some.inj hd).symm, Nat.le_refl _, w1, fun _ => rfl⟩
        | succ k =>
          obtain ⟨j, e, a, b⟩ := c2 d (List.mem_of_getElem? (by simpa using hd))
          exact ⟨j, e, by omega, b, fun z => by omega⟩
      unfold qb_law_4
      have step : ∀ l', l' = [pk2 ((fun i => if i = j then true else f i) 0) oa (bksD as), pk2 ((fun i => if i = j then true else f i) 1) ob (bksD bs), pk2 ((fun i => if i = j then true else f i) 2) (.tuple [ox, oy]) (.tuple [.int lo, .int hi]), pk2 ((fun i => if i = j then true else f i) 3) om (.int M)] → nx2 (scr, s, .int lo, .int hi, .int M, bksD as, bksD bs, .int (w : Int), [oa, ob, .tuple [ox, oy], om]) l' := fun l' e => by
        refine hnx2 _ ⟨fun i => if i = j then true else f i, e, fun i hi => ?_, fun _ => ?_⟩
        · show (if i = j then true else f i) = false
          rw [if_neg (by omega)]
          exact f0 i hi
        · show (if w = j then true else f w) = true
          by_cases e : w = j
          · rw [if_pos e]
          · rw [if_neg e]
            exact f1 (by
              cases k with
              | zero => exact absurd (j0 rfl).symm e
              | succ k => omega)
      have four : j = 0 ∨ j = 1 ∨ j = 2 ∨ j = 3 := by omega
      walk_at "q"
      rcases four with rfl | rfl | rfl | rfl
      · exact pick_at (k := 0) rfl (st_in (by decide) (by simp) (step _ rfl))
      · exact pick_at (k := 1) rfl (st_in (by decide) (by simp) (step _ rfl))
      · exact pick_at (k := 2) rfl (st_in (by decide) (by simp) (step _ rfl))
      · exact pick_at (k := 3) rfl (st_in (by decide) (by simp) (step _ rfl))
    · obtain ⟨f, rfl, f0, f1⟩ := hl
      have f1 := f1 (by simp)
      obtain ⟨A, eA, iA, gA, sA⟩ : ∃ A, pk2 (f 0) oa (bksD as) = A ∧ isBooks A = !(f 0) ∧ (isBooks A = true → ∃ as, A = bksD as ∧ BksOk as) ∧ Sm 6000 6 A := by
        cases f 0 with
        | false => exact ⟨_, rfl, ha.is, fun _ => ⟨as, rfl, ha⟩, bksD_sm ha⟩
        | true => exact ⟨_, rfl, z0.1, fun e => absurd (z0.1.symm.trans e) (by decide), z0.2⟩
      obtain ⟨B, eB, iB, gB, sB⟩ : ∃ A, pk2 (f 1) ob (bksD bs) = A ∧ isBooks A = !(f 1) ∧ (isBooks A = true → ∃ as, A = bksD as ∧ BksOk as) ∧ Sm 6000 6 A := by
        cases f 1 with
        | false => exact ⟨_, rfl, hb.is, fun _ => ⟨bs, rfl, hb⟩, bksD_sm hb⟩
        | true => exact ⟨_, rfl, z1.1, fun e => absurd (z1.1.symm.trans e) (by decide), z1.2⟩
      obtain ⟨x, y, eC, iC, sx, sy⟩ : ∃ x y, pk2 (f 2) (.tuple [ox, oy]) (.tuple [.int lo, .int hi]) = .tuple [x, y] ∧ goodC x y = !(f 2) ∧ Sm 6000 6 x ∧ Sm 6000 6 y := by
        cases f 2 with
        | false =>
          refine ⟨_, _, rfl, ?_, Sm.int' (by omega) (by omega), Sm.int' (by omega) (by omega)⟩
          simp only [goodC, decide_eq_true l0, decide_eq_true h1, decide_eq_true lh, decide_eq_true (show lo ≤ 100000 by omega), decide_eq_true (show 0 ≤ hi by omega)]
          rfl
        | true => exact ⟨_, _, rfl, z2.1, z2.2.1, z2.2.2⟩
      obtain ⟨m, eM, iM, sM⟩ : ∃ m, pk2 (f 3) om (.int M) = m ∧ isIn m 0 100000 = !(f 3) ∧ Sm 6000 6 m := by
        cases f 3 with
        | false =>
          refine ⟨_, rfl, ?_, Sm.int' (by omega) (by omega)⟩
          show isIn (.int M) 0 100000 = true
          simp only [isIn, decide_eq_true m0, decide_eq_true m1]
          rfl
        | true => exact ⟨_, rfl, z3.1, z3.2⟩
      rw [eA, eB, eC, eM]
      rw [show DL.cutD [A, B, .tuple [x, y], m] none (some 2) = [A, B] from rfl, show DL.cutD [A, B, .tuple [x, y], m] (some 3) none = [m] from rfl]
      have sL : Sm 50000 40 (.list [A, B, x, y, m]) := (Sm.lst (n := 5) (b := 6000) (k := 6) (by simp) fun d hd => by
        simp only [List.mem_cons, List.not_mem_nil, or_false] at hd
        rcases hd with rfl | rfl | rfl | rfl | rfl <;> assumption).mono
      walk_at "q"
      refine ⟨by decide, by decide, ?_⟩
      refine repr_q sL ?_
      obtain ⟨wd, ew, hw⟩ : ∃ wd : Str, wordS A B x y m = .str wd ∧ ([.str "logs", .str "logs", .str "chase", .str "miles"] : List PyData)[w]? = some (.str wd) := by
        have four : w = 0 ∨ w = 1 ∨ w = 2 ∨ w = 3 := by omega
        unfold wordS
        rw [iA, iB, iC, iM]
        rcases four with rfl | rfl | rfl | rfl
        · rw [f1]; exact ⟨_, rfl, rfl⟩
        · rw [f0 0 (by decide), f1]; exact ⟨_, rfl, rfl⟩
        · rw [f0 0 (by decide), f0 1 (by decide), f1]; exact ⟨_, rfl, rfl⟩
        · rw [f0 0 (by decide), f0 1 (by decide), f0 2 (by decide), f1]; exact ⟨_, rfl, rfl⟩
      refine asked_sight gA gB ?_
      rw [ew]
      refine pick_at hw ?_
      walk_at "q"
      refine repr_q sL ?_
      walk_at "q"
      exact h _ (hp.mono (by omega))
theorem zero_ok : BksOk [[⟨0, 0, 0⟩]] := ⟨by decide, by decide, fun a ha => by
  rw [List.mem_singleton.mp ha]
  exact ⟨by decide, by decide, fun r hr => by
    rw [List.mem_singleton.mp hr]
    exact ⟨by decide, by decide, by decide, by decide, by decide, by decide⟩, by constructor <;> simp⟩⟩
theorem asked_told {as bs : List (List Rw)} (ha : BksOk as) (hb : BksOk bs) {x y m : PyData} {K : PyData → Prop} (h : K (if goodC x y = true then (if isIn m 0 100000 = true then .none else .str "miles") else .str "chase")) : q_law_asked (.int 0) (.list [bksD as, bksD bs, x, y, m]) K := by
  refine asked_sight (fun _ => ⟨as, rfl, ha⟩) (fun _ => ⟨bs, rfl, hb⟩) ?_
  unfold wordS
  rw [ha.is, hb.is]
  exact h
theorem the_law (ns : List Int) (hn : ns.length ≤ 63) (K : PyData → Prop) (hK : K (.bool true)) : q_law (.list (ns.map .int)) K := by
  unfold q_law
  walk_at "q"
  refine ⟨by split <;> split <;> omega, ?_⟩
  refine qFor_range (fun _ _ => True) trivial (fun k s nx hk _ hnx => ?_) fun _ _ => ?_
  · have hk : k ≤ 8 := by
      have : ∀ i : Int, i ≤ 6 → (if i > 1 then i else 1) ≤ 8 := fun i h => by split <;> omega
      have h2 := this (if (ns.length : Int) < 6 then (ns.length : Int) else 6) (by split <;> omega)
      omega
    unfold qb_law_1
    refine cup_pot_q ns _ (by omega) (by omega) _ fun xs hp => ?_
    refine cup_take_q hp (by decide) (by decide) (by decide) _ fun w xs w0 w1 hp => ?_
    refine askedf_q hp (by decide) w0 w1 _ fun step far lo hi M xs s0 s1 f0 f1 l0 lh h1 m0 m1 hp => ?_
    walk_at "q"
    refine bookss_q hp (by decide) s0 s1 f0 f1 _ fun as xs ha hp => ?_
    refine bookss_q hp (by decide) s0 s1 f0 f1 _ fun bs xs hb hp => ?_
    walk_at "q"
    refine ⟨by decide, ?_⟩
    refine qFor_range (fun k s => CupOk (1000 + 17 * k) s) (hp.mono (by decide)) (fun k s nx2 hk hp hnx2 => ?_) fun s hp => ?_
    · have hk : k < 8 := hk
      exact turn_q hp (by omega) ha hb l0 lh h1 m0 m1 fun xs hp => hnx2 _ (hp.mono (by omega))
    · have hp : CupOk 1200 s := hp.mono (by decide)
      have g : goodC (.int lo) (.int hi) = true := by
        simp only [goodC, decide_eq_true l0, decide_eq_true h1, decide_eq_true lh, decide_eq_true (show lo ≤ 100000 by omega), decide_eq_true (show 0 ≤ hi by omega)]
        rfl
      have g2 : isIn (.int M) 0 100000 = true := by
        simp only [isIn, decide_eq_true m0, decide_eq_true m1]
        rfl
      refine asked_told ha hb ?_
      rw [g, g2]
      simp only [if_true]
      walk_at "q"
      refine cup_take_q hp (by decide) (by decide) (by decide) _ fun t xs t0 t1 hp => ?_
      walk_at "q"
      obtain ⟨rows, er⟩ : ∃ rows : Nat, 1 + t = (rows : Int) := ⟨(1 + t).toNat, by omega⟩
      rw [er]
      refine law_table_q hp (by decide) (by omega) (by omega) _ fun tab xs ht hp => ?_
      obtain ⟨many, bss, rfl, ok, _⟩ := ht.tb (by omega) (by omega)
      refine tables_right_q hp (by decide) ok _ fun xs hp => ?_
      walk_at "q"
      exact hnx _ trivial
  · walk_at "q"
    refine qFor_all (fun _ => True) trivial (fun d _ nx hd _ hnx => ?_) fun _ _ => ?_
    · simp only [List.mem_cons, List.not_mem_nil, or_false] at hd
      have hn := hnx () trivial
      unfold qb_law_5
      rcases hd with rfl | rfl
      · walk_at "q"
        refine asked_sight (fun e => by cases e) (fun e => by cases e) ?_
        have e : wordS .none .none (.int 5) (.int 4) (.int (-1)) = .str "logs" := rfl
        rw [e]
        walk_at "q"
        exact hn
      · walk_at "q"
        refine asked_told zero_ok zero_ok ?_
        rw [show goodC (.int 5) (.int 4) = false from rfl]
        simp only [Bool.false_eq_true, if_false]
        walk_at "q"
        exact hn
    · refine asked_told zero_ok zero_ok ?_
      rw [show goodC (.int 0) (.int 0) = true from rfl, show isIn (.bool true) 0 100000 = false from rfl]
      simp only [Bool.false_eq_true, if_false, if_true]
      walk_at "q"
      exact hK
section
variable {P : Program} {w : World} {K : PySem.W.Frag} {mg : Str → Option Value} {base : Heap} [SysB base]
def kk_is_whole : RT → (PyData → Prop) := fun R v => R (.dat v) []
def S_is_whole : DSp := fun as Q => match as with
  | [.dat x0] => q_is_whole x0 (kk_is_whole Q)
  | _ => False
theorem len_is_whole (as : List SD) (Q : SD → List SD → Prop) (h : S_is_whole as Q) : as.length = 1 := by
  unfold S_is_whole at h
  split at h
  · rfl
  · exact h.elim
theorem cels_is_whole : CelsIn 0 S_is_whole := by
  intro as Q h i p xs e
  unfold S_is_whole at h
  split at h
  · exact absurd e (no_cel (ds := [_]) i p xs)
  · exact h.elim
def N_is_whole : List Str := ["thing"]
theorem sc_is_whole : FnScope N_is_whole ["thing"] (defScope (top 1)) := ⟨rfl, rfl, rfl, by decide +kernel, rfl, by decide +kernel, by decide +kernel⟩
theorem fg_is_whole (T : Tp K mg)  {fd : FuncData} (Fn : Fun K "is_whole" "is_whole" (top 1) (He.ga K "is_whole") fd) : FnG P w K mg base 1 (He.ga K "is_whole") fd ["thing"] S_is_whole := by
  refine dfn 0 Fn sc_is_whole len_is_whole cels_is_whole fun cdv A outer s H hr hA => ⟨_, (sone (sret (m := 0) (dx (dandV (disi "int" "int" (m_isinstance T) (m_int T) (by decide +kernel) (by decide +kernel) (dv 0)) (done (dnotV (disi "bool" "bool" (m_isinstance T) (m_bool T) (by decide +kernel) (by decide +kernel) (dv 0)))))))), fun as Q h => ?_⟩
  unfold S_is_whole at h
  split at h
  · unfold q_is_whole at h
    rename_i x0
    refine at_env (b := [.dat x0]) rfl ?_
    exact Eq.mp (by kernel_rfl) h
  · exact h.elim
theorem ok_is_whole (T : Tp K mg)  : Dn P w K mg base "is_whole" 1 ["thing"] S_is_whole := by
  obtain ⟨kV, doc, pm, an, cdv, ct, Fn⟩ := T.fun_ "is_whole" (top 1) 0 93
  exact ⟨⟨_, fg_is_whole T  Fn, Fn.binds (ps := ["thing"]) fun _ _ _ _ _ _ us hl => match us, hl with | [_], _ => rfl⟩, T.glo "is_whole" 22, T.keep "is_whole" 93⟩
def kk_divisor_of : RT → (PyData → Prop) := fun R v => R (.dat v) []
def em_divisor_of_1 (i : Unit) (s : PyData × PyData) : List SD := [.dat s.1, .dat s.2]
def de_divisor_of_1 : List SD → Option ((Unit) × (PyData × PyData))
  | [.dat x0, .dat x1] => some ((), (x0, x1))
  | _ => none
theorem hde_divisor_of_1 : ∀ env i s, de_divisor_of_1 env = some (i, s) → env = em_divisor_of_1 i s := by
  intro env i s h
  unfold de_divisor_of_1 at h
  split at h
  · cases h; rfl
  · cases h
def S_divisor_of : DSp := fun as Q => match as with
  | [.dat x0, .dat x1] => q_divisor_of x0 x1 (kk_divisor_of Q)
  | _ => False
theorem len_divisor_of (as : List SD) (Q : SD → List SD → Prop) (h : S_divisor_of as Q) : as.length = 2 := by
  unfold S_divisor_of at h
  split at h
  · rfl
  · exact h.elim
theorem cels_divisor_of : CelsIn 0 S_divisor_of := by
  intro as Q h i p xs e
  unfold S_divisor_of at h
  split at h
  · exact absurd e (no_cel (ds := [_, _]) i p xs)
  · exact h.elim
def N_divisor_of : List Str := ["one", "other"]
theorem sc_divisor_of : FnScope N_divisor_of ["one", "other"] (defScope (top 2)) := ⟨rfl, rfl, rfl, by decide +kernel, rfl, by decide +kernel, by decide +kernel⟩
theorem fg_divisor_of (T : Tp K mg)  {fd : FuncData} (Fn : Fun K "divisor_of" "divisor_of" (top 2) (He.ga K "divisor_of") fd) : FnG P w K mg base 1 (He.ga K "divisor_of") fd ["one", "other"] S_divisor_of := by
  refine dfn 0 Fn sc_divisor_of len_divisor_of cels_divisor_of fun cdv A outer s H hr hA => ⟨_, (scons (spar 0 1 rfl sc_divisor_of.nd (acons (dabs (m_abs T) (acons (dv 0) anil)) (acons (dabs (m_abs T) (acons (dv 1) anil)) anil))) (scons (swhileQ [] de_divisor_of_1 em_divisor_of_1 kk_divisor_of qb_divisor_of_1 hde_divisor_of_1 PassesOwn.never (dcmpT op_gt opr_gt (dv 1) di (nomark _)) (sone (spar 0 1 rfl sc_divisor_of.nd (acons (dv 1) (acons (dmod (dv 0) (dv 1)) anil)))) (fun R i s nx bk h => Eq.mp (by kernel_rfl) h)) (sone (sret (m := 0) (dx (dv 0)))))), fun as Q h => ?_⟩
  unfold S_divisor_of at h
  split at h
  · unfold q_divisor_of at h
    rename_i x0 x1
    refine at_env (b := [.dat x0, .dat x1]) rfl ?_
    exact Eq.mp (by kernel_rfl) h
  · exact h.elim
theorem ok_divisor_of (T : Tp K mg)  : Dn P w K mg base "divisor_of" 1 ["one", "other"] S_divisor_of := by
  obtain ⟨kV, doc, pm, an, cdv, ct, Fn⟩ := T.fun_ "divisor_of" (top 2) 1 94
  exact ⟨⟨_, fg_divisor_of T  Fn, Fn.binds (ps := ["one", "other"]) fun _ _ _ _ _ _ us hl => match us, hl with | [_, _], _ => rfl⟩, T.glo "divisor_of" 23, T.keep "divisor_of" 94⟩
def kk_lowest : RT → (PyData → Prop) := fun R v => R (.dat v) []
def S_lowest : DSp := fun as Q => match as with
  | [.dat x0, .dat x1] => q_lowest x0 x1 (kk_lowest Q)
  | _ => False
theorem len_lowest (as : List SD) (Q : SD → List SD → Prop) (h : S_lowest as Q) : as.length = 2 := by
  unfold S_lowest at h
  split at h
  · rfl
  · exact h.elim
theorem cels_lowest : CelsIn 0 S_lowest := by
  intro as Q h i p xs e
  unfold S_lowest at h
  split at h
  · exact absurd e (no_cel (ds := [_, _]) i p xs)
  · exact h.elim
def N_lowest : List Str := ["p", "q", "by"]
theorem sc_lowest : FnScope N_lowest ["p", "q"] (defScope (top 3)) := ⟨rfl, rfl, rfl, by decide +kernel, rfl, by decide +kernel, by decide +kernel⟩
theorem fg_lowest (T : Tp K mg) (D_divisor_of : Dn P w K mg base "divisor_of" 1 ["one", "other"] S_divisor_of) {fd : FuncData} (Fn : Fun K "lowest" "lowest" (top 3) (He.ga K "lowest") fd) : FnG P w K mg base 2 (He.ga K "lowest") fd ["p", "q"] S_lowest := by
  refine dfn 0 Fn sc_lowest len_lowest cels_lowest fun cdv A outer s H hr hA => ⟨_, (scons (sset 2 sc_lowest.nd (dcn D_divisor_of (hr.mono (by decide)) hA (acons (dv 0) (acons (dv 1) anil)))) (scons (sif (dcmpT op_ltA opr_ltA (dv 1) di (nomark _)) (sone (sset 2 sc_lowest.nd (dx (dsub di (dv 2))))) snil) (sone (sret (m := 0) (dx (dtup (acons (dfd (dv 0) (dv 2)) (acons (dfd (dv 1) (dv 2)) anil)))))))), fun as Q h => ?_⟩
  unfold S_lowest at h
  split at h
  · unfold q_lowest at h
    rename_i x0 x1
    refine at_env (b := [.dat x0, .dat x1, .un]) rfl ?_
    exact Eq.mp (by kernel_rfl) h
  · exact h.elim
theorem ok_lowest (T : Tp K mg) (D_divisor_of : Dn P w K mg base "divisor_of" 1 ["one", "other"] S_divisor_of) : Dn P w K mg base "lowest" 2 ["p", "q"] S_lowest := by
  obtain ⟨kV, doc, pm, an, cdv, ct, Fn⟩ := T.fun_ "lowest" (top 3) 2 95
  exact ⟨⟨_, fg_lowest T D_divisor_of Fn, Fn.binds (ps := ["p", "q"]) fun _ _ _ _ _ _ us hl => match us, hl with | [_, _], _ => rfl⟩, T.glo "lowest" 24, T.keep "lowest" 95⟩
def kk_is_hour : RT → (PyData → Prop) := fun R v => R (.dat v) []
def S_is_hour : DSp := fun as Q => match as with
  | [.dat x0] => q_is_hour x0 (kk_is_hour Q)
  | _ => False
theorem len_is_hour (as : List SD) (Q : SD → List SD → Prop) (h : S_is_hour as Q) : as.length = 1 := by
  unfold S_is_hour at h
  split at h
  · rfl
  · exact h.elim
theorem cels_is_hour : CelsIn 0 S_is_hour := by
  intro as Q h i p xs e
  unfold S_is_hour at h
  split at h
  · exact absurd e (no_cel (ds := [_]) i p xs)
  · exact h.elim
def N_is_hour : List Str := ["thing"]
theorem sc_is_hour : FnScope N_is_hour ["thing"] (defScope (top 37)) := ⟨rfl, rfl, rfl, by decide +kernel, rfl, by decide +kernel, by decide +kernel⟩
theorem fg_is_hour (T : Tp K mg) (D_is_whole : Dn P w K mg base "is_whole" 1 ["thing"] S_is_whole) {fd : FuncData} (Fn : Fun K "is_hour" "is_hour" (top 37) (He.ga K "is_hour") fd) : FnG P w K mg base 2 (He.ga K "is_hour") fd ["thing"] S_is_hour := by
  refine dfn 0 Fn sc_is_hour len_is_hour cels_is_hour fun cdv A outer s H hr hA => ⟨_, (sone (sret (m := 0) (dx (dandV (dfrz (dcn D_is_whole (hr.mono (by decide)) hA (acons (dv 0) anil))) (done (dchain op_le op_le opr_le opr_le di (dv 0) (dnum (c_LAST_HOUR T)))))))), fun as Q h => ?_⟩
  unfold S_is_hour at h
  split at h
  · unfold q_is_hour at h
    rename_i x0
    refine at_env (b := [.dat x0]) rfl ?_
    exact Eq.mp (by kernel_rfl) h
  · exact h.elim
theorem ok_is_hour (T : Tp K mg) (D_is_whole : Dn P w K mg base "is_whole" 1 ["thing"] S_is_whole) : Dn P w K mg base "is_hour" 2 ["thing"] S_is_hour := by
  obtain ⟨kV, doc, pm, an, cdv, ct, Fn⟩ := T.fun_ "is_hour" (top 37) 3 96
  exact ⟨⟨_, fg_is_hour T D_is_whole Fn, Fn.binds (ps := ["thing"]) fun _ _ _ _ _ _ us hl => match us, hl with | [_], _ => rfl⟩, T.glo "is_hour" 25, T.keep "is_hour" 96⟩
def kk_is_log_row : RT → (PyData → Prop) := fun R v => R (.dat v) []
def em_is_log_row_1 (i : PyData) (s : Unit) : List SD := [.dat i, .un]
def de_is_log_row_1 : List SD → Option ((PyData) × (Unit))
  | [.dat x0, .un] => some (x0, ())
  | _ => none
theorem hde_is_log_row_1 : ∀ env i s, de_is_log_row_1 env = some (i, s) → env = em_is_log_row_1 i s := by
  intro env i s h
  unfold de_is_log_row_1 at h
  split at h
  · cases h; rfl
  · cases h
def S_is_log_row : DSp := fun as Q => match as with
  | [.dat x0] => q_is_log_row x0 (kk_is_log_row Q)
  | _ => False
theorem len_is_log_row (as : List SD) (Q : SD → List SD → Prop) (h : S_is_log_row as Q) : as.length = 1 := by
  unfold S_is_log_row at h
  split at h
  · rfl
  · exact h.elim
theorem cels_is_log_row : CelsIn 0 S_is_log_row := by
  intro as Q h i p xs e
  unfold S_is_log_row at h
  split at h
  · exact absurd e (no_cel (ds := [_]) i p xs)
  · exact h.elim
def N_is_log_row : List Str := ["thing", "number"]
theorem sc_is_log_row : FnScope N_is_log_row ["thing"] (defScope (top 38)) := ⟨rfl, rfl, rfl, by decide +kernel, rfl, by decide +kernel, by decide +kernel⟩
theorem fg_is_log_row (T : Tp K mg) (D_is_hour : Dn P w K mg base "is_hour" 2 ["thing"] S_is_hour) (D_is_whole : Dn P w K mg base "is_whole" 1 ["thing"] S_is_whole) {fd : FuncData} (Fn : Fun K "is_log_row" "is_log_row" (top 38) (He.ga K "is_log_row") fd) : FnG P w K mg base 3 (He.ga K "is_log_row") fd ["thing"] S_is_log_row := by
  refine dfn 0 Fn sc_is_log_row len_is_log_row cels_is_log_row fun cdv A outer s H hr hA => ⟨_, (scons (sif (tor (tnot (dtest (disi "tuple" "tuple" (m_isinstance T) (m_tuple T) (by decide +kernel) (by decide +kernel) (dv 0)))) (tor (dcmpT (op_neE hr.units) opd_ne (dlen (m_len T) (acons (dv 0) anil)) di (nomark _)) (tor1 (tnot (dtest (dfrz (dcn D_is_hour (hr.mono (by decide)) hA (acons (dixP (dv 0) di) anil)))))))).pt (sone (sret (m := 0) (dx db))) snil) (sone (sret (m := 0) (dx (dall (m_all T) rfl (acons (dfrz (dlc (dec := de_is_log_row_1) (emb := em_is_log_row_1) (qb := qb_is_log_row_1) [("number", 1)] (.one 1) hde_is_log_row_1 rfl sc_is_log_row.nd (iseq (dsl (dv 0) (so_some di) so_none)) (blkOk_by (own := [("number", 1)]) (N := N_is_log_row) (sc := defScope (top 38)) (by decide +kernel)) (fun _ _ _ _ _ => pg_name (i := 1) sc_is_log_row.nd rfl (Or.inl rfl)) (fun _ _ _ _ _ => tyes) (fun _ _ _ _ _ => (dandV (dfrz (dcn D_is_whole (hr.mono (by decide)) hA (acons (dv 1) anil))) (done (dcmp op_le opr_le (dabs (m_abs T) (acons (dv 1) anil)) (dnum (c_FARTHEST T)) (nomark _))))) (fun d i s sk yd h => Eq.mp (by kernel_rfl) h))) anil)))))), fun as Q h => ?_⟩
  unfold S_is_log_row at h
  split at h
  · unfold q_is_log_row at h
    rename_i x0
    refine at_env (b := [.dat x0, .un]) rfl ?_
    exact Eq.mp (by kernel_rfl) h
  · exact h.elim
theorem ok_is_log_row (T : Tp K mg) (D_is_hour : Dn P w K mg base "is_hour" 2 ["thing"] S_is_hour) (D_is_whole : Dn P w K mg base "is_whole" 1 ["thing"] S_is_whole) : Dn P w K mg base "is_log_row" 3 ["thing"] S_is_log_row := by
  obtain ⟨kV, doc, pm, an, cdv, ct, Fn⟩ := T.fun_ "is_log_row" (top 38) 4 97
  exact ⟨⟨_, fg_is_log_row T D_is_hour D_is_whole Fn, Fn.binds (ps := ["thing"]) fun _ _ _ _ _ _ us hl => match us, hl with | [_], _ => rfl⟩, T.glo "is_log_row" 26, T.keep "is_log_row" 97⟩
def kk_is_log : RT → (PyData → Prop) := fun R v => R (.dat v) []
def em_is_log_1 (i : PyData) (s : Unit) : List SD := [.dat i, .un, .un, .un]
def de_is_log_1 : List SD → Option ((PyData) × (Unit))
  | [.dat x0, .un, .un, .un] => some (x0, ())
  | _ => none
theorem hde_is_log_1 : ∀ env i s, de_is_log_1 env = some (i, s) → env = em_is_log_1 i s := by
  intro env i s h
  unfold de_is_log_1 at h
  split at h
  · cases h; rfl
  · cases h
def em_is_log_2 (i : PyData) (s : Unit) : List SD := [.dat i, .un, .un, .un]
def de_is_log_2 : List SD → Option ((PyData) × (Unit))
  | [.dat x0, .un, .un, .un] => some (x0, ())
  | _ => none
theorem hde_is_log_2 : ∀ env i s, de_is_log_2 env = some (i, s) → env = em_is_log_2 i s := by
  intro env i s h
  unfold de_is_log_2 at h
  split at h
  · cases h; rfl
  · cases h
def S_is_log : DSp := fun as Q => match as with
  | [.dat x0] => q_is_log x0 (kk_is_log Q)
  | _ => False
theorem len_is_log (as : List SD) (Q : SD → List SD → Prop) (h : S_is_log as Q) : as.length = 1 := by
  unfold S_is_log at h
  split at h
  · rfl
  · exact h.elim
theorem cels_is_log : CelsIn 0 S_is_log := by
  intro as Q h i p xs e
  unfold S_is_log at h
  split at h
  · exact absurd e (no_cel (ds := [_]) i p xs)
  · exact h.elim
def N_is_log : List Str := ["thing", "row", "one", "other"]
theorem sc_is_log : FnScope N_is_log ["thing"] (defScope (top 39)) := ⟨rfl, rfl, rfl, by decide +kernel, rfl, by decide +kernel, by decide +kernel⟩
theorem fg_is_log (T : Tp K mg) (D_is_log_row : Dn P w K mg base "is_log_row" 3 ["thing"] S_is_log_row) {fd : FuncData} (Fn : Fun K "is_log" "is_log" (top 39) (He.ga K "is_log") fd) : FnG P w K mg base 4 (He.ga K "is_log") fd ["thing"] S_is_log := by
  refine dfn 0 Fn sc_is_log len_is_log cels_is_log fun cdv A outer s H hr hA => ⟨_, (scons (sif (tor (tnot (dtest (disi "tuple" "tuple" (m_isinstance T) (m_tuple T) (by decide +kernel) (by decide +kernel) (dv 0)))) (tor (tnot (dchainT op_le op_le opr_le opr_le di (dlen (m_len T) (acons (dv 0) anil)) (dnum (c_MOST_ROWS T)))) (tor1 (tnot (dtest (dall (m_all T) rfl (acons (dfrz (dlc (dec := de_is_log_1) (emb := em_is_log_1) (qb := qb_is_log_1) [("row", 1)] (.one 1) hde_is_log_1 rfl sc_is_log.nd (iseq (dv 0)) (blkOk_by (own := [("row", 1)]) (N := N_is_log) (sc := defScope (top 39)) (by decide +kernel)) (fun _ _ _ _ _ => pg_name (i := 1) sc_is_log.nd rfl (Or.inl rfl)) (fun _ _ _ _ _ => tyes) (fun _ _ _ _ _ => (dfrz (dcn D_is_log_row (hr.mono (by decide)) hA (acons (dv 1) anil)))) (fun d i s sk yd h => Eq.mp (by kernel_rfl) h))) anil))))))).pt (sone (sret (m := 0) (dx db))) snil) (sone (sret (m := 0) (dx (dall (m_all T) rfl (acons (dfrz (dlc (dec := de_is_log_2) (emb := em_is_log_2) (qb := qb_is_log_2) [("one", 2), ("other", 3)] (.tup [2, 3]) hde_is_log_2 rfl sc_is_log.nd (izip (m_zip T) (acons (dv 0) (acons (dsl (dv 0) (so_some di) so_none) anil))) (blkOk_by (own := [("one", 2), ("other", 3)]) (N := N_is_log) (sc := defScope (top 39)) (by decide +kernel)) (fun _ _ _ _ _ => pg_tup rfl (pgs_cons (pg_name (i := 2) sc_is_log.nd rfl (Or.inl rfl)) (pgs_cons (pg_name (i := 3) sc_is_log.nd rfl (Or.inl rfl)) pgs_nil))) (fun _ _ _ _ _ => tyes) (fun _ _ _ _ _ => (dcmp op_ltA opr_ltA (dixP (dv 2) di) (dixP (dv 3) di) (nomark _))) (fun d i s sk yd h => Eq.mp (by kernel_rfl) h))) anil)))))), fun as Q h => ?_⟩
  unfold S_is_log at h
  split at h
  · unfold q_is_log at h
    rename_i x0
    refine at_env (b := [.dat x0, .un, .un, .un]) rfl ?_
    exact Eq.mp (by kernel_rfl) h
  · exact h.elim
theorem ok_is_log (T : Tp K mg) (D_is_log_row : Dn P w K mg base "is_log_row" 3 ["thing"] S_is_log_row) : Dn P w K mg base "is_log" 4 ["thing"] S_is_log := by
  obtain ⟨kV, doc, pm, an, cdv, ct, Fn⟩ := T.fun_ "is_log" (top 39) 5 98
  exact ⟨⟨_, fg_is_log T D_is_log_row Fn, Fn.binds (ps := ["thing"]) fun _ _ _ _ _ _ us hl => match us, hl with | [_], _ => rfl⟩, T.glo "is_log" 27, T.keep "is_log" 98⟩
def kk_need_log : RT → (PyData → Prop) := fun R v => R (.dat v) []
def S_need_log : DSpX := fun as Q E => match as with
  | [.dat x0] => q_need_log x0 (kk_need_log Q) E
  | _ => False
theorem len_need_log (as : List SD) (Q : SD → List SD → Prop) (E : Str → Prop) (h : S_need_log as Q E) : as.length = 1 := by
  unfold S_need_log at h
  split at h
  · rfl
  · exact h.elim
theorem nc_need_log (as : List SD) (Q : SD → List SD → Prop) (E : Str → Prop) (h : S_need_log as Q E) : NoCel as := by
  intro i p xs e
  unfold S_need_log at h
  split at h
  · exact absurd e (no_cel (ds := [_]) i p xs)
  · exact h.elim
def N_need_log : List Str := ["thing"]
theorem sc_need_log : FnScope N_need_log ["thing"] (defScope (top 40)) := ⟨rfl, rfl, rfl, by decide +kernel, rfl, by decide +kernel, by decide +kernel⟩
theorem fg_need_log (T : Tp K mg) (D_is_log : Dn P w K mg base "is_log" 4 ["thing"] S_is_log) {fd : FuncData} (Fn : Fun K "need_log" "need_log" (top 40) (He.ga K "need_log") fd) : FnX P w K mg base 5 (He.ga K "need_log") fd ["thing"] S_need_log := by
  refine dfnX Fn sc_need_log len_need_log nc_need_log fun Ec cdv A outer s H E tk po hr hA => ⟨_, (sone (sif (tnot (dtest (dfrz (dcn D_is_log (hr.mono (by decide)) hA (acons (dv 0) anil))))) (sone (sraise (ce_NoLog T) rfl tk)) snil)), fun as Q h => ?_⟩
  unfold S_need_log at h
  split at h
  · unfold q_need_log at h
    rename_i x0
    refine at_env (b := [.dat x0]) rfl ?_
    exact Eq.mp (by kernel_rfl) h
  · exact h.elim
theorem ok_need_log (T : Tp K mg) (D_is_log : Dn P w K mg base "is_log" 4 ["thing"] S_is_log) : DnX P w K mg base "need_log" 5 ["thing"] S_need_log := by
  obtain ⟨kV, doc, pm, an, cdv, ct, Fn⟩ := T.fun_ "need_log" (top 40) 6 99
  exact ⟨⟨_, fg_need_log T D_is_log Fn, Fn.binds (ps := ["thing"]) fun _ _ _ _ _ _ us hl => match us, hl with | [_], _ => rfl⟩, T.glo "need_log" 28, T.keep "need_log" 99⟩
def kk_need_chase : RT → (PyData → Prop) := fun R v => R (.dat v) []
def S_need_chase : DSpX := fun as Q E => match as with
  | [.dat x0, .dat x1] => q_need_chase x0 x1 (kk_need_chase Q) E
  | _ => False
theorem len_need_chase (as : List SD) (Q : SD → List SD → Prop) (E : Str → Prop) (h : S_need_chase as Q E) : as.length = 2 := by
  unfold S_need_chase at h
  split at h
  · rfl
  · exact h.elim
theorem nc_need_chase (as : List SD) (Q : SD → List SD → Prop) (E : Str → Prop) (h : S_need_chase as Q E) : NoCel as := by
  intro i p xs e
  unfold S_need_chase at h
  split at h
  · exact absurd e (no_cel (ds := [_, _]) i p xs)
  · exact h.elim
def N_need_chase : List Str := ["low", "high"]
theorem sc_need_chase : FnScope N_need_chase ["low", "high"] (defScope (top 41)) := ⟨rfl, rfl, rfl, by decide +kernel, rfl, by decide +kernel, by decide +kernel⟩
theorem fg_need_chase (T : Tp K mg) (D_is_hour : Dn P w K mg base "is_hour" 2 ["thing"] S_is_hour) {fd : FuncData} (Fn : Fun K "need_chase" "need_chase" (top 41) (He.ga K "need_chase") fd) : FnX P w K mg base 3 (He.ga K "need_chase") fd ["low", "high"] S_need_chase := by
  refine dfnX Fn sc_need_chase len_need_chase nc_need_chase fun Ec cdv A outer s H E tk po hr hA => ⟨_, (sone (sif (tor (tnot (dtest (dfrz (dcn D_is_hour (hr.mono (by decide)) hA (acons (dv 0) anil))))) (tor (tnot (dtest (dfrz (dcn D_is_hour (hr.mono (by decide)) hA (acons (dv 1) anil))))) (tor1 (dcmpT op_gt opr_gt (dv 0) (dv 1) (nomark _))))).pt (sone (sraise (ce_NoChase T) rfl tk)) snil)), fun as Q h => ?_⟩
  unfold S_need_chase at h
  split at h
  · unfold q_need_chase at h
    rename_i x0 x1
    refine at_env (b := [.dat x0, .dat x1]) rfl ?_
    exact Eq.mp (by kernel_rfl) h
  · exact h.elim
theorem ok_need_chase (T : Tp K mg) (D_is_hour : Dn P w K mg base "is_hour" 2 ["thing"] S_is_hour) : DnX P w K mg base "need_chase" 3 ["low", "high"] S_need_chase := by
  obtain ⟨kV, doc, pm, an, cdv, ct, Fn⟩ := T.fun_ "need_chase" (top 41) 7 100
  exact ⟨⟨_, fg_need_chase T D_is_hour Fn, Fn.binds (ps := ["low", "high"]) fun _ _ _ _ _ _ us hl => match us, hl with | [_, _], _ => rfl⟩, T.glo "need_chase" 29, T.keep "need_chase" 100⟩
def kk_hours_of_both : RT → (PyData → Prop) := fun R v => R (.dat v) []
def S_hours_of_both : DSp := fun as Q => match as with
  | [.dat x0, .dat x1, .dat x2, .dat x3] => q_hours_of_both x0 x1 x2 x3 (kk_hours_of_both Q)
  | _ => False
theorem len_hours_of_both (as : List SD) (Q : SD → List SD → Prop) (h : S_hours_of_both as Q) : as.length = 4 := by
  unfold S_hours_of_both at h
  split at h
  · rfl
  · exact h.elim
theorem cels_hours_of_both : CelsIn 0 S_hours_of_both := by
  intro as Q h i p xs e
  unfold S_hours_of_both at h
  split at h
  · exact absurd e (no_cel (ds := [_, _, _, _]) i p xs)
  · exact h.elim
def N_hours_of_both : List Str := ["one", "other", "low", "high", "begin", "end"]
theorem sc_hours_of_both : FnScope N_hours_of_both ["one", "other", "low", "high"] (defScope (top 42)) := ⟨rfl, rfl, rfl, by decide +kernel, rfl, by decide +kernel, by decide +kernel⟩
theorem fg_hours_of_both (T : Tp K mg)  {fd : FuncData} (Fn : Fun K "hours_of_both" "hours_of_both" (top 42) (He.ga K "hours_of_both") fd) : FnG P w K mg base 1 (He.ga K "hours_of_both") fd ["one", "other", "low", "high"] S_hours_of_both := by
  refine dfn 0 Fn sc_hours_of_both len_hours_of_both cels_hours_of_both fun cdv A outer s H hr hA => ⟨_, (scons (sset 4 sc_hours_of_both.nd (dx (dmax3 (m_max T) rfl (acons (dixP (dixP (dv 0) di) di) (acons (dixP (dixP (dv 1) di) di) (acons (dv 2) anil)))))) (scons (sset 5 sc_hours_of_both.nd (dx (dmin3 (m_min T) rfl (acons (dixP (dixP (dv 0) (dneg di)) di) (acons (dixP (dixP (dv 1) (dneg di)) di) (acons (dv 3) anil)))))) (ssforget [0, 1, 2, 3] (scons (sif (dcmpT op_gt opr_gt (dv 4) (dv 5) (nomark _)) (sone (sret (m := 0) (dx dn))) snil) (sone (sret (m := 0) (dx (dtup (acons (dv 4) (acons (dv 5) anil)))))))))), fun as Q h => ?_⟩
  unfold S_hours_of_both at h
  split at h
  · unfold q_hours_of_both at h
    rename_i x0 x1 x2 x3
    refine at_env (b := [.dat x0, .dat x1, .dat x2, .dat x3, .un, .un]) rfl ?_
    exact Eq.mp (by kernel_rfl) h
  · exact h.elim
theorem ok_hours_of_both (T : Tp K mg)  : Dn P w K mg base "hours_of_both" 1 ["one", "other", "low", "high"] S_hours_of_both := by
  obtain ⟨kV, doc, pm, an, cdv, ct, Fn⟩ := T.fun_ "hours_of_both" (top 42) 8 101
  exact ⟨⟨_, fg_hours_of_both T  Fn, Fn.binds (ps := ["one", "other", "low", "high"]) fun _ _ _ _ _ _ us hl => match us, hl with | [_, _, _, _], _ => rfl⟩, T.glo "hours_of_both" 30, T.keep "hours_of_both" 101⟩
def kk_marks_between : RT → (PyData → Prop) := fun R v => R (.dat v) []
def em_marks_between_1 (i : PyData × PyData × PyData × PyData) (s : Unit) : List SD := [.dat i.1, .dat i.2.1, .dat i.2.2.1, .dat i.2.2.2, .un]
def de_marks_between_1 : List SD → Option ((PyData × PyData × PyData × PyData) × (Unit))
  | [.dat x0, .dat x1, .dat x2, .dat x3, .un] => some ((x0, x1, x2, x3), ())
  | _ => none
theorem hde_marks_between_1 : ∀ env i s, de_marks_between_1 env = some (i, s) → env = em_marks_between_1 i s := by
  intro env i s h
  unfold de_marks_between_1 at h
  split at h
  · cases h; rfl
  · cases h
def S_marks_between : DSp := fun as Q => match as with
  | [.dat x0, .dat x1, .dat x2, .dat x3] => q_marks_between x0 x1 x2 x3 (kk_marks_between Q)
  | _ => False
theorem len_marks_between (as : List SD) (Q : SD → List SD → Prop) (h : S_marks_between as Q) : as.length = 4 := by
  unfold S_marks_between at h
  split at h
  · rfl
  · exact h.elim
theorem cels_marks_between : CelsIn 0 S_marks_between := by
  intro as Q h i p xs e
  unfold S_marks_between at h
  split at h
  · exact absurd e (no_cel (ds := [_, _, _, _]) i p xs)
  · exact h.elim
def N_marks_between : List Str := ["one", "other", "begin", "end", "row"]
theorem sc_marks_between : FnScope N_marks_between ["one", "other", "begin", "end"] (defScope (top 43)) := ⟨rfl, rfl, rfl, by decide +kernel, rfl, by decide +kernel, by decide +kernel⟩
theorem fg_marks_between (T : Tp K mg)  {fd : FuncData} (Fn : Fun K "marks_between" "marks_between" (top 43) (He.ga K "marks_between") fd) : FnG P w K mg base 1 (He.ga K "marks_between") fd ["one", "other", "begin", "end"] S_marks_between := by
  refine dfn 0 Fn sc_marks_between len_marks_between cels_marks_between fun cdv A outer s H hr hA => ⟨_, (sone (sret (m := 0) (dx (dfrz (dsortSet (by rfl) (m_sorted T) (m_set T) (dadd (dfrz (dlst (acons (dv 2) (acons (dv 3) anil)))) (dfrz (dlc (dec := de_marks_between_1) (emb := em_marks_between_1) (qb := qb_marks_between_1) [("row", 4)] (.one 4) hde_marks_between_1 rfl sc_marks_between.nd (iseq (dadd (dv 0) (dv 1))) (blkOk_by (own := [("row", 4)]) (N := N_marks_between) (sc := defScope (top 43)) (by decide +kernel)) (fun _ _ _ _ _ => pg_name (i := 4) sc_marks_between.nd rfl (Or.inl rfl)) (fun _ _ _ _ _ => tif1 (dchainT op_ltA op_ltA opr_ltA opr_ltA (dv 2) (dixP (dv 4) di) (dv 3))) (fun _ _ _ _ _ => (dixP (dv 4) di)) (fun d i s sk yd h => Eq.mp (by kernel_rfl) h))))))))), fun as Q h => ?_⟩
  unfold S_marks_between at h
  split at h
  · unfold q_marks_between at h
    rename_i x0 x1 x2 x3
    refine at_env (b := [.dat x0, .dat x1, .dat x2, .dat x3, .un]) rfl ?_
    exact Eq.mp (by kernel_rfl) h
  · exact h.elim
theorem ok_marks_between (T : Tp K mg)  : Dn P w K mg base "marks_between" 1 ["one", "other", "begin", "end"] S_marks_between := by
  obtain ⟨kV, doc, pm, an, cdv, ct, Fn⟩ := T.fun_ "marks_between" (top 43) 9 102
  exact ⟨⟨_, fg_marks_between T  Fn, Fn.binds (ps := ["one", "other", "begin", "end"]) fun _ _ _ _ _ _ us hl => match us, hl with | [_, _, _, _], _ => rfl⟩, T.glo "marks_between" 31, T.keep "marks_between" 102⟩
def kk_whole_place : RT → (PyData → Prop) := fun R v => R (.dat v) []
def em_whole_place_1 (i : PyData × PyData) (s : Unit) : List SD := [.dat i.1, .dat i.2, .un, .un, .un, .un]
def de_whole_place_1 : List SD → Option ((PyData × PyData) × (Unit))
  | [.dat x0, .dat x1, .un, .un, .un, .un] => some ((x0, x1), ())
  | _ => none
theorem hde_whole_place_1 : ∀ env i s, de_whole_place_1 env = some (i, s) → env = em_whole_place_1 i s := by
  intro env i s h
  unfold de_whole_place_1 at h
  split at h
  · cases h; rfl
  · cases h
def S_whole_place : DSp := fun as Q => match as with
  | [.dat x0, .dat x1] => q_whole_place x0 x1 (kk_whole_place Q)
  | _ => False
theorem len_whole_place (as : List SD) (Q : SD → List SD → Prop) (h : S_whole_place as Q) : as.length = 2 := by
  unfold S_whole_place at h
  split at h
  · rfl
  · exact h.elim
theorem cels_whole_place : CelsIn 0 S_whole_place := by
  intro as Q h i p xs e
  unfold S_whole_place at h
  split at h
  · exact absurd e (no_cel (ds := [_, _]) i p xs)
  · exact h.elim
def N_whole_place : List Str := ["log", "hour", "one", "other", "gap", "gone"]
theorem sc_whole_place : FnScope N_whole_place ["log", "hour"] (defScope (top 46)) := ⟨rfl, rfl, rfl, by decide +kernel, rfl, by decide +kernel, by decide +kernel⟩
theorem fg_whole_place (T : Tp K mg)  {fd : FuncData} (Fn : Fun K "whole_place" "whole_place" (top 46) (He.ga K "whole_place") fd) : FnG P w K mg base 1 (He.ga K "whole_place") fd ["log", "hour"] S_whole_place := by
  refine dfn 0 Fn sc_whole_place len_whole_place cels_whole_place fun cdv A outer s H hr hA => ⟨_, (scons (sforQ [2, 3, 4, 5] de_whole_place_1 em_whole_place_1 kk_whole_place qb_whole_place_1 hde_whole_place_1 PassesOwn.never rfl (izip (m_zip T) (acons (dv 0) (acons (dsl (dv 0) (so_some di) so_none) anil))) (gtup (gl_cons gok_n (gl_cons gok_n gl_nil)) rfl (gcons (gn 2 sc_whole_place.nd) (gcons (gn 3 sc_whole_place.nd) gnil))) (sone (sif (dcmpT op_le opr_le (dv 1) (dixP (dv 3) di) (nomark _)) (scons (sset 4 sc_whole_place.nd (dx (dsub (dixP (dv 3) di) (dixP (dv 2) di)))) (scons (sset 5 sc_whole_place.nd (dx (dsub (dv 1) (dixP (dv 2) di)))) (sone (sret (m := 0) (dx (dtup (acons (dadd (dmul (dixP (dv 2) di) (dv 4)) (dmul (dsub (dixP (dv 3) di) (dixP (dv 2) di)) (dv 5))) (acons (dadd (dmul (dixP (dv 2) di) (dv 4)) (dmul (dsub (dixP (dv 3) di) (dixP (dv 2) di)) (dv 5))) (acons (dv 4) anil))))))))) snil)) (fun R d i s nx bk h => Eq.mp (by kernel_rfl) h)) (sone (sret (m := 0) (dx (dtup (acons (dixP (dixP (dv 0) di) di) (acons (dixP (dixP (dv 0) di) di) (acons di anil)))))))), fun as Q h => ?_⟩
  unfold S_whole_place at h
  split at h
  · unfold q_whole_place at h
    rename_i x0 x1
    refine at_env (b := [.dat x0, .dat x1, .un, .un, .un, .un]) rfl ?_
    exact Eq.mp (by kernel_rfl) h
  · exact h.elim
theorem ok_whole_place (T : Tp K mg)  : Dn P w K mg base "whole_place" 1 ["log", "hour"] S_whole_place := by
  obtain ⟨kV, doc, pm, an, cdv, ct, Fn⟩ := T.fun_ "whole_place" (top 46) 10 103
  exact ⟨⟨_, fg_whole_place T  Fn, Fn.binds (ps := ["log", "hour"]) fun _ _ _ _ _ _ us hl => match us, hl with | [_, _], _ => rfl⟩, T.glo "whole_place" 32, T.keep "whole_place" 103⟩
def kk_apart_at : RT → (PyData → Prop) := fun R v => R (.dat v) []
def S_apart_at : DSp := fun as Q => match as with
  | [.dat x0, .dat x1, .dat x2] => q_apart_at x0 x1 x2 (kk_apart_at Q)
  | _ => False
theorem len_apart_at (as : List SD) (Q : SD → List SD → Prop) (h : S_apart_at as Q) : as.length = 3 := by
  unfold S_apart_at at h
  split at h
  · rfl
  · exact h.elim
theorem cels_apart_at : CelsIn 0 S_apart_at := by
  intro as Q h i p xs e
  unfold S_apart_at at h
  split at h
  · exact absurd e (no_cel (ds := [_, _, _]) i p xs)
  · exact h.elim
def N_apart_at : List Str := ["one", "other", "hour", "x", "y", "by", "u", "v", "times"]
theorem sc_apart_at : FnScope N_apart_at ["one", "other", "hour"] (defScope (top 47)) := ⟨rfl, rfl, rfl, by decide +kernel, rfl, by decide +kernel, by decide +kernel⟩
theorem fg_apart_at (T : Tp K mg) (D_whole_place : Dn P w K mg base "whole_place" 1 ["log", "hour"] S_whole_place) {fd : FuncData} (Fn : Fun K "apart_at" "apart_at" (top 47) (He.ga K "apart_at") fd) : FnG P w K mg base 2 (He.ga K "apart_at") fd ["one", "other", "hour"] S_apart_at := by
  refine dfn 0 Fn sc_apart_at len_apart_at cels_apart_at fun cdv A outer s H hr hA => ⟨_, (scons (sasg (dfrz (dcn D_whole_place (hr.mono (by decide)) hA (acons (dv 0) (acons (dv 2) anil)))) (gtup (gl_cons gok_n (gl_cons gok_n (gl_cons gok_n gl_nil))) rfl (gcons (gn 3 sc_apart_at.nd) (gcons (gn 4 sc_apart_at.nd) (gcons (gn 5 sc_apart_at.nd) gnil))))) (scons (sasg (dfrz (dcn D_whole_place (hr.mono (by decide)) hA (acons (dv 1) (acons (dv 2) anil)))) (gtup (gl_cons gok_n (gl_cons gok_n (gl_cons gok_n gl_nil))) rfl (gcons (gn 6 sc_apart_at.nd) (gcons (gn 7 sc_apart_at.nd) (gcons (gn 8 sc_apart_at.nd) gnil))))) (sone (sret (m := 0) (dx (dtup (acons (dsub (dmul (dv 3) (dv 8)) (dmul (dv 6) (dv 5))) (acons (dsub (dmul (dv 4) (dv 8)) (dmul (dv 7) (dv 5))) (acons (dmul (dv 5) (dv 8)) anil))))))))), fun as Q h => ?_⟩
  unfold S_apart_at at h
  split at h
  · unfold q_apart_at at h
    rename_i x0 x1 x2
    refine at_env (b := [.dat x0, .dat x1, .dat x2, .un, .un, .un, .un, .un, .un]) rfl ?_
    exact Eq.mp (by kernel_rfl) h
  · exact h.elim
theorem ok_apart_at (T : Tp K mg) (D_whole_place : Dn P w K mg base "whole_place" 1 ["log", "hour"] S_whole_place) : Dn P w K mg base "apart_at" 2 ["one", "other", "hour"] S_apart_at := by
  obtain ⟨kV, doc, pm, an, cdv, ct, Fn⟩ := T.fun_ "apart_at" (top 47) 11 104
  exact ⟨⟨_, fg_apart_at T D_whole_place Fn, Fn.binds (ps := ["one", "other", "hour"]) fun _ _ _ _ _ _ us hl => match us, hl with | [_, _, _], _ => rfl⟩, T.glo "apart_at" 33, T.keep "apart_at" 104⟩
def kk_least_between : RT → (PyData → Prop) := fun R v => R (.dat v) []
def S_least_between : DSp := fun as Q => match as with
  | [.dat x0, .dat x1, .dat x2, .dat x3] => q_least_between x0 x1 x2 x3 (kk_least_between Q)
  | _ => False
theorem len_least_between (as : List SD) (Q : SD → List SD → Prop) (h : S_least_between as Q) : as.length = 4 := by
  unfold S_least_between at h
  split at h
  · rfl
  · exact h.elim
theorem cels_least_between : CelsIn 0 S_least_between := by
  intro as Q h i p xs e
  unfold S_least_between at h
  split at h
  · exact absurd e (no_cel (ds := [_, _, _, _]) i p xs)
  · exact h.elim
def N_least_between : List Str := ["one", "other", "begin", "end", "x", "y", "by", "u", "v", "times", "bottom", "along", "swift", "across"]
theorem sc_least_between : FnScope N_least_between ["one", "other", "begin", "end"] (defScope (top 48)) := ⟨rfl, rfl, rfl, by decide +kernel, rfl, by decide +kernel, by decide +kernel⟩
theorem fg_least_between (T : Tp K mg) (D_apart_at : Dn P w K mg base "apart_at" 2 ["one", "other", "hour"] S_apart_at) (D_lowest : Dn P w K mg base "lowest" 2 ["p", "q"] S_lowest) {fd : FuncData} (Fn : Fun K "least_between" "least_between" (top 48) (He.ga K "least_between") fd) : FnG P w K mg base 3 (He.ga K "least_between") fd ["one", "other", "begin", "end"] S_least_between := by
  refine dfn 0 Fn sc_least_between len_least_between cels_least_between fun cdv A outer s H hr hA => ⟨_, (scons (sasg (dfrz (dcn D_apart_at (hr.mono (by decide)) hA (acons (dv 0) (acons (dv 1) (acons (dv 2) anil))))) (gtup (gl_cons gok_n (gl_cons gok_n (gl_cons gok_n gl_nil))) rfl (gcons (gn 4 sc_least_between.nd) (gcons (gn 5 sc_least_between.nd) (gcons (gn 6 sc_least_between.nd) gnil))))) (scons (sasg (dfrz (dcn D_apart_at (hr.mono (by decide)) hA (acons (dv 0) (acons (dv 1) (acons (dv 3) anil))))) (gtup (gl_cons gok_n (gl_cons gok_n (gl_cons gok_n gl_nil))) rfl (gcons (gn 7 sc_least_between.nd) (gcons (gn 8 sc_least_between.nd) (gcons (gn 9 sc_least_between.nd) gnil))))) (scons (sasg (dtup (acons (dmul (dv 4) (dv 9)) (acons (dmul (dv 5) (dv 9)) (acons (dsub (dmul (dv 7) (dv 6)) (dmul (dv 4) (dv 9))) (acons (dsub (dmul (dv 8) (dv 6)) (dmul (dv 5) (dv 9))) anil))))) (gtup (gl_cons gok_n (gl_cons gok_n (gl_cons gok_n (gl_cons gok_n gl_nil)))) rfl (gcons (gn 4 sc_least_between.nd) (gcons (gn 5 sc_least_between.nd) (gcons (gn 7 sc_least_between.nd) (gcons (gn 8 sc_least_between.nd) gnil)))))) (scons (sset 10 sc_least_between.nd (dx (dmul (dmul (dmul (dv 6) (dv 6)) (dv 9)) (dv 9)))) (scons (sset 11 sc_least_between.nd (dx (dadd (dmul (dv 4) (dv 7)) (dmul (dv 5) (dv 8))))) (scons (sset 12 sc_least_between.nd (dx (dadd (dmul (dv 7) (dv 7)) (dmul (dv 8) (dv 8))))) (ssforget [0, 1, 6, 9] (scons (sif (dcmpT op_ge opr_ge (dv 11) di (nomark _)) (sone (sret (m := 0) (dx (dtup (acons (dfrz (dcn D_lowest (hr.mono (by decide)) hA (acons (dadd (dmul (dv 4) (dv 4)) (dmul (dv 5) (dv 5))) (acons (dv 10) anil)))) (acons (dtup (acons (dv 2) (acons di anil))) anil)))))) snil) (scons (sif (dcmpT op_le opr_le (dadd (dv 11) (dv 12)) di (nomark _)) (sone (sret (m := 0) (dx (dtup (acons (dfrz (dcn D_lowest (hr.mono (by decide)) hA (acons (dadd (dmul (dadd (dv 4) (dv 7)) (dadd (dv 4) (dv 7))) (dmul (dadd (dv 5) (dv 8)) (dadd (dv 5) (dv 8)))) (acons (dv 10) anil)))) (acons (dtup (acons (dv 3) (acons di anil))) anil)))))) snil) (scons (sset 13 sc_least_between.nd (dx (dsub (dmul (dv 4) (dv 8)) (dmul (dv 5) (dv 7))))) (sone (sret (m := 0) (dx (dtup (acons (dfrz (dcn D_lowest (hr.mono (by decide)) hA (acons (dmul (dv 13) (dv 13)) (acons (dmul (dv 12) (dv 10)) anil)))) (acons (dfrz (dcn D_lowest (hr.mono (by decide)) hA (acons (dsub (dmul (dv 2) (dv 12)) (dmul (dv 11) (dsub (dv 3) (dv 2)))) (acons (dv 12) anil)))) anil)))))))))))))))), fun as Q h => ?_⟩
  unfold S_least_between at h
  split at h
  · unfold q_least_between at h
    rename_i x0 x1 x2 x3
    refine at_env (b := [.dat x0, .dat x1, .dat x2, .dat x3, .un, .un, .un, .un, .un, .un, .un, .un, .un, .un]) rfl ?_
    exact Eq.mp (by kernel_rfl) h
  · exact h.elim
theorem ok_least_between (T : Tp K mg) (D_apart_at : Dn P w K mg base "apart_at" 2 ["one", "other", "hour"] S_apart_at) (D_lowest : Dn P w K mg base "lowest" 2 ["p", "q"] S_lowest) : Dn P w K mg base "least_between" 3 ["one", "other", "begin", "end"] S_least_between := by
  obtain ⟨kV, doc, pm, an, cdv, ct, Fn⟩ := T.fun_ "least_between" (top 48) 12 105
  exact ⟨⟨_, fg_least_between T D_apart_at D_lowest Fn, Fn.binds (ps := ["one", "other", "begin", "end"]) fun _ _ _ _ _ _ us hl => match us, hl with | [_, _, _, _], _ => rfl⟩, T.glo "least_between" 34, T.keep "least_between" 105⟩
def kk_nearest_of : RT → (PyData → Prop) := fun R v => R (.dat v) []
def em_nearest_of_1 (i : PyData × PyData) (s : PyData) : List SD := [.dat i.1, .dat i.2, .un, .un, .un, .un, .dat s, .un, .un, .un]
def de_nearest_of_1 : List SD → Option ((PyData × PyData) × (PyData))
  | [.dat x0, .dat x1, .un, .un, .un, .un, .dat x6, .un, .un, .un] => some ((x0, x1), x6)
  | _ => none
theorem hde_nearest_of_1 : ∀ env i s, de_nearest_of_1 env = some (i, s) → env = em_nearest_of_1 i s := by
  intro env i s h
  unfold de_nearest_of_1 at h
  split at h
  · cases h; rfl
  · cases h
def S_nearest_of : DSp := fun as Q => match as with
  | [.dat x0, .dat x1, .dat x2, .dat x3] => q_nearest_of x0 x1 x2 x3 (kk_nearest_of Q)
  | _ => False
theorem len_nearest_of (as : List SD) (Q : SD → List SD → Prop) (h : S_nearest_of as Q) : as.length = 4 := by
  unfold S_nearest_of at h
  split at h
  · rfl
  · exact h.elim
theorem cels_nearest_of : CelsIn 0 S_nearest_of := by
  intro as Q h i p xs e
  unfold S_nearest_of at h
  split at h
  · exact absurd e (no_cel (ds := [_, _, _, _]) i p xs)
  · exact h.elim
def N_nearest_of : List Str := ["one", "other", "low", "high", "hours", "marks", "found", "begin", "end", "here"]
theorem sc_nearest_of : FnScope N_nearest_of ["one", "other", "low", "high"] (defScope (top 49)) := ⟨rfl, rfl, rfl, by decide +kernel, rfl, by decide +kernel, by decide +kernel⟩
theorem fg_nearest_of (T : Tp K mg) (D_hours_of_both : Dn P w K mg base "hours_of_both" 1 ["one", "other", "low", "high"] S_hours_of_both) (D_least_between : Dn P w K mg base "least_between" 3 ["one", "other", "begin", "end"] S_least_between) (D_marks_between : Dn P w K mg base "marks_between" 1 ["one", "other", "begin", "end"] S_marks_between) {fd : FuncData} (Fn : Fun K "nearest_of" "nearest_of" (top 49) (He.ga K "nearest_of") fd) : FnG P w K mg base 4 (He.ga K "nearest_of") fd ["one", "other", "low", "high"] S_nearest_of := by
  refine dfn 0 Fn sc_nearest_of len_nearest_of cels_nearest_of fun cdv A outer s H hr hA => ⟨_, (scons (sset 4 sc_nearest_of.nd (dcn D_hours_of_both (hr.mono (by decide)) hA (acons (dv 0) (acons (dv 1) (acons (dv 2) (acons (dv 3) anil)))))) (ssforget [2, 3] (scons (sif (tisN (dv 4)) (sone (sret (m := 0) (dx dn))) snil) (scons (sset 5 sc_nearest_of.nd (dcn D_marks_between (hr.mono (by decide)) hA (acons (dv 0) (acons (dv 1) (acons (dixP (dv 4) di) (acons (dixP (dv 4) di) anil)))))) (scons (sset 6 sc_nearest_of.nd (dcn D_least_between (hr.mono (by decide)) hA (acons (dv 0) (acons (dv 1) (acons (dixP (dv 5) di) (acons (dixP (dv 5) di) anil)))))) (ssforget [4] (scons (sforQ [5, 7, 8, 9] de_nearest_of_1 em_nearest_of_1 kk_nearest_of qb_nearest_of_1 hde_nearest_of_1 PassesOwn.never rfl (izip (m_zip T) (acons (dv 5) (acons (dsl (dv 5) (so_some di) so_none) anil))) (gtup (gl_cons gok_n (gl_cons gok_n gl_nil)) rfl (gcons (gn 7 sc_nearest_of.nd) (gcons (gn 8 sc_nearest_of.nd) gnil))) (scons (sset 9 sc_nearest_of.nd (dcn D_least_between (hr.mono (by decide)) hA (acons (dv 0) (acons (dv 1) (acons (dv 7) (acons (dv 8) anil)))))) (ssforget [7, 8] (sone (sif (dcmpT op_ltA opr_ltA (dmul (dixP (dixP (dv 9) di) di) (dixP (dixP (dv 6) di) di)) (dmul (dixP (dixP (dv 6) di) di) (dixP (dixP (dv 9) di) di)) (nomark _)) (sone (sset 6 sc_nearest_of.nd (dx (dv 9)))) snil)))) (fun R d i s nx bk h => Eq.mp (by kernel_rfl) h)) (sone (sret (m := 0) (dx (dv 6))))))))))), fun as Q h => ?_⟩
  unfold S_nearest_of at h
  split at h
  · unfold q_nearest_of at h
    rename_i x0 x1 x2 x3
    refine at_env (b := [.dat x0, .dat x1, .dat x2, .dat x3, .un, .un, .un, .un, .un, .un]) rfl ?_
    exact Eq.mp (by kernel_rfl) h
  · exact h.elim
theorem ok_nearest_of (T : Tp K mg) (D_hours_of_both : Dn P w K mg base "hours_of_both" 1 ["one", "other", "low", "high"] S_hours_of_both) (D_least_between : Dn P w K mg base "least_between" 3 ["one", "other", "begin", "end"] S_least_between) (D_marks_between : Dn P w K mg base "marks_between" 1 ["one", "other", "begin", "end"] S_marks_between) : Dn P w K mg base "nearest_of" 4 ["one", "other", "low", "high"] S_nearest_of := by
  obtain ⟨kV, doc, pm, an, cdv, ct, Fn⟩ := T.fun_ "nearest_of" (top 49) 13 106
  exact ⟨⟨_, fg_nearest_of T D_hours_of_both D_least_between D_marks_between Fn, Fn.binds (ps := ["one", "other", "low", "high"]) fun _ _ _ _ _ _ us hl => match us, hl with | [_, _, _, _], _ => rfl⟩, T.glo "nearest_of" 35, T.keep "nearest_of" 106⟩
def kk_need_both : RT → (PyData → Prop) := fun R v => R (.dat v) []
def S_need_both : DSpX := fun as Q E => match as with
  | [.dat x0, .dat x1, .dat x2, .dat x3] => q_need_both x0 x1 x2 x3 (kk_need_both Q) E
  | _ => False
theorem len_need_both (as : List SD) (Q : SD → List SD → Prop) (E : Str → Prop) (h : S_need_both as Q E) : as.length = 4 := by
  unfold S_need_both at h
  split at h
  · rfl
  · exact h.elim
theorem nc_need_both (as : List SD) (Q : SD → List SD → Prop) (E : Str → Prop) (h : S_need_both as Q E) : NoCel as := by
  intro i p xs e
  unfold S_need_both at h
  split at h
  · exact absurd e (no_cel (ds := [_, _, _, _]) i p xs)
  · exact h.elim
def N_need_both : List Str := ["one", "other", "low", "high"]
theorem sc_need_both : FnScope N_need_both ["one", "other", "low", "high"] (defScope (top 50)) := ⟨rfl, rfl, rfl, by decide +kernel, rfl, by decide +kernel, by decide +kernel⟩
theorem fg_need_both (T : Tp K mg) (D_need_chase : DnX P w K mg base "need_chase" 3 ["low", "high"] S_need_chase) (D_need_log : DnX P w K mg base "need_log" 5 ["thing"] S_need_log) {fd : FuncData} (Fn : Fun K "need_both" "need_both" (top 50) (He.ga K "need_both") fd) : FnX P w K mg base 6 (He.ga K "need_both") fd ["one", "other", "low", "high"] S_need_both := by
  refine dfnX Fn sc_need_both len_need_both nc_need_both fun Ec cdv A outer s H E tk po hr hA => ⟨_, (scons (sexpr (dcnE D_need_log (hr.mono (by decide)) hA tk (acons (dv 0) anil))) (scons (sexpr (dcnE D_need_log (hr.mono (by decide)) hA tk (acons (dv 1) anil))) (sone (sexpr (dcnE D_need_chase (hr.mono (by decide)) hA tk (acons (dv 2) (acons (dv 3) anil))))))), fun as Q h => ?_⟩
  unfold S_need_both at h
  split at h
  · unfold q_need_both at h
    rename_i x0 x1 x2 x3
    refine at_env (b := [.dat x0, .dat x1, .dat x2, .dat x3]) rfl ?_
    exact Eq.mp (by kernel_rfl) h
  · exact h.elim
theorem ok_need_both (T : Tp K mg) (D_need_chase : DnX P w K mg base "need_chase" 3 ["low", "high"] S_need_chase) (D_need_log : DnX P w K mg base "need_log" 5 ["thing"] S_need_log) : DnX P w K mg base "need_both" 6 ["one", "other", "low", "high"] S_need_both := by
  obtain ⟨kV, doc, pm, an, cdv, ct, Fn⟩ := T.fun_ "need_both" (top 50) 14 107
  exact ⟨⟨_, fg_need_both T D_need_chase D_need_log Fn, Fn.binds (ps := ["one", "other", "low", "high"]) fun _ _ _ _ _ _ us hl => match us, hl with | [_, _, _, _], _ => rfl⟩, T.glo "need_both" 36, T.keep "need_both" 107⟩
def kk_are_near_by : RT → (PyData → Prop) := fun R v => R (.dat v) []
def S_are_near_by : DSp := fun as Q => match as with
  | [.dat x0, .dat x1, .dat x2, .dat x3, .dat x4] => q_are_near_by x0 x1 x2 x3 x4 (kk_are_near_by Q)
  | _ => False
theorem len_are_near_by (as : List SD) (Q : SD → List SD → Prop) (h : S_are_near_by as Q) : as.length = 5 := by
  unfold S_are_near_by at h
  split at h
  · rfl
  · exact h.elim
theorem cels_are_near_by : CelsIn 0 S_are_near_by := by
  intro as Q h i p xs e
  unfold S_are_near_by at h
  split at h
  · exact absurd e (no_cel (ds := [_, _, _, _, _]) i p xs)
  · exact h.elim
def N_are_near_by : List Str := ["one", "other", "low", "high", "miles", "found"]
theorem sc_are_near_by : FnScope N_are_near_by ["one", "other", "low", "high", "miles"] (defScope (top 51)) := ⟨rfl, rfl, rfl, by decide +kernel, rfl, by decide +kernel, by decide +kernel⟩
theorem fg_are_near_by (T : Tp K mg) (D_nearest_of : Dn P w K mg base "nearest_of" 4 ["one", "other", "low", "high"] S_nearest_of) {fd : FuncData} (Fn : Fun K "are_near_by" "are_near_by" (top 51) (He.ga K "are_near_by") fd) : FnG P w K mg base 5 (He.ga K "are_near_by") fd ["one", "other", "low", "high", "miles"] S_are_near_by := by
  refine dfn 0 Fn sc_are_near_by len_are_near_by cels_are_near_by fun cdv A outer s H hr hA => ⟨_, (scons (sset 5 sc_are_near_by.nd (dcn D_nearest_of (hr.mono (by decide)) hA (acons (dv 0) (acons (dv 1) (acons (dv 2) (acons (dv 3) anil)))))) (sone (sret (m := 0) (dx (dandV (dnotN (dv 5)) (done (dcmp op_le opr_le (dixP (dixP (dv 5) di) di) (dmul (dmul (dv 4) (dv 4)) (dixP (dixP (dv 5) di) di)) (nomark _)))))))), fun as Q h => ?_⟩
  unfold S_are_near_by at h
  split at h
  · unfold q_are_near_by at h
    rename_i x0 x1 x2 x3 x4
    refine at_env (b := [.dat x0, .dat x1, .dat x2, .dat x3, .dat x4, .un]) rfl ?_
    exact Eq.mp (by kernel_rfl) h
  · exact h.elim
theorem ok_are_near_by (T : Tp K mg) (D_nearest_of : Dn P w K mg base "nearest_of" 4 ["one", "other", "low", "high"] S_nearest_of) : Dn P w K mg base "are_near_by" 5 ["one", "other", "low", "high", "miles"] S_are_near_by := by
  obtain ⟨kV, doc, pm, an, cdv, ct, Fn⟩ := T.fun_ "are_near_by" (top 51) 15 108
  exact ⟨⟨_, fg_are_near_by T D_nearest_of Fn, Fn.binds (ps := ["one", "other", "low", "high", "miles"]) fun _ _ _ _ _ _ us hl => match us, hl with | [_, _, _, _, _], _ => rfl⟩, T.glo "are_near_by" 37, T.keep "are_near_by" 108⟩
def kk_are_near : RT → (PyData → Prop) := fun R v => R (.dat v) []
def S_are_near : DSpX := fun as Q E => match as with
  | [.dat x0, .dat x1, .dat x2, .dat x3, .dat x4] => q_are_near x0 x1 x2 x3 x4 (kk_are_near Q) E
  | _ => False
theorem len_are_near (as : List SD) (Q : SD → List SD → Prop) (E : Str → Prop) (h : S_are_near as Q E) : as.length = 5 := by
  unfold S_are_near at h
  split at h
  · rfl
  · exact h.elim
theorem nc_are_near (as : List SD) (Q : SD → List SD → Prop) (E : Str → Prop) (h : S_are_near as Q E) : NoCel as := by
  intro i p xs e
  unfold S_are_near at h
  split at h
  · exact absurd e (no_cel (ds := [_, _, _, _, _]) i p xs)
  · exact h.elim
def N_are_near : List Str := ["one", "other", "low", "high", "miles"]
theorem sc_are_near : FnScope N_are_near ["one", "other", "low", "high", "miles"] (defScope (top 52)) := ⟨rfl, rfl, rfl, by decide +kernel, rfl, by decide +kernel, by decide +kernel⟩
theorem fg_are_near (T : Tp K mg) (D_are_near_by : Dn P w K mg base "are_near_by" 5 ["one", "other", "low", "high", "miles"] S_are_near_by) (D_is_whole : Dn P w K mg base "is_whole" 1 ["thing"] S_is_whole) (D_need_both : DnX P w K mg base "need_both" 6 ["one", "other", "low", "high"] S_need_both) {fd : FuncData} (Fn : Fun K "are_near" "are_near" (top 52) (He.ga K "are_near") fd) : FnX P w K mg base 7 (He.ga K "are_near") fd ["one", "other", "low", "high", "miles"] S_are_near := by
  refine dfnX Fn sc_are_near len_are_near nc_are_near fun Ec cdv A outer s H E tk po hr hA => ⟨_, (scons (sexpr (dcnE D_need_both (hr.mono (by decide)) hA tk (acons (dv 0) (acons (dv 1) (acons (dv 2) (acons (dv 3) anil)))))) (scons (sif (tor (tnot (dtest (dfrz (dcn D_is_whole (hr.mono (by decide)) hA (acons (dv 4) anil))))) (tor1 (tnot (dchainT op_le op_le opr_le opr_le di (dv 4) (dnum (c_MOST_MILES T)))))).pt (sone (sraise (ce_NoMiles T) rfl tk)) snil) (sone (sret (m := 0) (dx (dfrz (dcn D_are_near_by (hr.mono (by decide)) hA (acons (dv 0) (acons (dv 1) (acons (dv 2) (acons (dv 3) (acons (dv 4) anil)))))))))))), fun as Q h => ?_⟩
  unfold S_are_near at h
  split at h
  · unfold q_are_near at h
    rename_i x0 x1 x2 x3 x4
    refine at_env (b := [.dat x0, .dat x1, .dat x2, .dat x3, .dat x4]) rfl ?_
    exact Eq.mp (by kernel_rfl) h
  · exact h.elim
theorem ok_are_near (T : Tp K mg) (D_are_near_by : Dn P w K mg base "are_near_by" 5 ["one", "other", "low", "high", "miles"] S_are_near_by) (D_is_whole : Dn P w K mg base "is_whole" 1 ["thing"] S_is_whole) (D_need_both : DnX P w K mg base "need_both" 6 ["one", "other", "low", "high"] S_need_both) : DnX P w K mg base "are_near" 7 ["one", "other", "low", "high", "miles"] S_are_near := by
  obtain ⟨kV, doc, pm, an, cdv, ct, Fn⟩ := T.fun_ "are_near" (top 52) 16 109
  exact ⟨⟨_, fg_are_near T D_are_near_by D_is_whole D_need_both Fn, Fn.binds (ps := ["one", "other", "low", "high", "miles"]) fun _ _ _ _ _ _ us hl => match us, hl with | [_, _, _, _, _], _ => rfl⟩, T.glo "are_near" 38, T.keep "are_near" 109⟩
def kk_is_number : RT → (PyData → Prop) := fun R v => R (.dat v) []
def S_is_number : DSp := fun as Q => match as with
  | [.dat x0, .dat x1] => q_is_number x0 x1 (kk_is_number Q)
  | _ => False
theorem len_is_number (as : List SD) (Q : SD → List SD → Prop) (h : S_is_number as Q) : as.length = 2 := by
  unfold S_is_number at h
  split at h
  · rfl
  · exact h.elim
theorem cels_is_number : CelsIn 0 S_is_number := by
  intro as Q h i p xs e
  unfold S_is_number at h
  split at h
  · exact absurd e (no_cel (ds := [_, _]) i p xs)
  · exact h.elim
def N_is_number : List Str := ["thing", "many"]
theorem sc_is_number : FnScope N_is_number ["thing", "many"] (defScope (top 55)) := ⟨rfl, rfl, rfl, by decide +kernel, rfl, by decide +kernel, by decide +kernel⟩
theorem fg_is_number (T : Tp K mg) (D_is_whole : Dn P w K mg base "is_whole" 1 ["thing"] S_is_whole) {fd : FuncData} (Fn : Fun K "is_number" "is_number" (top 55) (He.ga K "is_number") fd) : FnG P w K mg base 2 (He.ga K "is_number") fd ["thing", "many"] S_is_number := by
  refine dfn 0 Fn sc_is_number len_is_number cels_is_number fun cdv A outer s H hr hA => ⟨_, (sone (sret (m := 0) (dx (dandV (dfrz (dcn D_is_whole (hr.mono (by decide)) hA (acons (dv 0) anil))) (done (dchain op_le op_ltA opr_le opr_ltA di (dv 0) (dv 1))))))), fun as Q h => ?_⟩
  unfold S_is_number at h
  split at h
  · unfold q_is_number at h
    rename_i x0 x1
    refine at_env (b := [.dat x0, .dat x1]) rfl ?_
    exact Eq.mp (by kernel_rfl) h
  · exact h.elim
theorem ok_is_number (T : Tp K mg) (D_is_whole : Dn P w K mg base "is_whole" 1 ["thing"] S_is_whole) : Dn P w K mg base "is_number" 2 ["thing", "many"] S_is_number := by
  obtain ⟨kV, doc, pm, an, cdv, ct, Fn⟩ := T.fun_ "is_number" (top 55) 17 110
  exact ⟨⟨_, fg_is_number T D_is_whole Fn, Fn.binds (ps := ["thing", "many"]) fun _ _ _ _ _ _ us hl => match us, hl with | [_, _], _ => rfl⟩, T.glo "is_number" 39, T.keep "is_number" 110⟩
def kk_are_logbooks : RT → (PyData → Prop) := fun R v => R (.dat v) []
def em_are_logbooks_1 (i : PyData) (s : Unit) : List SD := [.dat i, .un]
def de_are_logbooks_1 : List SD → Option ((PyData) × (Unit))
  | [.dat x0, .un] => some (x0, ())
  | _ => none
theorem hde_are_logbooks_1 : ∀ env i s, de_are_logbooks_1 env = some (i, s) → env = em_are_logbooks_1 i s := by
  intro env i s h
  unfold de_are_logbooks_1 at h
  split at h
  · cases h; rfl
  · cases h
def S_are_logbooks : DSp := fun as Q => match as with
  | [.dat x0] => q_are_logbooks x0 (kk_are_logbooks Q)
  | _ => False
theorem len_are_logbooks (as : List SD) (Q : SD → List SD → Prop) (h : S_are_logbooks as Q) : as.length = 1 := by
  unfold S_are_logbooks at h
  split at h
  · rfl
  · exact h.elim
theorem cels_are_logbooks : CelsIn 0 S_are_logbooks := by
  intro as Q h i p xs e
  unfold S_are_logbooks at h
  split at h
  · exact absurd e (no_cel (ds := [_]) i p xs)
  · exact h.elim
def N_are_logbooks : List Str := ["thing", "log"]
theorem sc_are_logbooks : FnScope N_are_logbooks ["thing"] (defScope (top 56)) := ⟨rfl, rfl, rfl, by decide +kernel, rfl, by decide +kernel, by decide +kernel⟩
theorem fg_are_logbooks (T : Tp K mg) (D_is_log : Dn P w K mg base "is_log" 4 ["thing"] S_is_log) {fd : FuncData} (Fn : Fun K "are_logbooks" "are_logbooks" (top 56) (He.ga K "are_logbooks") fd) : FnG P w K mg base 5 (He.ga K "are_logbooks") fd ["thing"] S_are_logbooks := by
  refine dfn 0 Fn sc_are_logbooks len_are_logbooks cels_are_logbooks fun cdv A outer s H hr hA => ⟨_, (scons (sif (tor (tnot (dtest (disi "tuple" "tuple" (m_isinstance T) (m_tuple T) (by decide +kernel) (by decide +kernel) (dv 0)))) (tor1 (tnot (dchainT op_le op_le opr_le opr_le di (dlen (m_len T) (acons (dv 0) anil)) (dnum (c_MOST_LOGS T)))))).pt (sone (sret (m := 0) (dx db))) snil) (sone (sret (m := 0) (dx (dall (m_all T) rfl (acons (dfrz (dlc (dec := de_are_logbooks_1) (emb := em_are_logbooks_1) (qb := qb_are_logbooks_1) [("log", 1)] (.one 1) hde_are_logbooks_1 rfl sc_are_logbooks.nd (iseq (dv 0)) (blkOk_by (own := [("log", 1)]) (N := N_are_logbooks) (sc := defScope (top 56)) (by decide +kernel)) (fun _ _ _ _ _ => pg_name (i := 1) sc_are_logbooks.nd rfl (Or.inl rfl)) (fun _ _ _ _ _ => tyes) (fun _ _ _ _ _ => (dfrz (dcn D_is_log (hr.mono (by decide)) hA (acons (dv 1) anil)))) (fun d i s sk yd h => Eq.mp (by kernel_rfl) h))) anil)))))), fun as Q h => ?_⟩
  unfold S_are_logbooks at h
  split at h
  · unfold q_are_logbooks at h
    rename_i x0
    refine at_env (b := [.dat x0, .un]) rfl ?_
    exact Eq.mp (by kernel_rfl) h
  · exact h.elim
theorem ok_are_logbooks (T : Tp K mg) (D_is_log : Dn P w K mg base "is_log" 4 ["thing"] S_is_log) : Dn P w K mg base "are_logbooks" 5 ["thing"] S_are_logbooks := by
  obtain ⟨kV, doc, pm, an, cdv, ct, Fn⟩ := T.fun_ "are_logbooks" (top 56) 18 111
  exact ⟨⟨_, fg_are_logbooks T D_is_log Fn, Fn.binds (ps := ["thing"]) fun _ _ _ _ _ _ us hl => match us, hl with | [_], _ => rfl⟩, T.glo "are_logbooks" 40, T.keep "are_logbooks" 111⟩
def kk_need_logbooks : RT → (PyData → Prop) := fun R v => R (.dat v) []
def S_need_logbooks : DSpX := fun as Q E => match as with
  | [.dat x0] => q_need_logbooks x0 (kk_need_logbooks Q) E
  | _ => False
theorem len_need_logbooks (as : List SD) (Q : SD → List SD → Prop) (E : Str → Prop) (h : S_need_logbooks as Q E) : as.length = 1 := by
  unfold S_need_logbooks at h
  split at h
  · rfl
  · exact h.elim
theorem nc_need_logbooks (as : List SD) (Q : SD → List SD → Prop) (E : Str → Prop) (h : S_need_logbooks as Q E) : NoCel as := by
  intro i p xs e
  unfold S_need_logbooks at h
  split at h
  · exact absurd e (no_cel (ds := [_]) i p xs)
  · exact h.elim
def N_need_logbooks : List Str := ["thing"]
theorem sc_need_logbooks : FnScope N_need_logbooks ["thing"] (defScope (top 57)) := ⟨rfl, rfl, rfl, by decide +kernel, rfl, by decide +kernel, by decide +kernel⟩
theorem fg_need_logbooks (T : Tp K mg) (D_are_logbooks : Dn P w K mg base "are_logbooks" 5 ["thing"] S_are_logbooks) {fd : FuncData} (Fn : Fun K "need_logbooks" "need_logbooks" (top 57) (He.ga K "need_logbooks") fd) : FnX P w K mg base 6 (He.ga K "need_logbooks") fd ["thing"] S_need_logbooks := by
  refine dfnX Fn sc_need_logbooks len_need_logbooks nc_need_logbooks fun Ec cdv A outer s H E tk po hr hA => ⟨_, (sone (sif (tnot (dtest (dfrz (dcn D_are_logbooks (hr.mono (by decide)) hA (acons (dv 0) anil))))) (sone (sraise (ce_NoLogs T) rfl tk)) snil)), fun as Q h => ?_⟩
  unfold S_need_logbooks at h
  split at h
  · unfold q_need_logbooks at h
    rename_i x0
    refine at_env (b := [.dat x0]) rfl ?_
    exact Eq.mp (by kernel_rfl) h
  · exact h.elim
theorem ok_need_logbooks (T : Tp K mg) (D_are_logbooks : Dn P w K mg base "are_logbooks" 5 ["thing"] S_are_logbooks) : DnX P w K mg base "need_logbooks" 6 ["thing"] S_need_logbooks := by
  obtain ⟨kV, doc, pm, an, cdv, ct, Fn⟩ := T.fun_ "need_logbooks" (top 57) 19 112
  exact ⟨⟨_, fg_need_logbooks T D_are_logbooks Fn, Fn.binds (ps := ["thing"]) fun _ _ _ _ _ _ us hl => match us, hl with | [_], _ => rfl⟩, T.glo "need_logbooks" 41, T.keep "need_logbooks" 112⟩
def kk_sight_table : RT → (PyData → Prop) := fun R v => R (.dat v) []
def em_sight_table_1 (i : PyData × PyData × PyData × PyData) (s : List PyData) : List SD := [.un, .dat i.1, .dat i.2.1, .dat i.2.2.1, .dat i.2.2.2, .cel false s, .un, .un]
def de_sight_table_1 : List SD → Option ((PyData × PyData × PyData × PyData) × (List PyData))
  | [.un, .dat x1, .dat x2, .dat x3, .dat x4, .cel false x5, .un, .un] => some ((x1, x2, x3, x4), x5)
  | _ => none
theorem hde_sight_table_1 : ∀ env i s, de_sight_table_1 env = some (i, s) → env = em_sight_table_1 i s := by
  intro env i s h
  unfold de_sight_table_1 at h
  split at h
  · cases h; rfl
  · cases h
def em_sight_table_2 (i : PyData × PyData × PyData × PyData × List PyData × PyData) (s : Unit) : List SD := [.un, .dat i.1, .dat i.2.1, .dat i.2.2.1, .dat i.2.2.2.1, .cel false i.2.2.2.2.1, .dat i.2.2.2.2.2, .un]
def de_sight_table_2 : List SD → Option ((PyData × PyData × PyData × PyData × List PyData × PyData) × (Unit))
  | [.un, .dat x1, .dat x2, .dat x3, .dat x4, .cel false x5, .dat x6, .un] => some ((x1, x2, x3, x4, x5, x6), ())
  | _ => none
theorem hde_sight_table_2 : ∀ env i s, de_sight_table_2 env = some (i, s) → env = em_sight_table_2 i s := by
  intro env i s h
  unfold de_sight_table_2 at h
  split at h
  · cases h; rfl
  · cases h
def S_sight_table : DSpX := fun as Q E => match as with
  | [.dat x0, .dat x1, .dat x2, .dat x3, .dat x4] => q_sight_table x0 x1 x2 x3 x4 (kk_sight_table Q) E
  | _ => False
theorem len_sight_table (as : List SD) (Q : SD → List SD → Prop) (E : Str → Prop) (h : S_sight_table as Q E) : as.length = 5 := by
  unfold S_sight_table at h
  split at h
  · rfl
  · exact h.elim
theorem nc_sight_table (as : List SD) (Q : SD → List SD → Prop) (E : Str → Prop) (h : S_sight_table as Q E) : NoCel as := by
  intro i p xs e
  unfold S_sight_table at h
  split at h
  · exact absurd e (no_cel (ds := [_, _, _, _, _]) i p xs)
  · exact h.elim
def N_sight_table : List Str := ["ours", "theirs", "low", "high", "miles", "found", "one", "other"]
theorem sc_sight_table : FnScope N_sight_table ["ours", "theirs", "low", "high", "miles"] (defScope (top 58)) := ⟨rfl, rfl, rfl, by decide +kernel, rfl, by decide +kernel, by decide +kernel⟩
theorem fg_sight_table (T : Tp K mg) (D_are_near : DnX P w K mg base "are_near" 7 ["one", "other", "low", "high", "miles"] S_are_near) (D_need_logbooks : DnX P w K mg base "need_logbooks" 6 ["thing"] S_need_logbooks) {fd : FuncData} (Fn : Fun K "sight_table" "sight_table" (top 58) (He.ga K "sight_table") fd) : FnX P w K mg base 8 (He.ga K "sight_table") fd ["ours", "theirs", "low", "high", "miles"] S_sight_table := by
  refine dfnXA Fn sc_sight_table len_sight_table nc_sight_table fun Ec cdv A outer s H E hP hW hA0 tk po hr hA => ⟨_, (scons (sexpr (dcnE D_need_logbooks (hr.mono (by decide)) hA tk (acons (dv 0) anil))) (scons (sexpr (dcnE D_need_logbooks (hr.mono (by decide)) hA tk (acons (dv 1) anil))) (scons (sset 5 sc_sight_table.nd (dlst anil)) (scons (sforQ [0, 6] de_sight_table_1 em_sight_table_1 kk_sight_table (qb_sight_table_1 Ec) hde_sight_table_1 po rfl (iseq (dv 0)) (gn 6 sc_sight_table.nd) (sone (sapp 5 (dtupleOf (m_tuple T) (acons (dfrz (dlcX (dec := de_sight_table_2) (emb := em_sight_table_2) (qb := (qb_sight_table_2 Ec)) [("other", 7)] (.one 7) hA0 tk rfl rfl hde_sight_table_2 rfl sc_sight_table.nd (iseq (dv 1)) (blkOk_by (own := [("other", 7)]) (N := N_sight_table) (sc := defScope (top 58)) (by decide +kernel)) (fun _ _ _ _ _ _ => pg_name (i := 7) sc_sight_table.nd rfl (Or.inl rfl)) (fun _ _ _ _ _ _ tkb => tyes) (fun _ _ _ _ _ _ tkb => (dfrz (dcnE D_are_near (hr.mono (by decide)) hA tkb (acons (dv 6) (acons (dv 7) (acons (dv 2) (acons (dv 3) (acons (dv 4) anil)))))))) (fun d i s sk yd h => Eq.mp (by kernel_rfl) h))) anil)))) (fun R d i s nx bk h => Eq.mp (by kernel_rfl) h)) (sone (sret (m := 0) (dx (dtupC 5 (m_tuple T))))))))), fun as Q h => ?_⟩
  unfold S_sight_table at h
  split at h
  · unfold q_sight_table at h
    rename_i x0 x1 x2 x3 x4
    refine at_env (b := [.dat x0, .dat x1, .dat x2, .dat x3, .dat x4, .un, .un, .un]) rfl ?_
    exact Eq.mp (by kernel_rfl) h
  · exact h.elim
theorem ok_sight_table (T : Tp K mg) (D_are_near : DnX P w K mg base "are_near" 7 ["one", "other", "low", "high", "miles"] S_are_near) (D_need_logbooks : DnX P w K mg base "need_logbooks" 6 ["thing"] S_need_logbooks) : DnX P w K mg base "sight_table" 8 ["ours", "theirs", "low", "high", "miles"] S_sight_table := by
  obtain ⟨kV, doc, pm, an, cdv, ct, Fn⟩ := T.fun_ "sight_table" (top 58) 20 113
  exact ⟨⟨_, fg_sight_table T D_are_near D_need_logbooks Fn, Fn.binds (ps := ["ours", "theirs", "low", "high", "miles"]) fun _ _ _ _ _ _ us hl => match us, hl with | [_, _, _, _, _], _ => rfl⟩, T.glo "sight_table" 42, T.keep "sight_table" 113⟩
def kk_is_row : RT → (PyData → Prop) := fun R v => R (.dat v) []
def em_is_row_1 (i : PyData) (s : Unit) : List SD := [.dat i, .un]
def de_is_row_1 : List SD → Option ((PyData) × (Unit))
  | [.dat x0, .un] => some (x0, ())
  | _ => none
theorem hde_is_row_1 : ∀ env i s, de_is_row_1 env = some (i, s) → env = em_is_row_1 i s := by
  intro env i s h
  unfold de_is_row_1 at h
  split at h
  · cases h; rfl
  · cases h
def S_is_row : DSp := fun as Q => match as with
  | [.dat x0] => q_is_row x0 (kk_is_row Q)
  | _ => False
theorem len_is_row (as : List SD) (Q : SD → List SD → Prop) (h : S_is_row as Q) : as.length = 1 := by
  unfold S_is_row at h
  split at h
  · rfl
  · exact h.elim
theorem cels_is_row : CelsIn 0 S_is_row := by
  intro as Q h i p xs e
  unfold S_is_row at h
  split at h
  · exact absurd e (no_cel (ds := [_]) i p xs)
  · exact h.elim
def N_is_row : List Str := ["thing", "one"]
theorem sc_is_row : FnScope N_is_row ["thing"] (defScope (top 59)) := ⟨rfl, rfl, rfl, by decide +kernel, rfl, by decide +kernel, by decide +kernel⟩
theorem fg_is_row (T : Tp K mg)  {fd : FuncData} (Fn : Fun K "is_row" "is_row" (top 59) (He.ga K "is_row") fd) : FnG P w K mg base 1 (He.ga K "is_row") fd ["thing"] S_is_row := by
  refine dfn 0 Fn sc_is_row len_is_row cels_is_row fun cdv A outer s H hr hA => ⟨_, (scons (sif (tor (tnot (dtest (disi "tuple" "tuple" (m_isinstance T) (m_tuple T) (by decide +kernel) (by decide +kernel) (dv 0)))) (tor1 (tnot (dchainT op_le op_le opr_le opr_le di (dlen (m_len T) (acons (dv 0) anil)) (dnum (c_MOST_LOGS T)))))).pt (sone (sret (m := 0) (dx db))) snil) (sone (sret (m := 0) (dx (dall (m_all T) rfl (acons (dfrz (dlc (dec := de_is_row_1) (emb := em_is_row_1) (qb := qb_is_row_1) [("one", 1)] (.one 1) hde_is_row_1 rfl sc_is_row.nd (iseq (dv 0)) (blkOk_by (own := [("one", 1)]) (N := N_is_row) (sc := defScope (top 59)) (by decide +kernel)) (fun _ _ _ _ _ => pg_name (i := 1) sc_is_row.nd rfl (Or.inl rfl)) (fun _ _ _ _ _ => tyes) (fun _ _ _ _ _ => (disi "bool" "bool" (m_isinstance T) (m_bool T) (by decide +kernel) (by decide +kernel) (dv 1))) (fun d i s sk yd h => Eq.mp (by kernel_rfl) h))) anil)))))), fun as Q h => ?_⟩
  unfold S_is_row at h
  split at h
  · unfold q_is_row at h
    rename_i x0
    refine at_env (b := [.dat x0, .un]) rfl ?_
    exact Eq.mp (by kernel_rfl) h
  · exact h.elim
theorem ok_is_row (T : Tp K mg)  : Dn P w K mg base "is_row" 1 ["thing"] S_is_row := by
  obtain ⟨kV, doc, pm, an, cdv, ct, Fn⟩ := T.fun_ "is_row" (top 59) 21 114
  exact ⟨⟨_, fg_is_row T  Fn, Fn.binds (ps := ["thing"]) fun _ _ _ _ _ _ us hl => match us, hl with | [_], _ => rfl⟩, T.glo "is_row" 43, T.keep "is_row" 114⟩
def kk_is_table : RT → (PyData → Prop) := fun R v => R (.dat v) []
def em_is_table_1 (i : PyData) (s : Unit) : List SD := [.dat i, .un]
def de_is_table_1 : List SD → Option ((PyData) × (Unit))
  | [.dat x0, .un] => some (x0, ())
  | _ => none
theorem hde_is_table_1 : ∀ env i s, de_is_table_1 env = some (i, s) → env = em_is_table_1 i s := by
  intro env i s h
  unfold de_is_table_1 at h
  split at h
  · cases h; rfl
  · cases h
def em_is_table_2 (i : PyData) (s : Unit) : List SD := [.dat i, .un]
def de_is_table_2 : List SD → Option ((PyData) × (Unit))
  | [.dat x0, .un] => some (x0, ())
  | _ => none
theorem hde_is_table_2 : ∀ env i s, de_is_table_2 env = some (i, s) → env = em_is_table_2 i s := by
  intro env i s h
  unfold de_is_table_2 at h
  split at h
  · cases h; rfl
  · cases h
def S_is_table : DSp := fun as Q => match as with
  | [.dat x0] => q_is_table x0 (kk_is_table Q)
  | _ => False
theorem len_is_table (as : List SD) (Q : SD → List SD → Prop) (h : S_is_table as Q) : as.length = 1 := by
  unfold S_is_table at h
  split at h
  · rfl
  · exact h.elim
theorem cels_is_table : CelsIn 0 S_is_table := by
  intro as Q h i p xs e
  unfold S_is_table at h
  split at h
  · exact absurd e (no_cel (ds := [_]) i p xs)
  · exact h.elim
def N_is_table : List Str := ["thing", "row"]
theorem sc_is_table : FnScope N_is_table ["thing"] (defScope (top 60)) := ⟨rfl, rfl, rfl, by decide +kernel, rfl, by decide +kernel, by decide +kernel⟩
theorem fg_is_table (T : Tp K mg) (D_is_row : Dn P w K mg base "is_row" 1 ["thing"] S_is_row) {fd : FuncData} (Fn : Fun K "is_table" "is_table" (top 60) (He.ga K "is_table") fd) : FnG P w K mg base 2 (He.ga K "is_table") fd ["thing"] S_is_table := by
  refine dfn 0 Fn sc_is_table len_is_table cels_is_table fun cdv A outer s H hr hA => ⟨_, (scons (sif (tor (tnot (dtest (disi "tuple" "tuple" (m_isinstance T) (m_tuple T) (by decide +kernel) (by decide +kernel) (dv 0)))) (tor (tnot (dchainT op_le op_le opr_le opr_le di (dlen (m_len T) (acons (dv 0) anil)) (dnum (c_MOST_LOGS T)))) (tor1 (tnot (dtest (dall (m_all T) rfl (acons (dfrz (dlc (dec := de_is_table_1) (emb := em_is_table_1) (qb := qb_is_table_1) [("row", 1)] (.one 1) hde_is_table_1 rfl sc_is_table.nd (iseq (dv 0)) (blkOk_by (own := [("row", 1)]) (N := N_is_table) (sc := defScope (top 60)) (by decide +kernel)) (fun _ _ _ _ _ => pg_name (i := 1) sc_is_table.nd rfl (Or.inl rfl)) (fun _ _ _ _ _ => tyes) (fun _ _ _ _ _ => (dfrz (dcn D_is_row (hr.mono (by decide)) hA (acons (dv 1) anil)))) (fun d i s sk yd h => Eq.mp (by kernel_rfl) h))) anil))))))).pt (sone (sret (m := 0) (dx db))) snil) (sone (sret (m := 0) (dx (dall (m_all T) rfl (acons (dfrz (dlc (dec := de_is_table_2) (emb := em_is_table_2) (qb := qb_is_table_2) [("row", 1)] (.one 1) hde_is_table_2 rfl sc_is_table.nd (iseq (dv 0)) (blkOk_by (own := [("row", 1)]) (N := N_is_table) (sc := defScope (top 60)) (by decide +kernel)) (fun _ _ _ _ _ => pg_name (i := 1) sc_is_table.nd rfl (Or.inl rfl)) (fun _ _ _ _ _ => tyes) (fun _ _ _ _ _ => (dcmp (op_eqE hr.units) opd_eq (dlen (m_len T) (acons (dv 1) anil)) (dlen (m_len T) (acons (dixP (dv 0) di) anil)) (nomark _))) (fun d i s sk yd h => Eq.mp (by kernel_rfl) h))) anil)))))), fun as Q h => ?_⟩
  unfold S_is_table at h
  split at h
  · unfold q_is_table at h
    rename_i x0
    refine at_env (b := [.dat x0, .un]) rfl ?_
    exact Eq.mp (by kernel_rfl) h
  · exact h.elim
theorem ok_is_table (T : Tp K mg) (D_is_row : Dn P w K mg base "is_row" 1 ["thing"] S_is_row) : Dn P w K mg base "is_table" 2 ["thing"] S_is_table := by
  obtain ⟨kV, doc, pm, an, cdv, ct, Fn⟩ := T.fun_ "is_table" (top 60) 22 115
  exact ⟨⟨_, fg_is_table T D_is_row Fn, Fn.binds (ps := ["thing"]) fun _ _ _ _ _ _ us hl => match us, hl with | [_], _ => rfl⟩, T.glo "is_table" 44, T.keep "is_table" 115⟩
def kk_need_table : RT → (PyData → Prop) := fun R v => R (.dat v) []
def S_need_table : DSpX := fun as Q E => match as with
  | [.dat x0] => q_need_table x0 (kk_need_table Q) E
  | _ => False
theorem len_need_table (as : List SD) (Q : SD → List SD → Prop) (E : Str → Prop) (h : S_need_table as Q E) : as.length = 1 := by
  unfold S_need_table at h
  split at h
  · rfl
  · exact h.elim
theorem nc_need_table (as : List SD) (Q : SD → List SD → Prop) (E : Str → Prop) (h : S_need_table as Q E) : NoCel as := by
  intro i p xs e
  unfold S_need_table at h
  split at h
  · exact absurd e (no_cel (ds := [_]) i p xs)
  · exact h.elim
def N_need_table : List Str := ["thing"]
theorem sc_need_table : FnScope N_need_table ["thing"] (defScope (top 61)) := ⟨rfl, rfl, rfl, by decide +kernel, rfl, by decide +kernel, by decide +kernel⟩
theorem fg_need_table (T : Tp K mg) (D_is_table : Dn P w K mg base "is_table" 2 ["thing"] S_is_table) {fd : FuncData} (Fn : Fun K "need_table" "need_table" (top 61) (He.ga K "need_table") fd) : FnX P w K mg base 3 (He.ga K "need_table") fd ["thing"] S_need_table := by
  refine dfnX Fn sc_need_table len_need_table nc_need_table fun Ec cdv A outer s H E tk po hr hA => ⟨_, (sone (sif (tnot (dtest (dfrz (dcn D_is_table (hr.mono (by decide)) hA (acons (dv 0) anil))))) (sone (sraise (ce_NoTable T) rfl tk)) snil)), fun as Q h => ?_⟩
  unfold S_need_table at h
  split at h
  · unfold q_need_table at h
    rename_i x0
    refine at_env (b := [.dat x0]) rfl ?_
    exact Eq.mp (by kernel_rfl) h
  · exact h.elim
theorem ok_need_table (T : Tp K mg) (D_is_table : Dn P w K mg base "is_table" 2 ["thing"] S_is_table) : DnX P w K mg base "need_table" 3 ["thing"] S_need_table := by
  obtain ⟨kV, doc, pm, an, cdv, ct, Fn⟩ := T.fun_ "need_table" (top 61) 23 116
  exact ⟨⟨_, fg_need_table T D_is_table Fn, Fn.binds (ps := ["thing"]) fun _ _ _ _ _ _ us hl => match us, hl with | [_], _ => rfl⟩, T.glo "need_table" 45, T.keep "need_table" 116⟩
def kk_least_place : RT → (PyData → Prop) := fun R v => R (.dat v) []
def em_least_place_1 (i : PyData) (s : Unit) : List SD := [.un, .dat i, .un, .un, .un, .un]
def de_least_place_1 : List SD → Option ((PyData) × (Unit))
  | [.un, .dat x1, .un, .un, .un, .un] => some (x1, ())
  | _ => none
theorem hde_least_place_1 : ∀ env i s, de_least_place_1 env = some (i, s) → env = em_least_place_1 i s := by
  intro env i s h
  unfold de_least_place_1 at h
  split at h
  · cases h; rfl
  · cases h
def em_least_place_2 (i : PyData × PyData) (s : Unit) : List SD := [.un, .dat i.1, .dat i.2, .un, .un, .un]
def de_least_place_2 : List SD → Option ((PyData × PyData) × (Unit))
  | [.un, .dat x1, .dat x2, .un, .un, .un] => some ((x1, x2), ())
  | _ => none
theorem hde_least_place_2 : ∀ env i s, de_least_place_2 env = some (i, s) → env = em_least_place_2 i s := by
  intro env i s h
  unfold de_least_place_2 at h
  split at h
  · cases h; rfl
  · cases h
def S_least_place : DSp := fun as Q => match as with
  | [.dat x0, .dat x1] => q_least_place x0 x1 (kk_least_place Q)
  | _ => False
theorem len_least_place (as : List SD) (Q : SD → List SD → Prop) (h : S_least_place as Q) : as.length = 2 := by
  unfold S_least_place at h
  split at h
  · rfl
  · exact h.elim
theorem cels_least_place : CelsIn 0 S_least_place := by
  intro as Q h i p xs e
  unfold S_least_place at h
  split at h
  · exact absurd e (no_cel (ds := [_, _]) i p xs)
  · exact h.elim
def N_least_place : List Str := ["table", "wished", "row", "truths", "column", "truth"]
theorem sc_least_place : FnScope N_least_place ["table", "wished"] (defScope (top 62)) := ⟨rfl, rfl, rfl, by decide +kernel, rfl, by decide +kernel, by decide +kernel⟩
theorem fg_least_place (T : Tp K mg)  {fd : FuncData} (Fn : Fun K "least_place" "least_place" (top 62) (He.ga K "least_place") fd) : FnG P w K mg base 1 (He.ga K "least_place") fd ["table", "wished"] S_least_place := by
  refine dfn 0 Fn sc_least_place len_least_place cels_least_place fun cdv A outer s H hr hA => ⟨_, (scons (sforQ [0, 2, 3, 4, 5] de_least_place_1 em_least_place_1 kk_least_place qb_least_place_1 hde_least_place_1 PassesOwn.never rfl (ienum (m_enumerate T) (acons (dv 0) anil)) (gtup (gl_cons gok_n (gl_cons gok_n gl_nil)) rfl (gcons (gn 2 sc_least_place.nd) (gcons (gn 3 sc_least_place.nd) gnil))) (sone (sforQ [3, 4, 5] de_least_place_2 em_least_place_2 kk_least_place qb_least_place_2 hde_least_place_2 PassesOwn.never rfl (ienum (m_enumerate T) (acons (dv 3) anil)) (gtup (gl_cons gok_n (gl_cons gok_n gl_nil)) rfl (gcons (gn 4 sc_least_place.nd) (gcons (gn 5 sc_least_place.nd) gnil))) (sone (sif (dcmpT (op_eqE hr.units) opd_eq (dv 5) (dv 1) (nomark _)) (sone (sret (m := 0) (dx (dtup (acons (dv 2) (acons (dv 4) anil)))))) snil)) (fun R d i s nx bk h => Eq.mp (by kernel_rfl) h))) (fun R d i s nx bk h => Eq.mp (by kernel_rfl) h)) (sone (sret (m := 0) (dx dn)))), fun as Q h => ?_⟩
  unfold S_least_place at h
  split at h
  · unfold q_least_place at h
    rename_i x0 x1
    refine at_env (b := [.dat x0, .dat x1, .un, .un, .un, .un]) rfl ?_
    exact Eq.mp (by kernel_rfl) h
  · exact h.elim
theorem ok_least_place (T : Tp K mg)  : Dn P w K mg base "least_place" 1 ["table", "wished"] S_least_place := by
  obtain ⟨kV, doc, pm, an, cdv, ct, Fn⟩ := T.fun_ "least_place" (top 62) 24 117
  exact ⟨⟨_, fg_least_place T  Fn, Fn.binds (ps := ["table", "wished"]) fun _ _ _ _ _ _ us hl => match us, hl with | [_, _], _ => rfl⟩, T.glo "least_place" 46, T.keep "least_place" 117⟩
def kk_word_of : RT → (PyData → Prop) := fun R v => R (.dat v) []
def S_word_of : DSpX := fun as Q E => match as with
  | [.dat x0] => q_word_of x0 (kk_word_of Q) E
  | _ => False
theorem len_word_of (as : List SD) (Q : SD → List SD → Prop) (E : Str → Prop) (h : S_word_of as Q E) : as.length = 1 := by
  unfold S_word_of at h
  split at h
  · rfl
  · exact h.elim
theorem nc_word_of (as : List SD) (Q : SD → List SD → Prop) (E : Str → Prop) (h : S_word_of as Q E) : NoCel as := by
  intro i p xs e
  unfold S_word_of at h
  split at h
  · exact absurd e (no_cel (ds := [_]) i p xs)
  · exact h.elim
def N_word_of : List Str := ["table"]
theorem sc_word_of : FnScope N_word_of ["table"] (defScope (top 63)) := ⟨rfl, rfl, rfl, by decide +kernel, rfl, by decide +kernel, by decide +kernel⟩
theorem fg_word_of (T : Tp K mg) (D_least_place : Dn P w K mg base "least_place" 1 ["table", "wished"] S_least_place) (D_need_table : DnX P w K mg base "need_table" 3 ["thing"] S_need_table) {fd : FuncData} (Fn : Fun K "word_of" "word_of" (top 63) (He.ga K "word_of") fd) : FnX P w K mg base 4 (He.ga K "word_of") fd ["table"] S_word_of := by
  refine dfnX Fn sc_word_of len_word_of nc_word_of fun Ec cdv A outer s H E tk po hr hA => ⟨_, (scons (sexpr (dcnE D_need_table (hr.mono (by decide)) hA tk (acons (dv 0) anil))) (scons (sif (tisN (dfrz (dcn D_least_place (hr.mono (by decide)) hA (acons (dv 0) (acons db anil))))) (sone (sret (m := 0) (dx ds))) snil) (sone (sret (m := 0) (dx (dif (tisN (dfrz (dcn D_least_place (hr.mono (by decide)) hA (acons (dv 0) (acons db anil))))) ds ds)))))), fun as Q h => ?_⟩
  unfold S_word_of at h
  split at h
  · unfold q_word_of at h
    rename_i x0
    refine at_env (b := [.dat x0]) rfl ?_
    exact Eq.mp (by kernel_rfl) h
  · exact h.elim
theorem ok_word_of (T : Tp K mg) (D_least_place : Dn P w K mg base "least_place" 1 ["table", "wished"] S_least_place) (D_need_table : DnX P w K mg base "need_table" 3 ["thing"] S_need_table) : DnX P w K mg base "word_of" 4 ["table"] S_word_of := by
  obtain ⟨kV, doc, pm, an, cdv, ct, Fn⟩ := T.fun_ "word_of" (top 63) 25 118
  exact ⟨⟨_, fg_word_of T D_least_place D_need_table Fn, Fn.binds (ps := ["table"]) fun _ _ _ _ _ _ us hl => match us, hl with | [_], _ => rfl⟩, T.glo "word_of" 47, T.keep "word_of" 118⟩
def kk_open_by : RT → (PyData → Prop) := fun R v => R (.dat v) []
def S_open_by : DSpX := fun as Q E => match as with
  | [.dat x0] => q_open_by x0 (kk_open_by Q) E
  | _ => False
theorem len_open_by (as : List SD) (Q : SD → List SD → Prop) (E : Str → Prop) (h : S_open_by as Q E) : as.length = 1 := by
  unfold S_open_by at h
  split at h
  · rfl
  · exact h.elim
theorem nc_open_by (as : List SD) (Q : SD → List SD → Prop) (E : Str → Prop) (h : S_open_by as Q E) : NoCel as := by
  intro i p xs e
  unfold S_open_by at h
  split at h
  · exact absurd e (no_cel (ds := [_]) i p xs)
  · exact h.elim
def N_open_by : List Str := ["table"]
theorem sc_open_by : FnScope N_open_by ["table"] (defScope (top 64)) := ⟨rfl, rfl, rfl, by decide +kernel, rfl, by decide +kernel, by decide +kernel⟩
theorem fg_open_by (T : Tp K mg) (D_least_place : Dn P w K mg base "least_place" 1 ["table", "wished"] S_least_place) (D_word_of : DnX P w K mg base "word_of" 4 ["table"] S_word_of) {fd : FuncData} (Fn : Fun K "open_by" "open_by" (top 64) (He.ga K "open_by") fd) : FnX P w K mg base 5 (He.ga K "open_by") fd ["table"] S_open_by := by
  refine dfnX Fn sc_open_by len_open_by nc_open_by fun Ec cdv A outer s H E tk po hr hA => ⟨_, (scons (sif (dcmpT (op_neE hr.units) opd_ne (dfrz (dcnE D_word_of (hr.mono (by decide)) hA tk (acons (dv 0) anil))) ds (nomark _)) (sone (sret (m := 0) (dx dn))) snil) (sone (sret (m := 0) (dx (dtup (acons (dfrz (dcn D_least_place (hr.mono (by decide)) hA (acons (dv 0) (acons db anil)))) (acons (dfrz (dcn D_least_place (hr.mono (by decide)) hA (acons (dv 0) (acons db anil)))) anil))))))), fun as Q h => ?_⟩
  unfold S_open_by at h
  split at h
  · unfold q_open_by at h
    rename_i x0
    refine at_env (b := [.dat x0]) rfl ?_
    exact Eq.mp (by kernel_rfl) h
  · exact h.elim
theorem ok_open_by (T : Tp K mg) (D_least_place : Dn P w K mg base "least_place" 1 ["table", "wished"] S_least_place) (D_word_of : DnX P w K mg base "word_of" 4 ["table"] S_word_of) : DnX P w K mg base "open_by" 5 ["table"] S_open_by := by
  obtain ⟨kV, doc, pm, an, cdv, ct, Fn⟩ := T.fun_ "open_by" (top 64) 26 119
  exact ⟨⟨_, fg_open_by T D_least_place D_word_of Fn, Fn.binds (ps := ["table"]) fun _ _ _ _ _ _ us hl => match us, hl with | [_], _ => rfl⟩, T.glo "open_by" 48, T.keep "open_by" 119⟩
def kk_has_at : RT → (PyData → Prop) := fun R v => R (.dat v) []
def S_has_at : DSp := fun as Q => match as with
  | [.dat x0, .dat x1, .dat x2] => q_has_at x0 x1 x2 (kk_has_at Q)
  | _ => False
theorem len_has_at (as : List SD) (Q : SD → List SD → Prop) (h : S_has_at as Q) : as.length = 3 := by
  unfold S_has_at at h
  split at h
  · rfl
  · exact h.elim
theorem cels_has_at : CelsIn 0 S_has_at := by
  intro as Q h i p xs e
  unfold S_has_at at h
  split at h
  · exact absurd e (no_cel (ds := [_, _, _]) i p xs)
  · exact h.elim
def N_has_at : List Str := ["table", "place", "wished"]
theorem sc_has_at : FnScope N_has_at ["table", "place", "wished"] (defScope (top 65)) := ⟨rfl, rfl, rfl, by decide +kernel, rfl, by decide +kernel, by decide +kernel⟩
theorem fg_has_at (T : Tp K mg) (D_is_number : Dn P w K mg base "is_number" 2 ["thing", "many"] S_is_number) {fd : FuncData} (Fn : Fun K "has_at" "has_at" (top 65) (He.ga K "has_at") fd) : FnG P w K mg base 3 (He.ga K "has_at") fd ["table", "place", "wished"] S_has_at := by
  refine dfn 0 Fn sc_has_at len_has_at cels_has_at fun cdv A outer s H hr hA => ⟨_, (scons (sif (tor (tnot (dtest (disi "tuple" "tuple" (m_isinstance T) (m_tuple T) (by decide +kernel) (by decide +kernel) (dv 1)))) (tor1 (dcmpT (op_neE hr.units) opd_ne (dlen (m_len T) (acons (dv 1) anil)) di (nomark _)))).pt (sone (sret (m := 0) (dx db))) snil) (scons (sif (tor (tnot (dtest (dfrz (dcn D_is_number (hr.mono (by decide)) hA (acons (dixP (dv 1) di) (acons (dlen (m_len T) (acons (dv 0) anil)) anil)))))) (tor1 (tnot (dtest (dfrz (dcn D_is_number (hr.mono (by decide)) hA (acons (dixP (dv 1) di) (acons (dlen (m_len T) (acons (dixP (dv 0) di) anil)) anil)))))))).pt (sone (sret (m := 0) (dx db))) snil) (sone (sret (m := 0) (dx (dcmp (op_eqE hr.units) opd_eq (dixP (dixP (dv 0) (dixP (dv 1) di)) (dixP (dv 1) di)) (dv 2) (nomark _))))))), fun as Q h => ?_⟩
  unfold S_has_at at h
  split at h
  · unfold q_has_at at h
    rename_i x0 x1 x2
    refine at_env (b := [.dat x0, .dat x1, .dat x2]) rfl ?_
    exact Eq.mp (by kernel_rfl) h
  · exact h.elim
theorem ok_has_at (T : Tp K mg) (D_is_number : Dn P w K mg base "is_number" 2 ["thing", "many"] S_is_number) : Dn P w K mg base "has_at" 3 ["table", "place", "wished"] S_has_at := by
  obtain ⟨kV, doc, pm, an, cdv, ct, Fn⟩ := T.fun_ "has_at" (top 65) 27 120
  exact ⟨⟨_, fg_has_at T D_is_number Fn, Fn.binds (ps := ["table", "place", "wished"]) fun _ _ _ _ _ _ us hl => match us, hl with | [_, _, _], _ => rfl⟩, T.glo "has_at" 49, T.keep "has_at" 120⟩
def kk_shows_open : RT → (PyData → Prop) := fun R v => R (.dat v) []
def S_shows_open : DSpX := fun as Q E => match as with
  | [.dat x0, .dat x1] => q_shows_open x0 x1 (kk_shows_open Q) E
  | _ => False
theorem len_shows_open (as : List SD) (Q : SD → List SD → Prop) (E : Str → Prop) (h : S_shows_open as Q E) : as.length = 2 := by
  unfold S_shows_open at h
  split at h
  · rfl
  · exact h.elim
theorem nc_shows_open (as : List SD) (Q : SD → List SD → Prop) (E : Str → Prop) (h : S_shows_open as Q E) : NoCel as := by
  intro i p xs e
  unfold S_shows_open at h
  split at h
  · exact absurd e (no_cel (ds := [_, _]) i p xs)
  · exact h.elim
def N_shows_open : List Str := ["table", "thing"]
theorem sc_shows_open : FnScope N_shows_open ["table", "thing"] (defScope (top 66)) := ⟨rfl, rfl, rfl, by decide +kernel, rfl, by decide +kernel, by decide +kernel⟩
theorem fg_shows_open (T : Tp K mg) (D_has_at : Dn P w K mg base "has_at" 3 ["table", "place", "wished"] S_has_at) (D_need_table : DnX P w K mg base "need_table" 3 ["thing"] S_need_table) {fd : FuncData} (Fn : Fun K "shows_open" "shows_open" (top 66) (He.ga K "shows_open") fd) : FnX P w K mg base 4 (He.ga K "shows_open") fd ["table", "thing"] S_shows_open := by
  refine dfnX Fn sc_shows_open len_shows_open nc_shows_open fun Ec cdv A outer s H E tk po hr hA => ⟨_, (scons (sexpr (dcnE D_need_table (hr.mono (by decide)) hA tk (acons (dv 0) anil))) (scons (sif (tor (tnot (dtest (disi "tuple" "tuple" (m_isinstance T) (m_tuple T) (by decide +kernel) (by decide +kernel) (dv 1)))) (tor1 (dcmpT (op_neE hr.units) opd_ne (dlen (m_len T) (acons (dv 1) anil)) di (nomark _)))).pt (sone (sret (m := 0) (dx db))) snil) (sone (sret (m := 0) (dx (dandV (dfrz (dcn D_has_at (hr.mono (by decide)) hA (acons (dv 0) (acons (dixP (dv 1) di) (acons db anil))))) (done (dfrz (dcn D_has_at (hr.mono (by decide)) hA (acons (dv 0) (acons (dixP (dv 1) di) (acons db anil)))))))))))), fun as Q h => ?_⟩
  unfold S_shows_open at h
  split at h
  · unfold q_shows_open at h
    rename_i x0 x1
    refine at_env (b := [.dat x0, .dat x1]) rfl ?_
    exact Eq.mp (by kernel_rfl) h
  · exact h.elim
theorem ok_shows_open (T : Tp K mg) (D_has_at : Dn P w K mg base "has_at" 3 ["table", "place", "wished"] S_has_at) (D_need_table : DnX P w K mg base "need_table" 3 ["thing"] S_need_table) : DnX P w K mg base "shows_open" 4 ["table", "thing"] S_shows_open := by
  obtain ⟨kV, doc, pm, an, cdv, ct, Fn⟩ := T.fun_ "shows_open" (top 66) 28 121
  exact ⟨⟨_, fg_shows_open T D_has_at D_need_table Fn, Fn.binds (ps := ["table", "thing"]) fun _ _ _ _ _ _ us hl => match us, hl with | [_, _], _ => rfl⟩, T.glo "shows_open" 50, T.keep "shows_open" 121⟩
def kk_law_pot : RT → (List PyData → Prop) := fun R v => R (.cel false v) []
def S_law_pot : DSp := fun as Q => match as with
  | [.dat x0, .dat x1] => q_law_pot x0 x1 (kk_law_pot Q)
  | _ => False
theorem len_law_pot (as : List SD) (Q : SD → List SD → Prop) (h : S_law_pot as Q) : as.length = 2 := by
  unfold S_law_pot at h
  split at h
  · rfl
  · exact h.elim
theorem cels_law_pot : CelsIn 0 S_law_pot := by
  intro as Q h i p xs e
  unfold S_law_pot at h
  split at h
  · exact absurd e (no_cel (ds := [_, _]) i p xs)
  · exact h.elim
def N_law_pot : List Str := ["_law_script", "_law_k", "_law_cell"]
theorem sc_law_pot : FnScope N_law_pot ["_law_script", "_law_k"] (defScope (top 68)) := ⟨rfl, rfl, rfl, by decide +kernel, rfl, by decide +kernel, by decide +kernel⟩
theorem fg_law_pot (T : Tp K mg)  {fd : FuncData} (Fn : Fun K "_law_pot" "_law_pot" (top 68) (He.ga K "_law_pot") fd) : FnG P w K mg base 1 (He.ga K "_law_pot") fd ["_law_script", "_law_k"] S_law_pot := by
  refine dfn 0 Fn sc_law_pot len_law_pot cels_law_pot fun cdv A outer s H hr hA => ⟨_, (scons (sset 2 sc_law_pot.nd (dx di)) (scons (sif (dcmpT op_ltA opr_ltA (dv 1) (dlen (m_len T) (acons (dv 0) anil)) (nomark _)) (sone (sset 2 sc_law_pot.nd (dx (dmod (dabs (m_abs T) (acons (dixP (dv 0) (dv 1)) anil)) (dpow (dpow di di) di))))) snil) (sone (sret (m := 0) (dlst (acons (dmul (dv 2) (dintOf (m_int T) (acons (dcmp op_ge opr_ge (dv 2) (dpow di di) (nomark _)) anil))) (acons (dmod (dpow (dadd (dadd (dmod (dv 2) di) (dmul di (dv 1))) di) di) di) (acons di anil)))))))), fun as Q h => ?_⟩
  unfold S_law_pot at h
  split at h
  · unfold q_law_pot at h
    rename_i x0 x1
    refine at_env (b := [.dat x0, .dat x1, .un]) rfl ?_
    exact Eq.mp (by kernel_rfl) h
  · exact h.elim
theorem ok_law_pot (T : Tp K mg)  : Dn P w K mg base "_law_pot" 1 ["_law_script", "_law_k"] S_law_pot := by
  obtain ⟨kV, doc, pm, an, cdv, ct, Fn⟩ := T.fun_ "_law_pot" (top 68) 29 122
  exact ⟨⟨_, fg_law_pot T  Fn, Fn.binds (ps := ["_law_script", "_law_k"]) fun _ _ _ _ _ _ us hl => match us, hl with | [_, _], _ => rfl⟩, T.glo "_law_pot" 51, T.keep "_law_pot" 122⟩
def kk_law_take : RT → (PyData → List PyData → Prop) := fun R v c => R (.dat v) [.cel true c]
def S_law_take : DSp := fun as Q => match as with
  | [.cel true x0, .dat x1] => q_law_take x0 x1 (kk_law_take Q)
  | _ => False
theorem len_law_take (as : List SD) (Q : SD → List SD → Prop) (h : S_law_take as Q) : as.length = 2 := by
  unfold S_law_take at h
  split at h
  · rfl
  · exact h.elim
theorem cels_law_take : CelsIn 1 S_law_take := by
  intro as Q h i p xs e
  unfold S_law_take at h
  split at h
  · exact cels1 (ds := [_]) e
  · exact h.elim
def N_law_take : List Str := ["_law_pot_here", "_law_many", "_law_found", "_law_one", "_law_other"]
theorem sc_law_take : FnScope N_law_take ["_law_pot_here", "_law_many"] (defScope (top 69)) := ⟨rfl, rfl, rfl, by decide +kernel, rfl, by decide +kernel, by decide +kernel⟩
theorem fg_law_take (T : Tp K mg)  {fd : FuncData} (Fn : Fun K "_law_take" "_law_take" (top 69) (He.ga K "_law_take") fd) : FnG P w K mg base 1 (He.ga K "_law_take") fd ["_law_pot_here", "_law_many"] S_law_take := by
  refine dfn 1 Fn sc_law_take len_law_take cels_law_take fun cdv A outer s H hr hA => ⟨_, (scons (sif (dcmpT op_gt opr_gt (dixC 0 di) di (nomark _)) (scons (sset 2 sc_law_take.nd (dx (dmod (dixC 0 di) (dv 1)))) (scons (ssetC 0 (ddiv (dixC 0 di) (dv 1)) di) (sone (sret (m := 1) (dx (dv 2)))))) snil) (scons (ssetC 0 (dadd (dixC 0 di) di) di) (scons (sset 3 sc_law_take.nd (dx (dmod (dpow (dadd (dixC 0 di) (dmul di (dixC 0 di))) di) di))) (scons (sset 4 sc_law_take.nd (dx (dmod (dpow (dadd (dadd (dv 3) (dmod (dixC 0 di) di)) (dmul di (dixC 0 di))) di) di))) (sone (sret (m := 1) (dx (dmod (ddiv (dmod (dmul (dv 4) di) di) di) (dv 1))))))))), fun as Q h => ?_⟩
  unfold S_law_take at h
  split at h
  · unfold q_law_take at h
    rename_i x0 x1
    refine at_env (b := [.cel true x0, .dat x1, .un, .un, .un]) rfl ?_
    exact Eq.mp (by kernel_rfl) h
  · exact h.elim
theorem ok_law_take (T : Tp K mg)  : Dn P w K mg base "_law_take" 1 ["_law_pot_here", "_law_many"] S_law_take := by
  obtain ⟨kV, doc, pm, an, cdv, ct, Fn⟩ := T.fun_ "_law_take" (top 69) 30 123
  exact ⟨⟨_, fg_law_take T  Fn, Fn.binds (ps := ["_law_pot_here", "_law_many"]) fun _ _ _ _ _ _ us hl => match us, hl with | [_, _], _ => rfl⟩, T.glo "_law_take" 52, T.keep "_law_take" 123⟩
def kk_law_log : RT → (PyData → List PyData → Prop) := fun R v c => R (.dat v) [.cel true c]
def em_law_log_1 (i : PyData × PyData) (s : List PyData × PyData × List PyData) : List SD := [.cel true s.1, .dat i.1, .dat i.2, .dat s.2.1, .cel false s.2.2, .un, .un]
def de_law_log_1 : List SD → Option ((PyData × PyData) × (List PyData × PyData × List PyData))
  | [.cel true x0, .dat x1, .dat x2, .dat x3, .cel false x4, .un, .un] => some ((x1, x2), (x0, x3, x4))
  | _ => none
theorem hde_law_log_1 : ∀ env i s, de_law_log_1 env = some (i, s) → env = em_law_log_1 i s := by
  intro env i s h
  unfold de_law_log_1 at h
  split at h
  · cases h; rfl
  · cases h
def S_law_log : DSp := fun as Q => match as with
  | [.cel true x0, .dat x1, .dat x2] => q_law_log x0 x1 x2 (kk_law_log Q)
  | _ => False
theorem len_law_log (as : List SD) (Q : SD → List SD → Prop) (h : S_law_log as Q) : as.length = 3 := by
  unfold S_law_log at h
  split at h
  · rfl
  · exact h.elim
theorem cels_law_log : CelsIn 1 S_law_log := by
  intro as Q h i p xs e
  unfold S_law_log at h
  split at h
  · exact cels1 (ds := [_, _]) e
  · exact h.elim
def N_law_log : List Str := ["_law_pot_here", "_law_step", "_law_far", "_law_hour", "_law_found", "_law_k", "_law_x"]
theorem sc_law_log : FnScope N_law_log ["_law_pot_here", "_law_step", "_law_far"] (defScope (top 70)) := ⟨rfl, rfl, rfl, by decide +kernel, rfl, by decide +kernel, by decide +kernel⟩
theorem fg_law_log (T : Tp K mg) (D_law_take : Dn P w K mg base "_law_take" 1 ["_law_pot_here", "_law_many"] S_law_take) {fd : FuncData} (Fn : Fun K "_law_log" "_law_log" (top 70) (He.ga K "_law_log") fd) : FnG P w K mg base 2 (He.ga K "_law_log") fd ["_law_pot_here", "_law_step", "_law_far"] S_law_log := by
  refine dfn 1 Fn sc_law_log len_law_log cels_law_log fun cdv A outer s H hr hA => ⟨_, (scons (sset 3 sc_law_log.nd (dx (dixP (dfrz (dlst (acons (dfrz (dcnC 0 D_law_take (hr.mono (by decide)) hA (acons di anil))) (acons di (acons (dfrz (dcnC 0 D_law_take (hr.mono (by decide)) hA (acons di anil))) (acons di anil)))))) (dmul (dfrz (dcnC 0 D_law_take (hr.mono (by decide)) hA (acons di anil))) (dintOf (m_int T) (acons (dcmp op_gt opr_gt (dv 2) di (nomark _)) anil)))))) (scons (sset 4 sc_law_log.nd (dlst anil)) (scons (sforQ [5, 6] de_law_log_1 em_law_log_1 kk_law_log qb_law_log_1 hde_law_log_1 PassesOwn.never rfl (irange1 (m_range T) (acons (dixP (dfrz (dlst (acons (dadd di (dfrz (dcnC 0 D_law_take (hr.mono (by decide)) hA (acons di anil)))) (acons (dadd di (dfrz (dcnC 0 D_law_take (hr.mono (by decide)) hA (acons di anil)))) anil)))) (dfrz (dcnC 0 D_law_take (hr.mono (by decide)) hA (acons di anil)))) anil)) (gn 5 sc_law_log.nd) (ssforget [5] (scons (sif (dcmpT op_le opr_le (dv 3) di (nomark _)) (scons (sset 6 sc_law_log.nd (dx (dsub (dfrz (dcnC 0 D_law_take (hr.mono (by decide)) hA (acons (dadd (dmul di (dv 2)) di) anil))) (dv 2)))) (sone (sapp 4 (dtup (acons (dv 3) (acons (dv 6) (acons (dsub (dfrz (dcnC 0 D_law_take (hr.mono (by decide)) hA (acons (dadd (dmul di (dv 2)) di) anil))) (dv 2)) anil))))))) snil) (ssforget [6] (sone (sset 3 sc_law_log.nd (dx (dadd (dadd (dv 3) di) (dfrz (dcnC 0 D_law_take (hr.mono (by decide)) hA (acons (dv 1) anil)))))))))) (fun R d i s nx bk h => Eq.mp (by kernel_rfl) h)) (sone (sret (m := 1) (dx (dtupC 4 (m_tuple T)))))))), fun as Q h => ?_⟩
  unfold S_law_log at h
  split at h
  · unfold q_law_log at h
    rename_i x0 x1 x2
    refine at_env (b := [.cel true x0, .dat x1, .dat x2, .un, .un, .un, .un]) rfl ?_
    exact Eq.mp (by kernel_rfl) h
  · exact h.elim
theorem ok_law_log (T : Tp K mg) (D_law_take : Dn P w K mg base "_law_take" 1 ["_law_pot_here", "_law_many"] S_law_take) : Dn P w K mg base "_law_log" 2 ["_law_pot_here", "_law_step", "_law_far"] S_law_log := by
  obtain ⟨kV, doc, pm, an, cdv, ct, Fn⟩ := T.fun_ "_law_log" (top 70) 31 124
  exact ⟨⟨_, fg_law_log T D_law_take Fn, Fn.binds (ps := ["_law_pot_here", "_law_step", "_law_far"]) fun _ _ _ _ _ _ us hl => match us, hl with | [_, _, _], _ => rfl⟩, T.glo "_law_log" 53, T.keep "_law_log" 124⟩
def kk_law_books : RT → (PyData → List PyData → Prop) := fun R v c => R (.dat v) [.cel true c]
def em_law_books_1 (i : PyData × PyData) (s : List PyData × List PyData) : List SD := [.cel true s.1, .dat i.1, .dat i.2, .cel false s.2, .un, .un, .un, .un, .un, .un, .un, .un, .un]
def de_law_books_1 : List SD → Option ((PyData × PyData) × (List PyData × List PyData))
  | [.cel true x0, .dat x1, .dat x2, .cel false x3, .un, .un, .un, .un, .un, .un, .un, .un, .un] => some ((x1, x2), (x0, x3))
  | _ => none
theorem hde_law_books_1 : ∀ env i s, de_law_books_1 env = some (i, s) → env = em_law_books_1 i s := by
  intro env i s h
  unfold de_law_books_1 at h
  split at h
  · cases h; rfl
  · cases h
def em_law_books_2 (i : List PyData × PyData × PyData × List PyData × PyData × PyData) (s : Unit) : List SD := [.cel true i.1, .dat i.2.1, .dat i.2.2.1, .cel false i.2.2.2.1, .un, .un, .dat i.2.2.2.2.1, .un, .dat i.2.2.2.2.2, .un, .un, .un, .un]
def de_law_books_2 : List SD → Option ((List PyData × PyData × PyData × List PyData × PyData × PyData) × (Unit))
  | [.cel true x0, .dat x1, .dat x2, .cel false x3, .un, .un, .dat x6, .un, .dat x8, .un, .un, .un, .un] => some ((x0, x1, x2, x3, x6, x8), ())
  | _ => none
theorem hde_law_books_2 : ∀ env i s, de_law_books_2 env = some (i, s) → env = em_law_books_2 i s := by
  intro env i s h
  unfold de_law_books_2 at h
  split at h
  · cases h; rfl
  · cases h
def S_law_books : DSp := fun as Q => match as with
  | [.cel true x0, .dat x1, .dat x2] => q_law_books x0 x1 x2 (kk_law_books Q)
  | _ => False
theorem len_law_books (as : List SD) (Q : SD → List SD → Prop) (h : S_law_books as Q) : as.length = 3 := by
  unfold S_law_books at h
  split at h
  · rfl
  · exact h.elim
theorem cels_law_books : CelsIn 1 S_law_books := by
  intro as Q h i p xs e
  unfold S_law_books at h
  split at h
  · exact cels1 (ds := [_, _]) e
  · exact h.elim
def N_law_books : List Str := ["_law_pot_here", "_law_step", "_law_far", "_law_found", "_law_k", "_law_way", "_law_log_here", "_law_at", "_law_by", "_law_rows", "_law_hour", "_law_x", "_law_y"]
theorem sc_law_books : FnScope N_law_books ["_law_pot_here", "_law_step", "_law_far"] (defScope (top 71)) := ⟨rfl, rfl, rfl, by decide +kernel, rfl, by decide +kernel, by decide +kernel⟩
theorem fg_law_books (T : Tp K mg) (D_law_log : Dn P w K mg base "_law_log" 2 ["_law_pot_here", "_law_step", "_law_far"] S_law_log) (D_law_take : Dn P w K mg base "_law_take" 1 ["_law_pot_here", "_law_many"] S_law_take) {fd : FuncData} (Fn : Fun K "_law_books" "_law_books" (top 71) (He.ga K "_law_books") fd) : FnG P w K mg base 3 (He.ga K "_law_books") fd ["_law_pot_here", "_law_step", "_law_far"] S_law_books := by
  refine dfn 1 Fn sc_law_books len_law_books cels_law_books fun cdv A outer s H hr hA => ⟨_, (scons (sset 3 sc_law_books.nd (dlst anil)) (scons (sforQ [4, 5, 6, 7, 8, 9] de_law_books_1 em_law_books_1 kk_law_books qb_law_books_1 hde_law_books_1 PassesOwn.never rfl (irange1 (m_range T) (acons (dadd di (dfrz (dcnC 0 D_law_take (hr.mono (by decide)) hA (acons di anil)))) anil)) (gn 4 sc_law_books.nd) (scons (sset 5 sc_law_books.nd (dcnC 0 D_law_take (hr.mono (by decide)) hA (acons di anil))) (scons (sset 6 sc_law_books.nd (dcnC 0 D_law_log (hr.mono (by decide)) hA (acons (dv 1) (acons (dv 2) anil)))) (ssforget [4] (scons (sif (tand (tempCn 3 hr.units) (tand1 (dcmpT op_gt opr_gt (dv 5) di (nomark _)))).pt (scons (sset 6 sc_law_books.nd (dx (dixC 3 (dfrz (dcnC 0 D_law_take (hr.mono (by decide)) hA (acons (dlenC 3 (m_len T)) anil)))))) (scons (sasg (dtup (acons (dfrz (dcnC 0 D_law_take (hr.mono (by decide)) hA (acons (dlen (m_len T) (acons (dv 6) anil)) anil))) (acons (dsub (dfrz (dcnC 0 D_law_take (hr.mono (by decide)) hA (acons di anil))) di) anil))) (gtup (gl_cons gok_n (gl_cons gok_n gl_nil)) rfl (gcons (gn 7 sc_law_books.nd) (gcons (gn 8 sc_law_books.nd) gnil)))) (scons (sif (dcmpT (op_eqE hr.units) opd_eq (dv 5) di (nomark _)) (scons (sset 9 sc_law_books.nd (dlistOf (m_list T) (acons (dv 6) anil))) (scons (ssetC 9 (dtup (acons (dixP (dixP (dv 6) (dv 7)) di) (acons (dmax2 (m_max T) rfl (acons (dneg (dv 2)) (acons (dmin2 (m_min T) rfl (acons (dv 2) (acons (dadd (dixP (dixP (dv 6) (dv 7)) di) (dv 8)) anil))) anil))) (acons (dixP (dixP (dv 6) (dv 7)) di) anil)))) (dv 7)) (sone (sset 6 sc_law_books.nd (dx (dtupC 9 (m_tuple T))))))) snil) (ssforget [9] (ssforget [7] (sone (sif (dcmpT (op_eqE hr.units) opd_eq (dv 5) di (nomark _)) (ssforget [5] (sone (sset 6 sc_law_books.nd (dx (dtupleOf (m_tuple T) (acons (dfrz (dlc (dec := de_law_books_2) (emb := em_law_books_2) (qb := qb_law_books_2) [("_law_hour", 10), ("_law_x", 11), ("_law_y", 12)] (.tup [10, 11, 12]) hde_law_books_2 rfl sc_law_books.nd (iseq (dv 6)) (blkOk_by (own := [("_law_hour", 10), ("_law_x", 11), ("_law_y", 12)]) (N := N_law_books) (sc := defScope (top 71)) (by decide +kernel)) (fun _ _ _ _ _ => pg_tup rfl (pgs_cons (pg_name (i := 10) sc_law_books.nd rfl (Or.inl rfl)) (pgs_cons (pg_name (i := 11) sc_law_books.nd rfl (Or.inl rfl)) (pgs_cons (pg_name (i := 12) sc_law_books.nd rfl (Or.inl rfl)) pgs_nil)))) (fun _ _ _ _ _ => tyes) (fun _ _ _ _ _ => (dtup (acons (dv 10) (acons (dmax2 (m_max T) rfl (acons (dneg (dv 2)) (acons (dmin2 (m_min T) rfl (acons (dv 2) (acons (dadd (dv 11) (dv 8)) anil))) anil))) (acons (dv 12) anil))))) (fun d i s sk yd h => Eq.mp (by kernel_rfl) h))) anil)))))) snil))))))) snil) (ssforget [5, 8] (sone (sapp 3 (dv 6)))))))) (fun R d i s nx bk h => Eq.mp (by kernel_rfl) h)) (sone (sret (m := 1) (dx (dtupC 3 (m_tuple T))))))), fun as Q h => ?_⟩
  unfold S_law_books at h
  split at h
  · unfold q_law_books at h
    rename_i x0 x1 x2
    refine at_env (b := [.cel true x0, .dat x1, .dat x2, .un, .un, .un, .un, .un, .un, .un, .un, .un, .un]) rfl ?_
    exact Eq.mp (by kernel_rfl) h
  · exact h.elim
theorem ok_law_books (T : Tp K mg) (D_law_log : Dn P w K mg base "_law_log" 2 ["_law_pot_here", "_law_step", "_law_far"] S_law_log) (D_law_take : Dn P w K mg base "_law_take" 1 ["_law_pot_here", "_law_many"] S_law_take) : Dn P w K mg base "_law_books" 3 ["_law_pot_here", "_law_step", "_law_far"] S_law_books := by
  obtain ⟨kV, doc, pm, an, cdv, ct, Fn⟩ := T.fun_ "_law_books" (top 71) 32 125
  exact ⟨⟨_, fg_law_books T D_law_log D_law_take Fn, Fn.binds (ps := ["_law_pot_here", "_law_step", "_law_far"]) fun _ _ _ _ _ _ us hl => match us, hl with | [_, _, _], _ => rfl⟩, T.glo "_law_books" 54, T.keep "_law_books" 125⟩
def kk_law_asked_for : RT → (PyData → List PyData → Prop) := fun R v c => R (.dat v) [.cel true c]
def S_law_asked_for : DSp := fun as Q => match as with
  | [.cel true x0, .dat x1] => q_law_asked_for x0 x1 (kk_law_asked_for Q)
  | _ => False
theorem len_law_asked_for (as : List SD) (Q : SD → List SD → Prop) (h : S_law_asked_for as Q) : as.length = 2 := by
  unfold S_law_asked_for at h
  split at h
  · rfl
  · exact h.elim
theorem cels_law_asked_for : CelsIn 1 S_law_asked_for := by
  intro as Q h i p xs e
  unfold S_law_asked_for at h
  split at h
  · exact cels1 (ds := [_]) e
  · exact h.elim
def N_law_asked_for : List Str := ["_law_pot_here", "_law_way", "_law_step", "_law_far", "_law_low", "_law_high", "_law_miles"]
theorem sc_law_asked_for : FnScope N_law_asked_for ["_law_pot_here", "_law_way"] (defScope (top 72)) := ⟨rfl, rfl, rfl, by decide +kernel, rfl, by decide +kernel, by decide +kernel⟩
theorem fg_law_asked_for (T : Tp K mg) (D_law_take : Dn P w K mg base "_law_take" 1 ["_law_pot_here", "_law_many"] S_law_take) {fd : FuncData} (Fn : Fun K "_law_asked_for" "_law_asked_for" (top 72) (He.ga K "_law_asked_for") fd) : FnG P w K mg base 2 (He.ga K "_law_asked_for") fd ["_law_pot_here", "_law_way"] S_law_asked_for := by
  refine dfn 1 Fn sc_law_asked_for len_law_asked_for cels_law_asked_for fun cdv A outer s H hr hA => ⟨_, (scons (sasg (dixP (dfrz (dlst (acons (dtup (acons di (acons di anil))) (acons (dtup (acons di (acons di anil))) (acons (dtup (acons di (acons di anil))) (acons (dtup (acons di (acons di anil))) anil)))))) (dv 1)) (gtup (gl_cons gok_n (gl_cons gok_n gl_nil)) rfl (gcons (gn 2 sc_law_asked_for.nd) (gcons (gn 3 sc_law_asked_for.nd) gnil)))) (scons (sset 4 sc_law_asked_for.nd (dx (dixP (dfrz (dlst (acons (dfrz (dcnC 0 D_law_take (hr.mono (by decide)) hA (acons di anil))) (acons (dfrz (dcnC 0 D_law_take (hr.mono (by decide)) hA (acons di anil))) (acons (dfrz (dcnC 0 D_law_take (hr.mono (by decide)) hA (acons di anil))) (acons (dfrz (dcnC 0 D_law_take (hr.mono (by decide)) hA (acons di anil))) anil)))))) (dv 1)))) (scons (sset 5 sc_law_asked_for.nd (dx (dmin2 (m_min T) rfl (acons di (acons (dadd (dv 4) (dixP (dfrz (dlst (acons di (acons (dfrz (dcnC 0 D_law_take (hr.mono (by decide)) hA (acons di anil))) (acons di (acons (dfrz (dcnC 0 D_law_take (hr.mono (by decide)) hA (acons di anil))) anil)))))) (dfrz (dcnC 0 D_law_take (hr.mono (by decide)) hA (acons di anil))))) anil))))) (scons (sset 6 sc_law_asked_for.nd (dx (dixP (dfrz (dlst (acons di (acons (dfrz (dcnC 0 D_law_take (hr.mono (by decide)) hA (acons di anil))) (acons (dfrz (dcnC 0 D_law_take (hr.mono (by decide)) hA (acons (dadd (dv 3) di) anil))) (acons (dfrz (dcnC 0 D_law_take (hr.mono (by decide)) hA (acons (dmul di (dv 3)) anil))) (acons di anil))))))) (dfrz (dcnC 0 D_law_take (hr.mono (by decide)) hA (acons di anil)))))) (sone (sret (m := 1) (dx (dtup (acons (dv 2) (acons (dv 3) (acons (dv 4) (acons (dv 5) (acons (dv 6) anil))))))))))))), fun as Q h => ?_⟩
  unfold S_law_asked_for at h
  split at h
  · unfold q_law_asked_for at h
    rename_i x0 x1
    refine at_env (b := [.cel true x0, .dat x1, .un, .un, .un, .un, .un]) rfl ?_
    exact Eq.mp (by kernel_rfl) h
  · exact h.elim
theorem ok_law_asked_for (T : Tp K mg) (D_law_take : Dn P w K mg base "_law_take" 1 ["_law_pot_here", "_law_many"] S_law_take) : Dn P w K mg base "_law_asked_for" 2 ["_law_pot_here", "_law_way"] S_law_asked_for := by
  obtain ⟨kV, doc, pm, an, cdv, ct, Fn⟩ := T.fun_ "_law_asked_for" (top 72) 33 126
  exact ⟨⟨_, fg_law_asked_for T D_law_take Fn, Fn.binds (ps := ["_law_pot_here", "_law_way"]) fun _ _ _ _ _ _ us hl => match us, hl with | [_, _], _ => rfl⟩, T.glo "_law_asked_for" 55, T.keep "_law_asked_for" 126⟩
def kk_law_table : RT → (PyData → List PyData → Prop) := fun R v c => R (.dat v) [.cel true c]
def em_law_table_1 (i : PyData × PyData × PyData × PyData) (s : List PyData) : List SD := [.cel true s, .dat i.1, .dat i.2.1, .dat i.2.2.1, .dat i.2.2.2, .un, .un, .un]
def de_law_table_1 : List SD → Option ((PyData × PyData × PyData × PyData) × (List PyData))
  | [.cel true x0, .dat x1, .dat x2, .dat x3, .dat x4, .un, .un, .un] => some ((x1, x2, x3, x4), x0)
  | _ => none
theorem hde_law_table_1 : ∀ env i s, de_law_table_1 env = some (i, s) → env = em_law_table_1 i s := by
  intro env i s h
  unfold de_law_table_1 at h
  split at h
  · cases h; rfl
  · cases h
def em_law_table_2 (i : PyData × PyData × PyData × PyData × PyData) (s : List PyData) : List SD := [.cel true s, .dat i.1, .dat i.2.1, .dat i.2.2.1, .dat i.2.2.2.1, .un, .dat i.2.2.2.2, .un]
def de_law_table_2 : List SD → Option ((PyData × PyData × PyData × PyData × PyData) × (List PyData))
  | [.cel true x0, .dat x1, .dat x2, .dat x3, .dat x4, .un, .dat x6, .un] => some ((x1, x2, x3, x4, x6), x0)
  | _ => none
theorem hde_law_table_2 : ∀ env i s, de_law_table_2 env = some (i, s) → env = em_law_table_2 i s := by
  intro env i s h
  unfold de_law_table_2 at h
  split at h
  · cases h; rfl
  · cases h
def em_law_table_3 (i : List PyData × PyData × PyData × PyData × PyData) (s : Unit) : List SD := [.cel true i.1, .dat i.2.1, .dat i.2.2.1, .dat i.2.2.2.1, .dat i.2.2.2.2, .un, .un, .un]
def de_law_table_3 : List SD → Option ((List PyData × PyData × PyData × PyData × PyData) × (Unit))
  | [.cel true x0, .dat x1, .dat x2, .dat x3, .dat x4, .un, .un, .un] => some ((x0, x1, x2, x3, x4), ())
  | _ => none
theorem hde_law_table_3 : ∀ env i s, de_law_table_3 env = some (i, s) → env = em_law_table_3 i s := by
  intro env i s h
  unfold de_law_table_3 at h
  split at h
  · cases h; rfl
  · cases h
def em_law_table_4 (i : List PyData × PyData × PyData × PyData × PyData × PyData) (s : Unit) : List SD := [.cel true i.1, .dat i.2.1, .dat i.2.2.1, .dat i.2.2.2.1, .dat i.2.2.2.2.1, .un, .dat i.2.2.2.2.2, .un]
def de_law_table_4 : List SD → Option ((List PyData × PyData × PyData × PyData × PyData × PyData) × (Unit))
  | [.cel true x0, .dat x1, .dat x2, .dat x3, .dat x4, .un, .dat x6, .un] => some ((x0, x1, x2, x3, x4, x6), ())
  | _ => none
theorem hde_law_table_4 : ∀ env i s, de_law_table_4 env = some (i, s) → env = em_law_table_4 i s := by
  intro env i s h
  unfold de_law_table_4 at h
  split at h
  · cases h; rfl
  · cases h
def em_law_table_5 (i : List PyData × PyData × List PyData) (s : Unit) : List SD := [.cel true i.1, .dat i.2.1, .un, .un, .un, .cel false i.2.2, .un, .un]
def de_law_table_5 : List SD → Option ((List PyData × PyData × List PyData) × (Unit))
  | [.cel true x0, .dat x1, .un, .un, .un, .cel false x5, .un, .un] => some ((x0, x1, x5), ())
  | _ => none
theorem hde_law_table_5 : ∀ env i s, de_law_table_5 env = some (i, s) → env = em_law_table_5 i s := by
  intro env i s h
  unfold de_law_table_5 at h
  split at h
  · cases h; rfl
  · cases h
def em_law_table_6 (i : List PyData × PyData) (s : Unit) : List SD := [.cel true i.1, .un, .un, .un, .un, .dat i.2, .un, .un]
def de_law_table_6 : List SD → Option ((List PyData × PyData) × (Unit))
  | [.cel true x0, .un, .un, .un, .un, .dat x5, .un, .un] => some ((x0, x5), ())
  | _ => none
theorem hde_law_table_6 : ∀ env i s, de_law_table_6 env = some (i, s) → env = em_law_table_6 i s := by
  intro env i s h
  unfold de_law_table_6 at h
  split at h
  · cases h; rfl
  · cases h
def S_law_table : DSp := fun as Q => match as with
  | [.cel true x0, .dat x1] => q_law_table x0 x1 (kk_law_table Q)
  | _ => False
theorem len_law_table (as : List SD) (Q : SD → List SD → Prop) (h : S_law_table as Q) : as.length = 2 := by
  unfold S_law_table at h
  split at h
  · rfl
  · exact h.elim
theorem cels_law_table : CelsIn 1 S_law_table := by
  intro as Q h i p xs e
  unfold S_law_table at h
  split at h
  · exact cels1 (ds := [_]) e
  · exact h.elim
def N_law_table : List Str := ["_law_pot_here", "_law_rows", "_law_many", "_law_way", "_law_sign", "_law_found", "_law_row", "_law_column"]
theorem sc_law_table : FnScope N_law_table ["_law_pot_here", "_law_rows"] (defScope (top 73)) := ⟨rfl, rfl, rfl, by decide +kernel, rfl, by decide +kernel, by decide +kernel⟩
theorem fg_law_table (T : Tp K mg) (D_law_take : Dn P w K mg base "_law_take" 1 ["_law_pot_here", "_law_many"] S_law_take) {fd : FuncData} (Fn : Fun K "_law_table" "_law_table" (top 73) (He.ga K "_law_table") fd) : FnG P w K mg base 2 (He.ga K "_law_table") fd ["_law_pot_here", "_law_rows"] S_law_table := by
  refine dfnN 1 Fn sc_law_table len_law_table cels_law_table fun cdv A outer s H hr hA => ⟨_, (scons (sset 2 sc_law_table.nd (dx (dadd di (dfrz (dcnC 0 D_law_take (hr.mono (by decide)) hA (acons di anil)))))) (scons (sset 3 sc_law_table.nd (dcnC 0 D_law_take (hr.mono (by decide)) hA (acons di anil))) (scons (sset 4 sc_law_table.nd (dx (dcmp (op_eqE hr.units) opd_eq (dfrz (dcnC 0 D_law_take (hr.mono (by decide)) hA (acons di anil))) di (nomark _)))) (scons (sset 5 sc_law_table.nd (dlc (dec := de_law_table_1) (emb := em_law_table_1) (qb := qb_law_table_1) [("_law_row", 6)] (.one 6) hde_law_table_1 rfl sc_law_table.nd (irange1 (m_range T) (acons (dv 1) anil)) (blkOk_by (own := [("_law_row", 6)]) (N := N_law_table) (sc := defScope (top 73)) (by decide +kernel)) (fun _ _ _ _ _ => pg_name (i := 6) sc_law_table.nd rfl (Or.inl rfl)) (fun _ _ _ _ _ => tyes) (fun _ _ _ _ _ => (drow (dlc (dec := de_law_table_2) (emb := em_law_table_2) (qb := qb_law_table_2) [("_law_column", 7)] (.one 7) hde_law_table_2 rfl sc_law_table.nd (irange1 (m_range T) (acons (dv 2) anil)) (blkOk_by (own := [("_law_column", 7)]) (N := N_law_table) (by kernel_rfl)) (fun _ _ _ _ _ => pg_name (i := 7) sc_law_table.nd rfl (Or.inl rfl)) (fun _ _ _ _ _ => tyes) (fun _ _ _ _ _ => (dcmp (op_eqE hr.units) opd_eq (dfrz (dcnC 0 D_law_take (hr.mono (by decide)) hA (acons di anil))) di (nomark _))) (fun d i s sk yd h => Eq.mp (by kernel_rfl) h)))) (fun d i s sk yd h => Eq.mp (by kernel_rfl) h))) (scons (sif (dcmpT op_gt opr_gt (dv 3) di (nomark _)) (ssforget [5] (sone (sset 5 sc_law_table.nd (dlc (dec := de_law_table_3) (emb := em_law_table_3) (qb := qb_law_table_3) [("_law_row", 6)] (.one 6) hde_law_table_3 rfl sc_law_table.nd (irange1 (m_range T) (acons (dv 1) anil)) (blkOk_by (own := [("_law_row", 6)]) (N := N_law_table) (sc := defScope (top 73)) (by decide +kernel)) (fun _ _ _ _ _ => pg_name (i := 6) sc_law_table.nd rfl (Or.inl rfl)) (fun _ _ _ _ _ => tyes) (fun _ _ _ _ _ => (drow (dlc (dec := de_law_table_4) (emb := em_law_table_4) (qb := qb_law_table_4) [("_law_column", 7)] (.one 7) hde_law_table_4 rfl sc_law_table.nd (irange1 (m_range T) (acons (dv 2) anil)) (blkOk_by (own := [("_law_column", 7)]) (N := N_law_table) (by kernel_rfl)) (fun _ _ _ _ _ => pg_name (i := 7) sc_law_table.nd rfl (Or.inl rfl)) (fun _ _ _ _ _ => tyes) (fun _ _ _ _ _ => (dv 4)) (fun d i s sk yd h => Eq.mp (by kernel_rfl) h)))) (fun d i s sk yd h => Eq.mp (by kernel_rfl) h))))) snil) (scons (sif (dcmpT (op_eqE hr.units) opd_eq (dv 3) di (nomark _)) (sone (ssetN 5 (dnotV (dv 4)) (dfrz (dcnC 0 D_law_take (hr.mono (by decide)) hA (acons (dv 1) anil))) (dfrz (dcnC 0 D_law_take (hr.mono (by decide)) hA (acons (dv 2) anil))))) snil) (scons (sif (dcmpT (op_eqE hr.units) opd_eq (dv 3) di (nomark _)) (sone (ssetC 5 (dfrz (drep (dnotV (dv 4)) (dv 2))) (dfrz (dcnC 0 D_law_take (hr.mono (by decide)) hA (acons (dv 1) anil))))) snil) (ssforget [2, 4] (scons (sif (dcmpT (op_eqE hr.units) opd_eq (dv 3) di (nomark _)) (ssforget [3] (sone (sset 5 sc_law_table.nd (dlc (dec := de_law_table_5) (emb := em_law_table_5) (qb := qb_law_table_5) [("_law_row", 6)] (.one 6) hde_law_table_5 rfl sc_law_table.nd (irange1 (m_range T) (acons (dv 1) anil)) (blkOk_by (own := [("_law_row", 6)]) (N := N_law_table) (sc := defScope (top 73)) (by decide +kernel)) (fun _ _ _ _ _ => pg_name (i := 6) sc_law_table.nd rfl (Or.inl rfl)) (fun _ _ _ _ _ => tyes) (fun _ _ _ _ _ => (dixC 5 di)) (fun d i s sk yd h => Eq.mp (by kernel_rfl) h))))) snil) (ssforget [3] (ssforget [1] (ssfreeze2 5 (sone (sret (m := 1) (dx (dtupleOf (m_tuple T) (acons (dfrz (dlc (dec := de_law_table_6) (emb := em_law_table_6) (qb := qb_law_table_6) [("_law_row", 6)] (.one 6) hde_law_table_6 rfl sc_law_table.nd (iseq (dv 5)) (blkOk_by (own := [("_law_row", 6)]) (N := N_law_table) (sc := defScope (top 73)) (by decide +kernel)) (fun _ _ _ _ _ => pg_name (i := 6) sc_law_table.nd rfl (Or.inl rfl)) (fun _ _ _ _ _ => tyes) (fun _ _ _ _ _ => (dtupleOf (m_tuple T) (acons (dv 6) anil))) (fun d i s sk yd h => Eq.mp (by kernel_rfl) h))) anil))))))))))))))))), fun as Q h => ?_⟩
  unfold S_law_table at h
  split at h
  · unfold q_law_table at h
    rename_i x0 x1
    obtain ⟨hat, h⟩ := bIf_and h
    refine ⟨hat, ?_⟩
    refine at_env (b := [.cel true x0, .dat x1, .un, .un, .un, .un, .un, .un]) rfl ?_
    exact Eq.mp (by kernel_rfl) h
  · exact h.elim
theorem ok_law_table (T : Tp K mg) (D_law_take : Dn P w K mg base "_law_take" 1 ["_law_pot_here", "_law_many"] S_law_take) : Dn P w K mg base "_law_table" 2 ["_law_pot_here", "_law_rows"] S_law_table := by
  obtain ⟨kV, doc, pm, an, cdv, ct, Fn⟩ := T.fun_ "_law_table" (top 73) 34 127
  exact ⟨⟨_, fg_law_table T D_law_take Fn, Fn.binds (ps := ["_law_pot_here", "_law_rows"]) fun _ _ _ _ _ _ us hl => match us, hl with | [_, _], _ => rfl⟩, T.glo "_law_table" 56, T.keep "_law_table" 127⟩
def kk_law_sort : RT → (PyData → Prop) := fun R v => R (.dat v) []
def S_law_sort : DSp := fun as Q => match as with
  | [.dat x0] => q_law_sort x0 (kk_law_sort Q)
  | _ => False
theorem len_law_sort (as : List SD) (Q : SD → List SD → Prop) (h : S_law_sort as Q) : as.length = 1 := by
  unfold S_law_sort at h
  split at h
  · rfl
  · exact h.elim
theorem cels_law_sort : CelsIn 0 S_law_sort := by
  intro as Q h i p xs e
  unfold S_law_sort at h
  split at h
  · exact absurd e (no_cel (ds := [_]) i p xs)
  · exact h.elim
def N_law_sort : List Str := ["_law_caught", "_law_kinds"]
theorem sc_law_sort : FnScope N_law_sort ["_law_caught"] (defScope (top 74)) := ⟨rfl, rfl, rfl, by decide +kernel, rfl, by decide +kernel, by decide +kernel⟩
theorem fg_law_sort (T : Tp K mg)  {fd : FuncData} (Fn : Fun K "_law_sort" "_law_sort" (top 74) (He.ga K "_law_sort") fd) : FnB P w K mg base 1 (He.ga K "_law_sort") fd ["_law_caught"] S_law_sort := by
  refine dfnB 0 Fn sc_law_sort len_law_sort cels_law_sort fun cdv A outer s H pp hr hA => ⟨_, (scons (sset 1 sc_law_sort.nd (dlst (acons (disx (m_isinstance T) (gl_NoLogs T) (by decide +kernel) (dv 0)) (acons (disx (m_isinstance T) (gl_NoChase T) (by decide +kernel) (dv 0)) (acons (disx (m_isinstance T) (gl_NoMiles T) (by decide +kernel) (dv 0)) anil))))) (ssfreeze2 1 (scons (sset 1 sc_law_sort.nd (dcatN (dv 1) (dfrz (dlst (acons (disx (m_isinstance T) (gl_NoTable T) (by decide +kernel) (dv 0)) (acons (disx (m_isinstance T) (gl_NoSights T) (by decide +kernel) (dv 0)) (acons (disx (m_isinstance T) (gl_NoSet T) (by decide +kernel) (dv 0)) anil))))))) (scons (sapp 1 (disx (m_isinstance T) (gl_NoNumber T) (by decide +kernel) (dv 0))) (scons (sif (dtest (disxT (ds := ["NoWeights", "NoPart", "NoLog", "NoRoll", "NoName", "NoHour", "NoScheme", "NoCrew", "NoMan", "NoSale"]) (m_isinstance T) (pcl_cons (gl_NoWeights T) (pcl_cons (gl_NoPart T) (pcl_cons (gl_NoLog T) (pcl_cons (gl_NoRoll T) (pcl_cons (gl_NoName T) (pcl_cons (gl_NoHour T) (pcl_cons (gl_NoScheme T) (pcl_cons (gl_NoCrew T) (pcl_cons (gl_NoMan T) (pcl_cons (gl_NoSale T) pcl_nil)))))))))) (by decide +kernel) (by decide) (dv 0))) (sone (sret (m := 0) (dx ds))) snil) (scons (sif (dtest (disxT (ds := ["NoCrews", "NoPages", "NoPage", "NoPrize", "NoBalances", "NoMoney", "NoChange", "NoText", "NoRow"]) (m_isinstance T) (pcl_cons (gl_NoCrews T) (pcl_cons (gl_NoPages T) (pcl_cons (gl_NoPage T) (pcl_cons (gl_NoPrize T) (pcl_cons (gl_NoBalances T) (pcl_cons (gl_NoMoney T) (pcl_cons (gl_NoChange T) (pcl_cons (gl_NoText T) (pcl_cons (gl_NoRow T) pcl_nil))))))))) (by decide +kernel) (by decide) (dv 0))) (sone (sret (m := 0) (dx ds))) snil) (ssfreeze2 1 (scons (sif (tor (dcmpT (op_neE hr.units) opd_ne (dcnt hr.u65 (dv 1) db) di (nomark _)) (tor (dtest (disx (m_isinstance T) (gl_TooMany T) (by decide +kernel) (dv 0))) (tor1 (tnot (dtest (disv (m_isinstance T) (m_ValueError T) (dv 0))))))).pt (sone (sret (m := 0) (dx ds))) snil) (sone (sret (m := 0) (dx (dixP (dfrz (dlst (acons ds (acons ds (acons ds (acons ds (acons ds (acons ds (acons ds anil))))))))) (dlix hr.u65 (dv 1) db))))))))))))), fun as Q h => ?_⟩
  unfold S_law_sort at h
  split at h
  · unfold q_law_sort at h
    rename_i x0
    refine at_env (b := [.dat x0, .un]) rfl ?_
    exact Eq.mp (by kernel_rfl) h
  · exact h.elim
theorem ok_law_sort (T : Tp K mg)  : DnB P w K mg base "_law_sort" 1 ["_law_caught"] S_law_sort := by
  obtain ⟨kV, doc, pm, an, cdv, ct, Fn⟩ := T.fun_ "_law_sort" (top 74) 35 128
  exact ⟨⟨_, fg_law_sort T  Fn, Fn.binds (ps := ["_law_caught"]) fun _ _ _ _ _ _ us hl => match us, hl with | [_], _ => rfl⟩, T.glo "_law_sort" 57, T.keep "_law_sort" 128⟩
def kk_law_no_books : RT → (PyData → List PyData → Prop) := fun R v c => R (.dat v) [.cel true c]
def em_law_no_books_1 (i : List PyData × PyData × PyData) (s : Unit) : List SD := [.cel true i.1, .un, .dat i.2.1, .un, .un, .un, .un, .un, .un, .dat i.2.2, .un]
def de_law_no_books_1 : List SD → Option ((List PyData × PyData × PyData) × (Unit))
  | [.cel true x0, .un, .dat x2, .un, .un, .un, .un, .un, .un, .dat x9, .un] => some ((x0, x2, x9), ())
  | _ => none
theorem hde_law_no_books_1 : ∀ env i s, de_law_no_books_1 env = some (i, s) → env = em_law_no_books_1 i s := by
  intro env i s h
  unfold de_law_no_books_1 at h
  split at h
  · cases h; rfl
  · cases h
def S_law_no_books : DSp := fun as Q => match as with
  | [.cel true x0, .dat x1] => q_law_no_books x0 x1 (kk_law_no_books Q)
  | _ => False
theorem len_law_no_books (as : List SD) (Q : SD → List SD → Prop) (h : S_law_no_books as Q) : as.length = 2 := by
  unfold S_law_no_books at h
  split at h
  · rfl
  · exact h.elim
theorem cels_law_no_books : CelsIn 1 S_law_no_books := by
  intro as Q h i p xs e
  unfold S_law_no_books at h
  split at h
  · exact cels1 (ds := [_]) e
  · exact h.elim
def N_law_no_books : List Str := ["_law_pot_here", "_law_books_here", "_law_log_here", "_law_at", "_law_hour", "_law_x", "_law_y", "_law_odd", "_law_spoilt", "_law_some", "_law_k"]
theorem sc_law_no_books : FnScope N_law_no_books ["_law_pot_here", "_law_books_here"] (defScope (top 75)) := ⟨rfl, rfl, rfl, by decide +kernel, rfl, by decide +kernel, by decide +kernel⟩
theorem fg_law_no_books (T : Tp K mg) (D_law_take : Dn P w K mg base "_law_take" 1 ["_law_pot_here", "_law_many"] S_law_take) {fd : FuncData} (Fn : Fun K "_law_no_books" "_law_no_books" (top 75) (He.ga K "_law_no_books") fd) : FnG P w K mg base 2 (He.ga K "_law_no_books") fd ["_law_pot_here", "_law_books_here"] S_law_no_books := by
  refine dfn 1 Fn sc_law_no_books len_law_no_books cels_law_no_books fun cdv A outer s H hr hA => ⟨_, (scons (sset 2 sc_law_no_books.nd (dx (dixP (dv 1) (dfrz (dcnC 0 D_law_take (hr.mono (by decide)) hA (acons (dlen (m_len T) (acons (dv 1) anil)) anil)))))) (scons (sset 3 sc_law_no_books.nd (dcnC 0 D_law_take (hr.mono (by decide)) hA (acons (dlen (m_len T) (acons (dv 2) anil)) anil))) (scons (sasg (dixP (dv 2) (dv 3)) (gtup (gl_cons gok_n (gl_cons gok_n (gl_cons gok_n gl_nil))) rfl (gcons (gn 4 sc_law_no_books.nd) (gcons (gn 5 sc_law_no_books.nd) (gcons (gn 6 sc_law_no_books.nd) gnil))))) (scons (sset 7 sc_law_no_books.nd (dx (dfrz (dlst (acons (dtup (acons (dv 4) (acons (dv 5) anil))) (acons (dtup (acons (dv 4) (acons (dv 5) (acons (dv 6) (acons di anil))))) (acons (dfrz (dlst (acons (dv 4) (acons (dv 5) (acons (dv 6) anil))))) (acons (dtup (acons (dv 4) (acons (dv 5) (acons dn anil)))) (acons (dtup (acons (dv 4) (acons di (acons (dv 6) anil)))) (acons (dtup (acons db (acons (dv 5) (acons (dv 6) anil)))) (acons (dtup (acons (dv 4) (acons (dv 5) (acons db anil)))) anil))))))))))) (scons (sset 7 sc_law_no_books.nd (dx (dadd (dv 7) (dfrz (dlst (acons (dtup (acons di (acons (dv 5) (acons (dv 6) anil)))) (acons (dtup (acons (dneg di) (acons (dv 5) (acons (dv 6) anil)))) (acons (dtup (acons ds (acons (dv 5) (acons (dv 6) anil)))) (acons (dtup (acons (dv 4) (acons (dv 5) (acons (dtup (acons (dv 6) (acons di anil))) anil)))) (acons dn anil)))))))))) (scons (sset 8 sc_law_no_books.nd (dx (dadd (dadd (dsl (dv 2) so_none (so_some (dv 3))) (dtup (acons (dixP (dv 7) (dfrz (dcnC 0 D_law_take (hr.mono (by decide)) hA (acons di anil)))) anil))) (dsl (dv 2) (so_some (dadd (dv 3) di)) so_none)))) (scons (sset 9 sc_law_no_books.nd (dx (dfrz (dlst (acons (dtup (acons (dv 8) anil)) (acons (dadd (dsl (dv 1) so_none (so_some di)) (dtup (acons (dv 8) anil))) (acons (dtup anil) (acons (dfrz (dlistOf (m_list T) (acons (dv 1) anil))) (acons dn (acons di (acons (dtup (acons (dv 2) (acons (dtup anil) anil))) (acons (dtup (acons (dfrz (dlistOf (m_list T) (acons (dv 2) anil))) anil)) (acons (dmul (dtup (acons (dv 2) anil)) di) (acons (dv 2) anil)))))))))))))) (ssforget [1, 3, 4, 5, 6, 7, 8] (scons (sset 9 sc_law_no_books.nd (dx (dadd (dv 9) (dfrz (dlst (acons (dtup (acons (dadd (dv 2) (dsl (dv 2) (so_some (dneg di)) so_none)) anil)) (acons (dtup (acons (dadd (dtup (acons (dixP (dv 2) (dneg di)) anil)) (dv 2)) anil)) (acons (dtup (acons (dtupleOf (m_tuple T) (acons (dfrz (dlc (dec := de_law_no_books_1) (emb := em_law_no_books_1) (qb := qb_law_no_books_1) [("_law_k", 10)] (.one 10) hde_law_no_books_1 rfl sc_law_no_books.nd (irange1 (m_range T) (acons di anil)) (blkOk_by (own := [("_law_k", 10)]) (N := N_law_no_books) (sc := defScope (top 75)) (by decide +kernel)) (fun _ _ _ _ _ => pg_name (i := 10) sc_law_no_books.nd rfl (Or.inl rfl)) (fun _ _ _ _ _ => tyes) (fun _ _ _ _ _ => (dtup (acons (dv 10) (acons di (acons di anil))))) (fun d i s sk yd h => Eq.mp (by kernel_rfl) h))) anil)) anil)) (acons ddict0 (acons ds (acons db anil))))))))))) (sone (sret (m := 1) (dx (dixP (dv 9) (dfrz (dcnC 0 D_law_take (hr.mono (by decide)) hA (acons di anil)))))))))))))))), fun as Q h => ?_⟩
  unfold S_law_no_books at h
  split at h
  · unfold q_law_no_books at h
    rename_i x0 x1
    refine at_env (b := [.cel true x0, .dat x1, .un, .un, .un, .un, .un, .un, .un, .un, .un]) rfl ?_
    exact Eq.mp (by kernel_rfl) h
  · exact h.elim
theorem ok_law_no_books (T : Tp K mg) (D_law_take : Dn P w K mg base "_law_take" 1 ["_law_pot_here", "_law_many"] S_law_take) : Dn P w K mg base "_law_no_books" 2 ["_law_pot_here", "_law_books_here"] S_law_no_books := by
  obtain ⟨kV, doc, pm, an, cdv, ct, Fn⟩ := T.fun_ "_law_no_books" (top 75) 36 129
  exact ⟨⟨_, fg_law_no_books T D_law_take Fn, Fn.binds (ps := ["_law_pot_here", "_law_books_here"]) fun _ _ _ _ _ _ us hl => match us, hl with | [_, _], _ => rfl⟩, T.glo "_law_no_books" 58, T.keep "_law_no_books" 129⟩
def kk_law_no_chase : RT → (PyData → List PyData → Prop) := fun R v c => R (.dat v) [.cel true c]
def S_law_no_chase : DSp := fun as Q => match as with
  | [.cel true x0, .dat x1, .dat x2] => q_law_no_chase x0 x1 x2 (kk_law_no_chase Q)
  | _ => False
theorem len_law_no_chase (as : List SD) (Q : SD → List SD → Prop) (h : S_law_no_chase as Q) : as.length = 3 := by
  unfold S_law_no_chase at h
  split at h
  · rfl
  · exact h.elim
theorem cels_law_no_chase : CelsIn 1 S_law_no_chase := by
  intro as Q h i p xs e
  unfold S_law_no_chase at h
  split at h
  · exact cels1 (ds := [_, _]) e
  · exact h.elim
def N_law_no_chase : List Str := ["_law_pot_here", "_law_low", "_law_high", "_law_some"]
theorem sc_law_no_chase : FnScope N_law_no_chase ["_law_pot_here", "_law_low", "_law_high"] (defScope (top 76)) := ⟨rfl, rfl, rfl, by decide +kernel, rfl, by decide +kernel, by decide +kernel⟩
theorem fg_law_no_chase (T : Tp K mg) (D_law_take : Dn P w K mg base "_law_take" 1 ["_law_pot_here", "_law_many"] S_law_take) {fd : FuncData} (Fn : Fun K "_law_no_chase" "_law_no_chase" (top 76) (He.ga K "_law_no_chase") fd) : FnG P w K mg base 2 (He.ga K "_law_no_chase") fd ["_law_pot_here", "_law_low", "_law_high"] S_law_no_chase := by
  refine dfn 1 Fn sc_law_no_chase len_law_no_chase cels_law_no_chase fun cdv A outer s H hr hA => ⟨_, (scons (sset 3 sc_law_no_chase.nd (dx (dfrz (dlst (acons (dtup (acons (dadd (dv 2) di) (acons (dv 2) anil))) (acons (dtup (acons (dneg di) (acons (dv 2) anil))) (acons (dtup (acons (dv 1) (acons di anil))) (acons (dtup (acons db (acons (dv 2) anil))) (acons (dtup (acons (dv 1) (acons dn anil))) (acons (dtup (acons ds (acons (dv 2) anil))) (acons (dtup (acons (dv 1) (acons (dfrz (dlst (acons (dv 2) anil))) anil))) anil))))))))))) (scons (sset 3 sc_law_no_chase.nd (dx (dadd (dv 3) (dfrz (dlst (acons (dtup (acons (dv 1) (acons (dtup (acons (dv 2) (acons di anil))) anil))) (acons (dtup (acons dn (acons dn anil))) (acons (dtup (acons (dv 1) (acons db anil))) (acons (dtup (acons (dpow di di) (acons (dpow di di) anil))) (acons (dtup (acons (dtup (acons (dv 1) (acons di anil))) (acons (dv 2) anil))) (acons (dtup (acons (dneg di) (acons (dneg di) anil))) anil))))))))))) (sone (sret (m := 1) (dx (dixP (dv 3) (dfrz (dcnC 0 D_law_take (hr.mono (by decide)) hA (acons di anil))))))))), fun as Q h => ?_⟩
  unfold S_law_no_chase at h
  split at h
  · unfold q_law_no_chase at h
    rename_i x0 x1 x2
    refine at_env (b := [.cel true x0, .dat x1, .dat x2, .un]) rfl ?_
    exact Eq.mp (by kernel_rfl) h
  · exact h.elim
theorem ok_law_no_chase (T : Tp K mg) (D_law_take : Dn P w K mg base "_law_take" 1 ["_law_pot_here", "_law_many"] S_law_take) : Dn P w K mg base "_law_no_chase" 2 ["_law_pot_here", "_law_low", "_law_high"] S_law_no_chase := by
  obtain ⟨kV, doc, pm, an, cdv, ct, Fn⟩ := T.fun_ "_law_no_chase" (top 76) 37 130
  exact ⟨⟨_, fg_law_no_chase T D_law_take Fn, Fn.binds (ps := ["_law_pot_here", "_law_low", "_law_high"]) fun _ _ _ _ _ _ us hl => match us, hl with | [_, _, _], _ => rfl⟩, T.glo "_law_no_chase" 59, T.keep "_law_no_chase" 130⟩
def kk_law_no_miles : RT → (PyData → List PyData → Prop) := fun R v c => R (.dat v) [.cel true c]
def S_law_no_miles : DSp := fun as Q => match as with
  | [.cel true x0] => q_law_no_miles x0 (kk_law_no_miles Q)
  | _ => False
theorem len_law_no_miles (as : List SD) (Q : SD → List SD → Prop) (h : S_law_no_miles as Q) : as.length = 1 := by
  unfold S_law_no_miles at h
  split at h
  · rfl
  · exact h.elim
theorem cels_law_no_miles : CelsIn 1 S_law_no_miles := by
  intro as Q h i p xs e
  unfold S_law_no_miles at h
  split at h
  · exact cels1 (ds := []) e
  · exact h.elim
def N_law_no_miles : List Str := ["_law_pot_here"]
theorem sc_law_no_miles : FnScope N_law_no_miles ["_law_pot_here"] (defScope (top 77)) := ⟨rfl, rfl, rfl, by decide +kernel, rfl, by decide +kernel, by decide +kernel⟩
theorem fg_law_no_miles (T : Tp K mg) (D_law_take : Dn P w K mg base "_law_take" 1 ["_law_pot_here", "_law_many"] S_law_take) {fd : FuncData} (Fn : Fun K "_law_no_miles" "_law_no_miles" (top 77) (He.ga K "_law_no_miles") fd) : FnG P w K mg base 2 (He.ga K "_law_no_miles") fd ["_law_pot_here"] S_law_no_miles := by
  refine dfn 1 Fn sc_law_no_miles len_law_no_miles cels_law_no_miles fun cdv A outer s H hr hA => ⟨_, (sone (sret (m := 1) (dx (dixP (dfrz (dlst (acons (dneg di) (acons di (acons db (acons db (acons dn (acons ds (acons (dtup (acons di anil)) (acons (dfrz (dlst (acons di anil))) (acons (dpow di di) (acons ddict0 (acons (dtup (acons di (acons di anil))) (acons ds anil)))))))))))))) (dfrz (dcnC 0 D_law_take (hr.mono (by decide)) hA (acons di anil))))))), fun as Q h => ?_⟩
  unfold S_law_no_miles at h
  split at h
  · unfold q_law_no_miles at h
    rename_i x0
    refine at_env (b := [.cel true x0]) rfl ?_
    exact Eq.mp (by kernel_rfl) h
  · exact h.elim
theorem ok_law_no_miles (T : Tp K mg) (D_law_take : Dn P w K mg base "_law_take" 1 ["_law_pot_here", "_law_many"] S_law_take) : Dn P w K mg base "_law_no_miles" 2 ["_law_pot_here"] S_law_no_miles := by
  obtain ⟨kV, doc, pm, an, cdv, ct, Fn⟩ := T.fun_ "_law_no_miles" (top 77) 38 131
  exact ⟨⟨_, fg_law_no_miles T D_law_take Fn, Fn.binds (ps := ["_law_pot_here"]) fun _ _ _ _ _ _ us hl => match us, hl with | [_], _ => rfl⟩, T.glo "_law_no_miles" 60, T.keep "_law_no_miles" 131⟩
def kk_law_no_table : RT → (PyData → List PyData → Prop) := fun R v c => R (.dat v) [.cel true c]
def S_law_no_table : DSp := fun as Q => match as with
  | [.cel true x0, .dat x1] => q_law_no_table x0 x1 (kk_law_no_table Q)
  | _ => False
theorem len_law_no_table (as : List SD) (Q : SD → List SD → Prop) (h : S_law_no_table as Q) : as.length = 2 := by
  unfold S_law_no_table at h
  split at h
  · rfl
  · exact h.elim
theorem cels_law_no_table : CelsIn 1 S_law_no_table := by
  intro as Q h i p xs e
  unfold S_law_no_table at h
  split at h
  · exact cels1 (ds := [_]) e
  · exact h.elim
def N_law_no_table : List Str := ["_law_pot_here", "_law_table_here", "_law_row", "_law_some"]
theorem sc_law_no_table : FnScope N_law_no_table ["_law_pot_here", "_law_table_here"] (defScope (top 78)) := ⟨rfl, rfl, rfl, by decide +kernel, rfl, by decide +kernel, by decide +kernel⟩
theorem fg_law_no_table (T : Tp K mg) (D_law_take : Dn P w K mg base "_law_take" 1 ["_law_pot_here", "_law_many"] S_law_take) {fd : FuncData} (Fn : Fun K "_law_no_table" "_law_no_table" (top 78) (He.ga K "_law_no_table") fd) : FnG P w K mg base 2 (He.ga K "_law_no_table") fd ["_law_pot_here", "_law_table_here"] S_law_no_table := by
  refine dfn 1 Fn sc_law_no_table len_law_no_table cels_law_no_table fun cdv A outer s H hr hA => ⟨_, (scons (sset 2 sc_law_no_table.nd (dx (dixP (dv 1) (dfrz (dcnC 0 D_law_take (hr.mono (by decide)) hA (acons (dlen (m_len T) (acons (dv 1) anil)) anil)))))) (scons (sset 3 sc_law_no_table.nd (dx (dfrz (dlst (acons (dtup anil) (acons (dtup (acons (dtup anil) anil)) (acons (dfrz (dlistOf (m_list T) (acons (dv 1) anil))) (acons dn (acons di (acons db (acons ds (acons (dadd (dv 1) (dtup (acons (dadd (dv 2) (dtup (acons db anil))) anil))) (acons (dtup (acons (dv 2) (acons (dsl (dv 2) so_none (so_some (dneg di))) anil))) (acons (dmul (dtup (acons (dv 2) anil)) di) (acons (dv 2) anil))))))))))))))) (scons (sset 3 sc_law_no_table.nd (dx (dadd (dv 3) (dfrz (dlst (acons (dtup (acons (dmul (dtup (acons db anil)) di) anil)) (acons (dtup (acons (dtup (acons di anil)) anil)) (acons (dtup (acons (dfrz (dlistOf (m_list T) (acons (dv 2) anil))) anil)) (acons (dtup (acons (dtup (acons db (acons dn anil))) anil)) (acons (dadd (dv 1) (dtup (acons dn anil))) (acons (dtup (acons (dtup (acons db anil)) (acons (dtup anil) anil))) (acons ddict0 anil)))))))))))) (sone (sret (m := 1) (dx (dixP (dv 3) (dfrz (dcnC 0 D_law_take (hr.mono (by decide)) hA (acons di anil)))))))))), fun as Q h => ?_⟩
  unfold S_law_no_table at h
  split at h
  · unfold q_law_no_table at h
    rename_i x0 x1
    refine at_env (b := [.cel true x0, .dat x1, .un, .un]) rfl ?_
    exact Eq.mp (by kernel_rfl) h
  · exact h.elim
theorem ok_law_no_table (T : Tp K mg) (D_law_take : Dn P w K mg base "_law_take" 1 ["_law_pot_here", "_law_many"] S_law_take) : Dn P w K mg base "_law_no_table" 2 ["_law_pot_here", "_law_table_here"] S_law_no_table := by
  obtain ⟨kV, doc, pm, an, cdv, ct, Fn⟩ := T.fun_ "_law_no_table" (top 78) 39 132
  exact ⟨⟨_, fg_law_no_table T D_law_take Fn, Fn.binds (ps := ["_law_pot_here", "_law_table_here"]) fun _ _ _ _ _ _ us hl => match us, hl with | [_, _], _ => rfl⟩, T.glo "_law_no_table" 61, T.keep "_law_no_table" 132⟩
def kk_law_asked : RT → (PyData → Prop) := fun R v => R (.dat v) []
def S_law_asked : DSp := fun as Q => match as with
  | [.dat x0, .dat x1] => q_law_asked x0 x1 (kk_law_asked Q)
  | _ => False
theorem len_law_asked (as : List SD) (Q : SD → List SD → Prop) (h : S_law_asked as Q) : as.length = 2 := by
  unfold S_law_asked at h
  split at h
  · rfl
  · exact h.elim
theorem cels_law_asked : CelsIn 0 S_law_asked := by
  intro as Q h i p xs e
  unfold S_law_asked at h
  split at h
  · exact absurd e (no_cel (ds := [_, _]) i p xs)
  · exact h.elim
def N_law_asked : List Str := ["_law_door", "_law_handed", "e"]
theorem sc_law_asked : FnScope N_law_asked ["_law_door", "_law_handed"] (defScope (top 79)) := ⟨rfl, rfl, rfl, by decide +kernel, rfl, by decide +kernel, by decide +kernel⟩
theorem fg_law_asked (T : Tp K mg) (D_law_sort : DnB P w K mg base "_law_sort" 1 ["_law_caught"] S_law_sort) (D_open_by : DnX P w K mg base "open_by" 5 ["table"] S_open_by) (D_shows_open : DnX P w K mg base "shows_open" 4 ["table", "thing"] S_shows_open) (D_sight_table : DnX P w K mg base "sight_table" 8 ["ours", "theirs", "low", "high", "miles"] S_sight_table) (D_word_of : DnX P w K mg base "word_of" 4 ["table"] S_word_of) {fd : FuncData} (Fn : Fun K "_law_asked" "_law_asked" (top 79) (He.ga K "_law_asked") fd) : FnG P w K mg base 9 (He.ga K "_law_asked") fd ["_law_door", "_law_handed"] S_law_asked := by
  refine dfn 0 Fn sc_law_asked len_law_asked cels_law_asked fun cdv A outer s H hr hA => ⟨_, (scons (stry 2 (gl_PrizeError T) sc_law_asked.nd (fun Ed pn xe tk1 po1 => (scons (sif (dcmpT (op_eqE hr.units) opd_eq (dv 0) di (nomark _)) (sone (sexpr (dcnE D_sight_table (hr.mono (by decide)) hA tk1 (acons (dixP (dv 1) di) (acons (dixP (dv 1) di) (acons (dixP (dv 1) di) (acons (dixP (dv 1) di) (acons (dixP (dv 1) di) anil)))))))) snil) (scons (sif (dcmpT (op_eqE hr.units) opd_eq (dv 0) di (nomark _)) (sone (sexpr (dcnE D_word_of (hr.mono (by decide)) hA tk1 (acons (dixP (dv 1) di) anil)))) snil) (scons (sif (dcmpT (op_eqE hr.units) opd_eq (dv 0) di (nomark _)) (sone (sexpr (dcnE D_open_by (hr.mono (by decide)) hA tk1 (acons (dixP (dv 1) di) anil)))) snil) (sone (sif (dcmpT (op_eqE hr.units) opd_eq (dv 0) di (nomark _)) (sone (sexpr (dcnE D_shows_open (hr.mono (by decide)) hA tk1 (acons (dixP (dv 1) di) (acons (dixP (dv 1) di) anil))))) snil)))))) (fun a pn => (sone (sret (m := 0) (dx (dfrz (dcnB D_law_sort (hr.mark.mono (by decide)) hA (acons (dv 2) anil)))))))) (sone (sret (m := 0) (dx dn)))), fun as Q h => ?_⟩
  unfold S_law_asked at h
  split at h
  · unfold q_law_asked at h
    rename_i x0 x1
    refine at_env (b := [.dat x0, .dat x1, .un]) rfl ?_
    exact Eq.mp (by kernel_rfl) h
  · exact h.elim
theorem ok_law_asked (T : Tp K mg) (D_law_sort : DnB P w K mg base "_law_sort" 1 ["_law_caught"] S_law_sort) (D_open_by : DnX P w K mg base "open_by" 5 ["table"] S_open_by) (D_shows_open : DnX P w K mg base "shows_open" 4 ["table", "thing"] S_shows_open) (D_sight_table : DnX P w K mg base "sight_table" 8 ["ours", "theirs", "low", "high", "miles"] S_sight_table) (D_word_of : DnX P w K mg base "word_of" 4 ["table"] S_word_of) : Dn P w K mg base "_law_asked" 9 ["_law_door", "_law_handed"] S_law_asked := by
  obtain ⟨kV, doc, pm, an, cdv, ct, Fn⟩ := T.fun_ "_law_asked" (top 79) 40 133
  exact ⟨⟨_, fg_law_asked T D_law_sort D_open_by D_shows_open D_sight_table D_word_of Fn, Fn.binds (ps := ["_law_door", "_law_handed"]) fun _ _ _ _ _ _ us hl => match us, hl with | [_, _], _ => rfl⟩, T.glo "_law_asked" 62, T.keep "_law_asked" 133⟩
def kk_law_tables_right : RT → (PyData → List PyData → Prop) := fun R v c => R (.dat v) [.cel true c]
def em_law_tables_right_1 (i : PyData) (s : List PyData) : List SD := [.cel true s, .dat i, .un, .un, .un]
def de_law_tables_right_1 : List SD → Option ((PyData) × (List PyData))
  | [.cel true x0, .dat x1, .un, .un, .un] => some (x1, x0)
  | _ => none
theorem hde_law_tables_right_1 : ∀ env i s, de_law_tables_right_1 env = some (i, s) → env = em_law_tables_right_1 i s := by
  intro env i s h
  unfold de_law_tables_right_1 at h
  split at h
  · cases h; rfl
  · cases h
def S_law_tables_right : DSp := fun as Q => match as with
  | [.cel true x0, .dat x1] => q_law_tables_right x0 x1 (kk_law_tables_right Q)
  | _ => False
theorem len_law_tables_right (as : List SD) (Q : SD → List SD → Prop) (h : S_law_tables_right as Q) : as.length = 2 := by
  unfold S_law_tables_right at h
  split at h
  · rfl
  · exact h.elim
theorem cels_law_tables_right : CelsIn 1 S_law_tables_right := by
  intro as Q h i p xs e
  unfold S_law_tables_right at h
  split at h
  · exact cels1 (ds := [_]) e
  · exact h.elim
def N_law_tables_right : List Str := ["_law_pot_here", "_law_table_here", "_law_door", "_law_odd", "_law_kept"]
theorem sc_law_tables_right : FnScope N_law_tables_right ["_law_pot_here", "_law_table_here"] (defScope (top 80)) := ⟨rfl, rfl, rfl, by decide +kernel, rfl, by decide +kernel, by decide +kernel⟩
theorem fg_law_tables_right (T : Tp K mg) (D_law_asked : Dn P w K mg base "_law_asked" 9 ["_law_door", "_law_handed"] S_law_asked) (D_law_no_table : Dn P w K mg base "_law_no_table" 2 ["_law_pot_here", "_law_table_here"] S_law_no_table) {fd : FuncData} (Fn : Fun K "_law_tables_right" "_law_tables_right" (top 80) (He.ga K "_law_tables_right") fd) : FnG P w K mg base 10 (He.ga K "_law_tables_right") fd ["_law_pot_here", "_law_table_here"] S_law_tables_right := by
  refine dfn 1 Fn sc_law_tables_right len_law_tables_right cels_law_tables_right fun cdv A outer s H hr hA => ⟨_, (scons (sforQ [2, 3, 4] de_law_tables_right_1 em_law_tables_right_1 kk_law_tables_right qb_law_tables_right_1 hde_law_tables_right_1 PassesOwn.never rfl (iseq (dtup (acons di (acons di (acons di anil))))) (gn 2 sc_law_tables_right.nd) (scons (sset 3 sc_law_tables_right.nd (dcnC 0 D_law_no_table (hr.mono (by decide)) hA (acons (dv 1) anil))) (scons (sset 4 sc_law_tables_right.nd (dx (drepr (SysB.out (base := base)) (m_repr T) hr hA (acons (dv 3) anil)))) (scons (sif (tor (dcmpT (op_neE hr.units) opd_ne (dfrz (dcn D_law_asked (hr.mono (by decide)) hA (acons (dv 2) (acons (dfrz (dlst (acons (dv 3) (acons (dtup (acons (dtup (acons di (acons di anil))) (acons (dtup (acons di (acons di anil))) anil))) anil)))) anil)))) ds (nomark _)) (tor1 (dcmpT (op_neE hr.units) opd_ne (drepr (SysB.out (base := base)) (m_repr T) hr hA (acons (dv 3) anil)) (dv 4) (nomark _)))).pt (sone (sret (m := 1) (dx db))) snil) (ssforget [3, 4] (sone (sif (tnotN (dfrz (dcn D_law_asked (hr.mono (by decide)) hA (acons (dv 2) (acons (dfrz (dlst (acons (dv 1) (acons dn anil)))) anil))))) (sone (sret (m := 1) (dx db))) snil)))))) (fun R d i s nx bk h => Eq.mp (by kernel_rfl) h)) (sone (sret (m := 1) (dx db)))), fun as Q h => ?_⟩
  unfold S_law_tables_right at h
  split at h
  · unfold q_law_tables_right at h
    rename_i x0 x1
    refine at_env (b := [.cel true x0, .dat x1, .un, .un, .un]) rfl ?_
    exact Eq.mp (by kernel_rfl) h
  · exact h.elim
theorem ok_law_tables_right (T : Tp K mg) (D_law_asked : Dn P w K mg base "_law_asked" 9 ["_law_door", "_law_handed"] S_law_asked) (D_law_no_table : Dn P w K mg base "_law_no_table" 2 ["_law_pot_here", "_law_table_here"] S_law_no_table) : Dn P w K mg base "_law_tables_right" 10 ["_law_pot_here", "_law_table_here"] S_law_tables_right := by
  obtain ⟨kV, doc, pm, an, cdv, ct, Fn⟩ := T.fun_ "_law_tables_right" (top 80) 41 134
  exact ⟨⟨_, fg_law_tables_right T D_law_asked D_law_no_table Fn, Fn.binds (ps := ["_law_pot_here", "_law_table_here"]) fun _ _ _ _ _ _ us hl => match us, hl with | [_, _], _ => rfl⟩, T.glo "_law_tables_right" 63, T.keep "_law_tables_right" 134⟩
def kk_law : RT → (PyData → Prop) := fun R v => R (.dat v) []
def em_law_1 (i : PyData) (s : Unit) : List SD := [.dat i, .un, .un, .un, .un, .un, .un, .un, .un, .un, .un, .un, .un, .un, .un, .un, .un, .un, .un]
def de_law_1 : List SD → Option ((PyData) × (Unit))
  | [.dat x0, .un, .un, .un, .un, .un, .un, .un, .un, .un, .un, .un, .un, .un, .un, .un, .un, .un, .un] => some (x0, ())
  | _ => none
theorem hde_law_1 : ∀ env i s, de_law_1 env = some (i, s) → env = em_law_1 i s := by
  intro env i s h
  unfold de_law_1 at h
  split at h
  · cases h; rfl
  · cases h
def em_law_2 (i : PyData × PyData × PyData × PyData × PyData × PyData) (s : List PyData) : List SD := [.dat i.1, .un, .cel false s, .un, .un, .dat i.2.1, .dat i.2.2.1, .dat i.2.2.2.1, .dat i.2.2.2.2.1, .dat i.2.2.2.2.2, .un, .un, .un, .un, .un, .un, .un, .un, .un]
def de_law_2 : List SD → Option ((PyData × PyData × PyData × PyData × PyData × PyData) × (List PyData))
  | [.dat x0, .un, .cel false x2, .un, .un, .dat x5, .dat x6, .dat x7, .dat x8, .dat x9, .un, .un, .un, .un, .un, .un, .un, .un, .un] => some ((x0, x5, x6, x7, x8, x9), x2)
  | _ => none
theorem hde_law_2 : ∀ env i s, de_law_2 env = some (i, s) → env = em_law_2 i s := by
  intro env i s h
  unfold de_law_2 at h
  split at h
  · cases h; rfl
  · cases h
def em_law_3 (i : PyData × PyData × PyData × PyData × PyData × PyData × PyData) (s : List PyData) : List SD := [.dat i.1, .un, .cel false s, .un, .un, .dat i.2.1, .dat i.2.2.1, .dat i.2.2.2.1, .dat i.2.2.2.2.1, .dat i.2.2.2.2.2.1, .un, .dat i.2.2.2.2.2.2, .un, .un, .un, .un, .un, .un, .un]
def de_law_3 : List SD → Option ((PyData × PyData × PyData × PyData × PyData × PyData × PyData) × (List PyData))
  | [.dat x0, .un, .cel false x2, .un, .un, .dat x5, .dat x6, .dat x7, .dat x8, .dat x9, .un, .dat x11, .un, .un, .un, .un, .un, .un, .un] => some ((x0, x5, x6, x7, x8, x9, x11), x2)
  | _ => none
theorem hde_law_3 : ∀ env i s, de_law_3 env = some (i, s) → env = em_law_3 i s := by
  intro env i s h
  unfold de_law_3 at h
  split at h
  · cases h; rfl
  · cases h
def em_law_4 (i : PyData × List PyData × PyData × PyData × PyData × PyData × PyData × PyData × List PyData) (s : List PyData) : List SD := [.dat i.1, .un, .cel false i.2.1, .un, .un, .dat i.2.2.1, .dat i.2.2.2.1, .dat i.2.2.2.2.1, .dat i.2.2.2.2.2.1, .dat i.2.2.2.2.2.2.1, .un, .dat i.2.2.2.2.2.2.2.1, .un, .cel false i.2.2.2.2.2.2.2.2, .cel false s, .un, .un, .un, .un]
def de_law_4 : List SD → Option ((PyData × List PyData × PyData × PyData × PyData × PyData × PyData × PyData × List PyData) × (List PyData))
  | [.dat x0, .un, .cel false x2, .un, .un, .dat x5, .dat x6, .dat x7, .dat x8, .dat x9, .un, .dat x11, .un, .cel false x13, .cel false x14, .un, .un, .un, .un] => some ((x0, x2, x5, x6, x7, x8, x9, x11, x13), x14)
  | _ => none
theorem hde_law_4 : ∀ env i s, de_law_4 env = some (i, s) → env = em_law_4 i s := by
  intro env i s h
  unfold de_law_4 at h
  split at h
  · cases h; rfl
  · cases h
def em_law_5 (i : PyData) (s : Unit) : List SD := [.un, .un, .un, .un, .un, .un, .un, .un, .un, .un, .un, .un, .un, .un, .un, .un, .un, .dat i, .un]
def de_law_5 : List SD → Option ((PyData) × (Unit))
  | [.un, .un, .un, .un, .un, .un, .un, .un, .un, .un, .un, .un, .un, .un, .un, .un, .un, .dat x17, .un] => some (x17, ())
  | _ => none
theorem hde_law_5 : ∀ env i s, de_law_5 env = some (i, s) → env = em_law_5 i s := by
  intro env i s h
  unfold de_law_5 at h
  split at h
  · cases h; rfl
  · cases h
def S_law : DSp := fun as Q => match as with
  | [.dat x0] => q_law x0 (kk_law Q)
  | _ => False
theorem len_law (as : List SD) (Q : SD → List SD → Prop) (h : S_law as Q) : as.length = 1 := by
  unfold S_law at h
  split at h
  · rfl
  · exact h.elim
theorem cels_law : CelsIn 0 S_law := by
  intro as Q h i p xs e
  unfold S_law at h
  split at h
  · exact absurd e (no_cel (ds := [_]) i p xs)
  · exact h.elim
def N_law : List Str := ["_law_script", "_law_k", "_law_pot_here", "_law_step", "_law_far", "_law_low", "_law_high", "_law_miles", "_law_ours", "_law_theirs", "_law_turn", "_law_which", "_law_more", "_law_odd", "_law_handed", "_law_at", "_law_kept", "_law_log_here", "_law_due"]
theorem sc_law : FnScope N_law ["_law_script"] (defScope (top 81)) := ⟨rfl, rfl, rfl, by decide +kernel, rfl, by decide +kernel, by decide +kernel⟩
theorem fg_law (T : Tp K mg) (D_law_asked : Dn P w K mg base "_law_asked" 9 ["_law_door", "_law_handed"] S_law_asked) (D_law_asked_for : Dn P w K mg base "_law_asked_for" 2 ["_law_pot_here", "_law_way"] S_law_asked_for) (D_law_books : Dn P w K mg base "_law_books" 3 ["_law_pot_here", "_law_step", "_law_far"] S_law_books) (D_law_no_books : Dn P w K mg base "_law_no_books" 2 ["_law_pot_here", "_law_books_here"] S_law_no_books) (D_law_no_chase : Dn P w K mg base "_law_no_chase" 2 ["_law_pot_here", "_law_low", "_law_high"] S_law_no_chase) (D_law_no_miles : Dn P w K mg base "_law_no_miles" 2 ["_law_pot_here"] S_law_no_miles) (D_law_pot : Dn P w K mg base "_law_pot" 1 ["_law_script", "_law_k"] S_law_pot) (D_law_table : Dn P w K mg base "_law_table" 2 ["_law_pot_here", "_law_rows"] S_law_table) (D_law_tables_right : Dn P w K mg base "_law_tables_right" 10 ["_law_pot_here", "_law_table_here"] S_law_tables_right) (D_law_take : Dn P w K mg base "_law_take" 1 ["_law_pot_here", "_law_many"] S_law_take) {fd : FuncData} (Fn : Fun K "law" "law" (top 81) (He.ga K "law") fd) : FnG P w K mg base 11 (He.ga K "law") fd ["_law_script"] S_law := by
  refine dfn 0 Fn sc_law len_law cels_law fun cdv A outer s H hr hA => ⟨_, (scons (sforQ [1, 2, 3, 4, 5, 6, 7, 8, 9, 10, 11, 12, 13, 14, 15, 16] de_law_1 em_law_1 kk_law qb_law_1 hde_law_1 PassesOwn.never rfl (irange1 (m_range T) (acons (dmax2 (m_max T) rfl (acons di (acons (dmin2 (m_min T) rfl (acons di (acons (dlen (m_len T) (acons (dv 0) anil)) anil))) anil))) anil)) (gn 1 sc_law.nd) (scons (sset 2 sc_law.nd (dcn D_law_pot (hr.mono (by decide)) hA (acons (dv 0) (acons (dv 1) anil)))) (scons (sasg (dfrz (dcnC 2 D_law_asked_for (hr.mono (by decide)) hA (acons (dfrz (dcnC 2 D_law_take (hr.mono (by decide)) hA (acons di anil))) anil))) (gtup (gl_cons gok_n (gl_cons gok_n (gl_cons gok_n (gl_cons gok_n (gl_cons gok_n gl_nil))))) rfl (gcons (gn 3 sc_law.nd) (gcons (gn 4 sc_law.nd) (gcons (gn 5 sc_law.nd) (gcons (gn 6 sc_law.nd) (gcons (gn 7 sc_law.nd) gnil))))))) (scons (spar 8 9 rfl sc_law.nd (acons (dfrz (dcnC 2 D_law_books (hr.mono (by decide)) hA (acons (dv 3) (acons (dv 4) anil)))) (acons (dfrz (dcnC 2 D_law_books (hr.mono (by decide)) hA (acons (dv 3) (acons (dv 4) anil)))) anil))) (ssforget [1, 3, 4] (scons (sforQ [10, 11, 12, 13, 14, 15, 16] de_law_2 em_law_2 kk_law qb_law_2 hde_law_2 PassesOwn.never rfl (irange1 (m_range T) (acons di anil)) (gn 10 sc_law.nd) (scons (sset 11 sc_law.nd (dcnC 2 D_law_take (hr.mono (by decide)) hA (acons di anil))) (ssforget [10] (scons (sset 12 sc_law.nd (dx (dadd (dfrz (dlst (acons (dv 11) anil))) (dfrz (dlc (dec := de_law_3) (emb := em_law_3) (qb := qb_law_3) [("_law_at", 15)] (.one 15) hde_law_3 rfl sc_law.nd (irange1 (m_range T) (acons di anil)) (blkOk_by (own := [("_law_at", 15)]) (N := N_law) (sc := defScope (top 81)) (by decide +kernel)) (fun _ _ _ _ _ => pg_name (i := 15) sc_law.nd rfl (Or.inl rfl)) (fun _ _ _ _ _ => tif1 (tand (dcmpT op_gt opr_gt (dv 15) (dv 11) (nomark _)) (tand1 (dcmpT (op_eqE hr.units) opd_eq (dfrz (dcnC 2 D_law_take (hr.mono (by decide)) hA (acons di anil))) di (nomark _)))).pt) (fun _ _ _ _ _ => (dv 15)) (fun d i s sk yd h => Eq.mp (by kernel_rfl) h)))))) (scons (sset 13 sc_law.nd (dlst (acons (dfrz (dcnC 2 D_law_no_books (hr.mono (by decide)) hA (acons (dv 8) anil))) (acons (dfrz (dcnC 2 D_law_no_books (hr.mono (by decide)) hA (acons (dv 9) anil))) (acons (dfrz (dcnC 2 D_law_no_chase (hr.mono (by decide)) hA (acons (dv 5) (acons (dv 6) anil)))) anil))))) (scons (sapp 13 (dfrz (dcnC 2 D_law_no_miles (hr.mono (by decide)) hA anil))) (scons (sset 14 sc_law.nd (dlst (acons (dv 8) (acons (dv 9) (acons (dtup (acons (dv 5) (acons (dv 6) anil))) (acons (dv 7) anil)))))) (scons (sforQ [12, 15] de_law_4 em_law_4 kk_law qb_law_4 hde_law_4 PassesOwn.never rfl (iseq (dv 12)) (gn 15 sc_law.nd) (sone (ssetC 14 (dixC 13 (dv 15)) (dv 15))) (fun R d i s nx bk h => Eq.mp (by kernel_rfl) h)) (scons (sset 14 sc_law.nd (dcatN (dadd (dfrz (dslC 14 so_none (so_some di))) (dfrz (dlistOf (m_list T) (acons (dixC 14 di) anil)))) (dfrz (dslC 14 (so_some di) so_none)))) (ssfreeze2 14 (scons (sset 16 sc_law.nd (dx (drepr (SysB.out (base := base)) (m_repr T) hr hA (acons (dv 14) anil)))) (ssforget [13] (sone (sif (tor (dcmpT (op_neE hr.units) opd_ne (dfrz (dcn D_law_asked (hr.mono (by decide)) hA (acons di (acons (dv 14) anil)))) (dixP (dfrz (dlst (acons ds (acons ds (acons ds (acons ds anil)))))) (dv 11)) (nomark _)) (tor1 (dcmpT (op_neE hr.units) opd_ne (drepr (SysB.out (base := base)) (m_repr T) hr hA (acons (dv 14) anil)) (dv 16) (nomark _)))).pt (sone (sret (m := 0) (dx db))) snil))))))))))))) (fun R d i s nx bk h => Eq.mp (by kernel_rfl) h)) (scons (sif (tnotN (dfrz (dcn D_law_asked (hr.mono (by decide)) hA (acons di (acons (dfrz (dlst (acons (dv 8) (acons (dv 9) (acons (dv 5) (acons (dv 6) (acons (dv 7) anil))))))) anil))))) (sone (sret (m := 0) (dx db))) snil) (ssforget [5, 6, 7, 8, 9] (sone (sif (tnot (dtest (dfrz (dcnC 2 D_law_tables_right (hr.mono (by decide)) hA (acons (dfrz (dcnC 2 D_law_table (hr.mono (by decide)) hA (acons (dadd di (dfrz (dcnC 2 D_law_take (hr.mono (by decide)) hA (acons di anil)))) anil))) anil))))) (sone (sret (m := 0) (dx db))) snil))))))))) (fun R d i s nx bk h => Eq.mp (by kernel_rfl) h)) (scons (sset 17 sc_law.nd (dx (dtup (acons (dtup (acons di (acons di (acons di anil)))) anil)))) (ssforget [0] (scons (sforQ [14, 18] de_law_5 em_law_5 kk_law qb_law_5 hde_law_5 PassesOwn.never rfl (iseq (dtup (acons (dtup (acons (dfrz (dlst (acons dn (acons dn (acons di (acons di (acons (dneg di) anil))))))) (acons ds anil))) (acons (dtup (acons (dfrz (dlst (acons (dtup (acons (dv 17) anil)) (acons (dtup (acons (dv 17) anil)) (acons di (acons di (acons (dneg di) anil))))))) (acons ds anil))) anil)))) (gtup (gl_cons gok_n (gl_cons gok_n gl_nil)) rfl (gcons (gn 14 sc_law.nd) (gcons (gn 18 sc_law.nd) gnil))) (sone (sif (dcmpT (op_neE hr.units) opd_ne (dfrz (dcn D_law_asked (hr.mono (by decide)) hA (acons di (acons (dv 14) anil)))) (dv 18) (nomark _)) (sone (sret (m := 0) (dx db))) snil)) (fun R d i s nx bk h => Eq.mp (by kernel_rfl) h)) (sone (sret (m := 0) (dx (dcmp (op_eqE hr.units) opd_eq (dfrz (dcn D_law_asked (hr.mono (by decide)) hA (acons di (acons (dfrz (dlst (acons (dtup (acons (dv 17) anil)) (acons (dtup (acons (dv 17) anil)) (acons di (acons di (acons db anil))))))) anil)))) ds (nomark _))))))))), fun as Q h => ?_⟩
  unfold S_law at h
  split at h
  · unfold q_law at h
    rename_i x0
    refine at_env (b := [.dat x0, .un, .un, .un, .un, .un, .un, .un, .un, .un, .un, .un, .un, .un, .un, .un, .un, .un, .un]) rfl ?_
    exact Eq.mp (by kernel_rfl) h
  · exact h.elim
theorem ok_law (T : Tp K mg) (D_law_asked : Dn P w K mg base "_law_asked" 9 ["_law_door", "_law_handed"] S_law_asked) (D_law_asked_for : Dn P w K mg base "_law_asked_for" 2 ["_law_pot_here", "_law_way"] S_law_asked_for) (D_law_books : Dn P w K mg base "_law_books" 3 ["_law_pot_here", "_law_step", "_law_far"] S_law_books) (D_law_no_books : Dn P w K mg base "_law_no_books" 2 ["_law_pot_here", "_law_books_here"] S_law_no_books) (D_law_no_chase : Dn P w K mg base "_law_no_chase" 2 ["_law_pot_here", "_law_low", "_law_high"] S_law_no_chase) (D_law_no_miles : Dn P w K mg base "_law_no_miles" 2 ["_law_pot_here"] S_law_no_miles) (D_law_pot : Dn P w K mg base "_law_pot" 1 ["_law_script", "_law_k"] S_law_pot) (D_law_table : Dn P w K mg base "_law_table" 2 ["_law_pot_here", "_law_rows"] S_law_table) (D_law_tables_right : Dn P w K mg base "_law_tables_right" 10 ["_law_pot_here", "_law_table_here"] S_law_tables_right) (D_law_take : Dn P w K mg base "_law_take" 1 ["_law_pot_here", "_law_many"] S_law_take) : Dn P w K mg base "law" 11 ["_law_script"] S_law := by
  obtain ⟨kV, doc, pm, an, cdv, ct, Fn⟩ := T.fun_ "law" (top 81) 42 135
  exact ⟨⟨_, fg_law T D_law_asked D_law_asked_for D_law_books D_law_no_books D_law_no_chase D_law_no_miles D_law_pot D_law_table D_law_tables_right D_law_take Fn, Fn.binds (ps := ["_law_script"]) fun _ _ _ _ _ _ us hl => match us, hl with | [_], _ => rfl⟩, T.glo "law" 64, T.keep "law" 135⟩
theorem law_imp (as : List SD) (Q : SD → List SD → Prop) (h : lawS 63 as Q) : S_law as Q := by
  unfold lawS at h
  split at h
  · obtain ⟨⟨ns, rfl, hn⟩, h⟩ := h
    exact the_law ns hn _ (h [])
  · exact h.elim

end
theorem facts {P : Program} {w : World} {K : PySem.W.Frag} {h : Heap} {mg : Str → Option Value} {f : Addr} (X : K.In h) (G : h.Ns mainGlobals mg) (hfa : mg ("law" : Str) = some (.ref f)) (c : He.SaysE fa fn K) (cx : FxSays fx K) :
    ∃ fd : FuncData, (∀ (s : Shared) (v : Value), BindsTo s fd ⟨[v], []⟩ [("_law_script", v)]) ∧ ∀ base : Heap, K.In base → base.Ns mainGlobals mg → SysD base → FnG P w K mg base 11 f fd ["_law_script"] (lawS 63) := by
  have T : Tp K mg := ⟨⟨c, h, X, G⟩, cx⟩
  have e := hfa.symm.trans (T.glo "law" 64)
  cases e
  obtain ⟨kV, doc, pm, an, cdv, ct, Fn⟩ := T.fun_ "law" (top 81) 42 135
  refine ⟨PySem.W.fnOf "law" "law" (defArgs (top 81)) (defBody (top 81)) (defScope (top 81)) .none kV doc pm an cdv ct, fun s v => .of_eq rfl, fun base _ _ BD => ?_⟩
  haveI : SysB base := ⟨BD⟩
  have D_is_whole : Dn P w K mg base "is_whole" 1 ["thing"] S_is_whole := ok_is_whole T 
  have D_divisor_of : Dn P w K mg base "divisor_of" 1 ["one", "other"] S_divisor_of := ok_divisor_of T 
  have D_lowest : Dn P w K mg base "lowest" 2 ["p", "q"] S_lowest := ok_lowest T D_divisor_of
  have D_is_hour : Dn P w K mg base "is_hour" 2 ["thing"] S_is_hour := ok_is_hour T D_is_whole
  have D_is_log_row : Dn P w K mg base "is_log_row" 3 ["thing"] S_is_log_row := ok_is_log_row T D_is_hour D_is_whole
  have D_is_log : Dn P w K mg base "is_log" 4 ["thing"] S_is_log := ok_is_log T D_is_log_row
  have D_need_log : DnX P w K mg base "need_log" 5 ["thing"] S_need_log := ok_need_log T D_is_log
  have D_need_chase : DnX P w K mg base "need_chase" 3 ["low", "high"] S_need_chase := ok_need_chase T D_is_hour
  have D_hours_of_both : Dn P w K mg base "hours_of_both" 1 ["one", "other", "low", "high"] S_hours_of_both := ok_hours_of_both T 
  have D_marks_between : Dn P w K mg base "marks_between" 1 ["one", "other", "begin", "end"] S_marks_between := ok_marks_between T 
  have D_whole_place : Dn P w K mg base "whole_place" 1 ["log", "hour"] S_whole_place := ok_whole_place T 
  have D_apart_at : Dn P w K mg base "apart_at" 2 ["one", "other", "hour"] S_apart_at := ok_apart_at T D_whole_place
  have D_least_between : Dn P w K mg base "least_between" 3 ["one", "other", "begin", "end"] S_least_between := ok_least_between T D_apart_at D_lowest
  have D_nearest_of : Dn P w K mg base "nearest_of" 4 ["one", "other", "low", "high"] S_nearest_of := ok_nearest_of T D_hours_of_both D_least_between D_marks_between
  have D_need_both : DnX P w K mg base "need_both" 6 ["one", "other", "low", "high"] S_need_both := ok_need_both T D_need_chase D_need_log
  have D_are_near_by : Dn P w K mg base "are_near_by" 5 ["one", "other", "low", "high", "miles"] S_are_near_by := ok_are_near_by T D_nearest_of
  have D_are_near : DnX P w K mg base "are_near" 7 ["one", "other", "low", "high", "miles"] S_are_near := ok_are_near T D_are_near_by D_is_whole D_need_both
  have D_is_number : Dn P w K mg base "is_number" 2 ["thing", "many"] S_is_number := ok_is_number T D_is_whole
  have D_are_logbooks : Dn P w K mg base "are_logbooks" 5 ["thing"] S_are_logbooks := ok_are_logbooks T D_is_log
  have D_need_logbooks : DnX P w K mg base "need_logbooks" 6 ["thing"] S_need_logbooks := ok_need_logbooks T D_are_logbooks
  have D_sight_table : DnX P w K mg base "sight_table" 8 ["ours", "theirs", "low", "high", "miles"] S_sight_table := ok_sight_table T D_are_near D_need_logbooks
  have D_is_row : Dn P w K mg base "is_row" 1 ["thing"] S_is_row := ok_is_row T 
  have D_is_table : Dn P w K mg base "is_table" 2 ["thing"] S_is_table := ok_is_table T D_is_row
  have D_need_table : DnX P w K mg base "need_table" 3 ["thing"] S_need_table := ok_need_table T D_is_table
  have D_least_place : Dn P w K mg base "least_place" 1 ["table", "wished"] S_least_place := ok_least_place T 
  have D_word_of : DnX P w K mg base "word_of" 4 ["table"] S_word_of := ok_word_of T D_least_place D_need_table
  have D_open_by : DnX P w K mg base "open_by" 5 ["table"] S_open_by := ok_open_by T D_least_place D_word_of
  have D_has_at : Dn P w K mg base "has_at" 3 ["table", "place", "wished"] S_has_at := ok_has_at T D_is_number
  have D_shows_open : DnX P w K mg base "shows_open" 4 ["table", "thing"] S_shows_open := ok_shows_open T D_has_at D_need_table
  have D_law_pot : Dn P w K mg base "_law_pot" 1 ["_law_script", "_law_k"] S_law_pot := ok_law_pot T 
  have D_law_take : Dn P w K mg base "_law_take" 1 ["_law_pot_here", "_law_many"] S_law_take := ok_law_take T 
  have D_law_log : Dn P w K mg base "_law_log" 2 ["_law_pot_here", "_law_step", "_law_far"] S_law_log := ok_law_log T D_law_take
  have D_law_books : Dn P w K mg base "_law_books" 3 ["_law_pot_here", "_law_step", "_law_far"] S_law_books := ok_law_books T D_law_log D_law_take
  have D_law_asked_for : Dn P w K mg base "_law_asked_for" 2 ["_law_pot_here", "_law_way"] S_law_asked_for := ok_law_asked_for T D_law_take
  have D_law_table : Dn P w K mg base "_law_table" 2 ["_law_pot_here", "_law_rows"] S_law_table := ok_law_table T D_law_take
  have D_law_sort : DnB P w K mg base "_law_sort" 1 ["_law_caught"] S_law_sort := ok_law_sort T 
  have D_law_no_books : Dn P w K mg base "_law_no_books" 2 ["_law_pot_here", "_law_books_here"] S_law_no_books := ok_law_no_books T D_law_take
  have D_law_no_chase : Dn P w K mg base "_law_no_chase" 2 ["_law_pot_here", "_law_low", "_law_high"] S_law_no_chase := ok_law_no_chase T D_law_take
  have D_law_no_miles : Dn P w K mg base "_law_no_miles" 2 ["_law_pot_here"] S_law_no_miles := ok_law_no_miles T D_law_take
  have D_law_no_table : Dn P w K mg base "_law_no_table" 2 ["_law_pot_here", "_law_table_here"] S_law_no_table := ok_law_no_table T D_law_take
  have D_law_asked : Dn P w K mg base "_law_asked" 9 ["_law_door", "_law_handed"] S_law_asked := ok_law_asked T D_law_sort D_open_by D_shows_open D_sight_table D_word_of
  have D_law_tables_right : Dn P w K mg base "_law_tables_right" 10 ["_law_pot_here", "_law_table_here"] S_law_tables_right := ok_law_tables_right T D_law_asked D_law_no_table
  exact (fg_law T D_law_asked D_law_asked_for D_law_books D_law_no_books D_law_no_chase D_law_no_miles D_law_pot D_law_table D_law_tables_right D_law_take Fn).imp law_imp
end K21
open PySem PySem.W PySem.Calls PyProof.Rows
set_option maxHeartbeats 0 in
theorem PySem.Challenge.cw_prizelog_k21_tables_refused_holds : PySem.Challenge.rw_prizelog_k21_tables_refused.Holds := by
  w_on; o_law
  refine HandSHeadRun.head_any (r := K21.R) (q := view K21.R.prog [81]) (H := K21.hk) (ob := K21.ob) (M := 20000) (loose := K21.loose) (d := HandSHeadRun.topDef K21.R.prog 81) (kwd := []) K21.ob_eq
    (by kernel_rfl) (fun s => by kernel_rfl) K21.run (by kernel_rfl) (by kernel_rfl) (by kernel_rfl) (by rfl) (by first | assumption | decide +kernel) (by decide +kernel) ⟨rfl, rfl, rfl, rfl, rfl, by decide +kernel⟩ ?hw ?hc
  case hw => w_witness2
  case hc =>
    refine DL.walk_dataE (l := PySem.Challenge.rw_prizelog_k21_tables_refused) (n := 63) (k := 11) (x := "_law_script") rfl (by decide) (by kernel_rfl) ⟨rfl, by decide, by decide⟩ ?F
    intro w mg fa h Y G hmg0
    obtain ⟨⟨K, KX, c, cx⟩, hsys⟩ := Y
    have hmg : mg ("law" : PySem.Str) = some (.ref fa) := by
      have e : (HandSHeadRun.topDef K21.R.prog 81).name = ("law" : PySem.Str) := by kernel_rfl
      rw [← e]
      exact hmg0
    obtain ⟨fd, hb, hF⟩ := K21.facts (P := (PySem.Challenge.rw_prizelog_k21_tables_refused).prog) (w := w) KX G hmg c cx
    exact ⟨K, fd, KX, hsys, hb, hF⟩
