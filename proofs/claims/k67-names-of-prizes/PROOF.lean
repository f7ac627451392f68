import PyProof.Rows.All
import Wide.All
import OpenK.AllK
import Wide.FinOn
import HandS.TupAny
import HandS.TupMul
import HandS.Conv
import HandS.Iter
import HandS.Deep
import HandS.ForMost
import HandS.Exc
import HandS.ExcOwn
import HandS.TryOnly
import HandS.WordsExc
import HandS.Wide
import HandS.IsInst
import HandS.Walk
import HandS.Zip
import HandS.Evl
import HandS.ExcIs
import HandS.HeadHook1
import HandS.Lambda
import HandS.Head0
import HandS.Head1
import HandS.Head2
import HandS.HeadEnd
import PyProof.ReprBulk
import KE.KTupSum
import HandS.Style
import HandS.Dict
import KE.GoesEnum
import HandS.Flt
import KE.DatumOrd
import PyProof.P3In
import HandS.SetFor
import HandS.Strs
import HandS.More
import HandS.HotCalls
import KE.SortData
import KE.DataAny
import KE.KDictSum
import KE.GoesComp
import HandS.TupSets
import KE.SortKeyHeap
import HandS.SortKw
import HandS.EndTab
import HandS.WordsDict
import KE.KDictPairs
import KE.KEqDict
import PySem.Challenge.RW_prizelog_k67_names_of_prizes
set_option Elab.async false
set_option linter.all false
set_option maxRecDepth 100000
set_option maxHeartbeats 4000000
namespace DL
open PySem PySem.Spec PyProof.Rows L2
/-- a tuple's object that has no dict -/
def PlT (o : Obj) : Prop := o.cls = .type "tuple" ∧ o.dict = none
section
variable {X : Cx} {pins : List (Addr × Obj)} {σ : L2.St} {H : Hp} {s : Shared}
theorem layZ (I : Inv X pins σ H s) {xs : List V} {its : List Value} {arr : Array Value} {tk : Nat} (r : Vals xs its) (ha : arr = its.toArray) (hz : xs.length ≤ sizeLine) :
    ∃ o, PlT o ∧ Inv X pins σ (upd H s.heap.objs.size (.frz o (.tup xs))) { s with heap := s.heap.push { cls := .type "tuple", data := .seq arr }, toks := tk } := by
  subst ha
  refine ⟨{ cls := .type "tuple", data := .seq its.toArray }, ⟨rfl, rfl⟩, I.laid (fun b u e => Heap.get?_push_of_some _ e) (Nat.le_refl _) ?_⟩
  exact ⟨Heap.get?_push_size _ rfl, hz, its, r, ⟨_, Heap.get?_push_size _ rfl, rfl, _, rfl⟩⟩
/-- what a new tuple of the items xs is answered with -/
def NewZ (H : Hp) (xs : List V) (Q : VK) : Prop := ∀ p o, H p = none → PlT o → Q (.ref p) (upd H p (.frz o (.tup xs)))
theorem endZ (I : Inv X pins σ H s) {xs : List V} {its : List Value} {arr : Array Value} {tk : Nat} {Q : VK} (r : Vals xs its) (ha : arr = its.toArray) (hz : xs.length ≤ sizeLine) (q : NewZ H xs Q) :
    EP X pins σ Q (.ref s.heap.objs.size) { s with heap := s.heap.push { cls := .type "tuple", data := .seq arr }, toks := tk } := by
  obtain ⟨o, po, J⟩ := layZ (tk := tk) I r ha hz
  exact ⟨.ref s.heap.objs.size, _, J, rfl, q _ _ (I.hok.fresh (Nat.le_refl _)) po⟩
end
section
variable {X : Cx} {a b e : Expr} {es : List Expr} {t : TA} {ta : TE} {pos : Pos}
def tTupZ (t : TA) : TE := fun σ H Q => t σ H fun xs H1 => xs.length ≤ sizeLine ∧ NewZ H1 xs Q
theorem pe_tupZ {x1} (h : PA X es t) : PE X (.Tuple es x1 pos) (tTupZ t) := ⟨fun pins s σ H Q I hq => by
  refine wpAny_Tuple_spliced (thn (h.run pos pins s σ H _ I hq) ?_)
  intro us s1 ⟨xs, H1, I1, r, z, q⟩
  exact ⟨r.length ▸ z, endZ (tk := s1.toks) I1 r rfl z q⟩⟩
def rCatZ (K : PySem.W.Frag) : R2 := fun x y H Q => ∃ a b xs ys, x = .ref a ∧ y = .ref b ∧ SqT K H a xs ∧ SqT K H b ys ∧ xs.length + ys.length ≤ sizeLine ∧
  (xs = [] → Q (.ref b) H) ∧ (xs ≠ [] → ys = [] → Q (.ref a) H) ∧ (xs ≠ [] → ys ≠ [] → NewZ H (xs ++ ys) Q)
theorem op_catZ : OpR X (binaryOp .Add) (rCatZ X.K) := by
  rintro pins s σ H _ _ v u Q I rx ry ⟨l, m, xs, ys, rfl, rfl, hl, hm, hz, q0, q1, q2⟩
  cases rx
  cases ry
  obtain ⟨us, r1, p1, _⟩ := I.tuple hl
  obtain ⟨ws, r2, p2, _⟩ := I.tuple hm
  by_cases hx : xs = []
  · subst hx
    cases r1
    exact cat_tup0 p1 p2 ⟨.ref m, H, I, rfl, q0 rfl⟩
  · refine HT.cat_tup p1 p2 (mt r1.nil_iff.mp hx) (fun z => ⟨.ref l, H, I, rfl, q1 hx (r2.nil_iff.mp z)⟩) (fun z => ?_) (by rw [← r1.length, ← r2.length]; exact hz)
    exact endZ (tk := s.toks) I (r1.append r2) rfl (by simpa using hz) (q2 hx (mt r2.nil_iff.mpr z))
def rSlZ (K : PySem.W.Frag) : V → Option Int → Option Int → Hp → VK → Prop := fun x lo hi H Q => ∃ a xs, x = .ref a ∧ SqT K H a xs ∧
  (HT.sIx xs.length 0 lo = 0 ∧ HT.sIx xs.length xs.length hi = xs.length → Q (.ref a) H) ∧ (¬ (HT.sIx xs.length 0 lo = 0 ∧ HT.sIx xs.length xs.length hi = xs.length) → NewZ H (cutV xs lo hi) Q)
theorem sl_tupZ : SlR X (rSlZ X.K) := by
  rintro pins s σ H _ v vl vu lo hi sl Q I rx hs pl pu ⟨l, xs, rfl, hl, q1, q2⟩
  cases rx
  obtain ⟨us, r, ht, hz⟩ := I.tuple hl
  have hn : us.toArray.size = xs.length := by rw [List.size_toArray, ← r.length]
  refine ⟨"tuple", _, PyProof.Rows.slot_tuple_getitem.lookup, ht.typeIs, ?_⟩
  by_cases hw : HT.sIx xs.length 0 lo = 0 ∧ HT.sIx xs.length xs.length hi = xs.length
  · exact getItem_tuple_whole ht hs pl pu (hn ▸ hw) ⟨.ref l, H, I, rfl, q1 hw⟩
  · refine HT.getItem_tuple_cut ht hs pl pu (hn ▸ hw) ?_ (hn ▸ hz)
    rw [hn]
    exact endZ (tk := s.toks) I ((r.drop _).take _) rfl (Nat.le_trans (cutV_length xs lo hi) hz) (q2 hw)
/-- tuple(..) of a list or a tuple -/
def kTupZ (K : PySem.W.Frag) (x : V) (H : Hp) (Q : VK) : Prop := (∃ p xs, x = .ref p ∧ SqL K H p xs ∧ NewZ H xs Q) ∨ (∃ p xs, x = .ref p ∧ SqT K H p xs ∧ Q (.ref p) H)
theorem rl_tupleZ (pins : List (Addr × Obj)) (s : Shared) (σ : L2.St) (H : Hp) (x : V) (v : Value) (Q : VK) (I : Inv X pins σ H s) (r : RelV x v) (h : kTupZ X.K x H Q) :
    wpAny (model X.prog X.w) X.A (call (.type "tuple") [v]) (EP X pins σ Q) X.xe s := by
  rcases h with ⟨l, xs, rfl, hs, q⟩ | ⟨l, xs, rfl, hs, q⟩
  · cases r
    obtain ⟨us, rv, pl, hz⟩ := I.list hs
    refine call_tuple_list pl.isList (fun h' hk => ?_) (by rw [List.size_toArray, ← rv.length]; exact hz)
    exact endZ (tk := s.toks) (s := { s with heap := h' }) (I.kept (t' := s.toks) hk) rv rfl hz q
  · cases r
    obtain ⟨us, rv, pl, hz⟩ := I.tuple hs
    exact call_tuple_tup pl ⟨.ref l, H, I, rfl, q⟩
theorem pe_tupleZ {p : Pos} (hg : Gl X "tuple") (hm : X.mg "tuple" = none) (ha : PE X a ta) (na : starEach [a] X.env = (false, eval a X.env) :: starEach [] X.env := by rfl) :
    PE X (.Call (.Name "tuple" p) [a] [] pos) (tThen ta (kTupZ X.K)) := ⟨fun pins s σ H Q I h =>
  Call_ (ld_blt I hg hm boot_tuple (PyProof.Rows.callWith_type1 (one_arg ha I h (fun v s2 x H2 I2 r q => rl_tupleZ pins s2 σ H2 x v Q I2 r q) na) na))⟩
/-- xs * k, k from 2 on -/
def rRepZ (K : PySem.W.Frag) : R2 := fun x y H Q => ∃ l k xs, x = .ref l ∧ y = .int k ∧ SqT K H l xs ∧ xs ≠ [] ∧ 2 ≤ k ∧ k ≤ 1000 ∧ xs.length ≤ 1000 ∧ NewZ H (List.replicate k.toNat xs).flatten Q
theorem op_repZ : OpR X (binaryOp .Mult) (rRepZ X.K) := by
  rintro pins s σ H _ _ v u Q I rx ry ⟨l, k, xs, rfl, rfl, hT, hne, h1, h2, hz, q⟩
  cases rx
  obtain ⟨t, rfl⟩ := ry
  obtain ⟨us, r, ⟨⟨cls, dd, data, sl⟩, ho, hc, n, hd⟩, _⟩ := I.tuple hT
  simp only at hc hd
  subst hc hd
  have hl : us.toArray.size = xs.length := by rw [List.size_toArray, ← r.length]
  have e0 : us.toArray.isEmpty = false := by
    cases us with
    | nil => exact absurd (r.nil_iff.mp rfl) hne
    | cons _ _ => rfl
  have big : k.toNat * xs.length ≤ 1000 * 1000 := Nat.mul_le_mul (by omega) hz
  have bigI : ((us.toArray.size : Nat) : Int) * k ≤ 1000000 := by
    have z : ((xs.length * k.toNat : Nat) : Int) ≤ 1000000 := by rw [Nat.mul_comm]; omega
    rw [hl]
    rw [Int.natCast_mul, Int.toNat_of_nonneg (by omega)] at z
    exact z
  have fl : (List.replicate k.toNat us).flatten.length ≤ sizeLine := by
    rw [PyProof.Rows.lm_len_rep_flat, ← r.length, sizeLine_eq]
    omega
  have c0 : (decide (k < -(2 ^ 63)) || decide (k ≥ 2 ^ 63)) = false := by
    rw [Bool.or_eq_false_iff]
    exact ⟨decide_eq_false (by omega), decide_eq_false (by omega)⟩
  have c1 : (us.toArray.isEmpty || k == 1) = false := by rw [e0, Bool.false_or, beq_eq_false_iff_ne]; omega
  have c2 : (decide (k ≤ 0) || us.toArray.isEmpty) = false := by rw [e0, Bool.or_false]; exact decide_eq_false (by omega)
  have c4 : Builtin.Tuple.tupleTooMany (((us.toArray.size : Nat) : Int) * k) = false := decide_eq_false (by rw [sizeLine_eq]; omega)
  refine wpAny_binaryOp_repeat_ref (T := "tuple") (U := "int") (by decide) ⟨_, ho, rfl⟩ (fun _ => typeIs_int _ k t) noFill_tuple_mul F.fills_int_mul F.slot_int_rmul repeat_tuple F.slot_int_index.lookup ?_
  refine call_meets F.slot_int_rmul (typeIs_int s k t) F.entry_int_rmul (F.args_int_rmul_2 _ _) (int_rmul_tuple k t l us.toArray n dd sl) ⟨ho, rfl, ⟨_, ho, rfl⟩, ?_⟩
  refine call_meets F.slot_tuple_mul ⟨_, ho, rfl⟩ F.entry_tuple_mul (F.args_tuple_mul_2 _ _) (tuple_mulW l us.toArray n dd sl k t c0 c1 c2 (by omega) c4 ?_) ⟨ho, ?_⟩
  · rw [size_rep, List.size_toArray]
    exact fl
  · rw [size_rep]
    exact endZ (tk := s.toks) I (r.rep k.toNat) rfl (by rw [PyProof.Rows.lm_len_rep_flat, sizeLine_eq]; omega) q
end
/-- a dict whose keys are tuples of whole numbers and texts: the keys, where they stand, the values -/
abbrev DicE (P : Program) (w : World) (a : Addr) (xs : List (List Key × Addr × Value)) : HO := .ext fun h => ((a == sysModules) = false ∧ xs.length ≤ sizeLine) ∧
  ∃ o es ep, h.get? a = some o ∧ o.ExactDict ∧ o.data = .dict es ep ∧ es.toList = xs.map (entryOfKey (tupleKind (mixKind P w))) ∧ (xs.map (·.1)).Nodup
end DL

namespace DL
open PySem PySem.Spec PyProof.Rows L2
open Evl (Ex)

/-- a list that stays as it is: tracked, known, or written at the top -/
def RdL (K : PySem.W.Frag) (F : Hp) (a : Addr) (xs : List V) : Prop :=
  Rd F a (.lst xs) ∨ ∃ (its : List Value) (n : Nat), K.lookup a = some { cls := .type "list", data := .seq its.toArray n } ∧ Vals xs its ∧ its.length ≤ sizeLine
theorem RdL.mono {K : PySem.W.Frag} {F F' : Hp} {a : Addr} {xs : List V} (e : Ex F F') (h : RdL K F a xs) : RdL K F' a xs := h.imp (Evl.ex_rd e) id
theorem RdL.of {K : PySem.W.Frag} {F : Hp} {a : Addr} {xs : List V} (h : F a = some (.lst xs)) : RdL K F a xs := .inl (.inl h)
theorem RdL.sq {K : PySem.W.Frag} {F : Hp} {a : Addr} {xs : List V} (h : RdL K F a xs) : SqL K F a xs := by
  rcases h with h | ⟨its, n, h1, h2, h3⟩
  · exact .inl h
  · exact .inr ⟨_, its.toArray, n, h1, rfl, rfl, rfl, by simpa using h3, by simpa using h2⟩
theorem RdL.obj {X : Cx} {pins : List (Addr × Obj)} {σ : L2.St} {H : Hp} {s : Shared} {a : Addr} {xs : List V} (h : RdL X.K H a xs) (I : Inv X pins σ H s) : xs.length ≤ sizeLine ∧ ∃ (its : List Value) (n : Nat), Vals xs its ∧ s.heap.get? a = some { cls := .type "list", data := .seq its.toArray n } := by
  rcases h with h | ⟨its, n, h1, h2, h3⟩
  · exact h.ok I.hok
  · exact ⟨by rw [h2.length]; exact h3, its, n, h2, I.kIn a _ h1⟩
/-- the classes of refusals -/
def exNames : List Str := "PrizeError" :: "NoWeights" :: "NoPart" :: "NoNumber" :: "NoLog" :: "NoChase" :: "NoMiles" :: "NoLogs" :: "NoTable" :: "NoSights" :: "NoSet" :: "NoRoll" :: "NoName" :: "NoHour" :: "NoScheme" :: "NoCrew" :: "NoMan" :: "NoSale" :: "NoCrews" :: "NoPages" :: "NoPage" :: "NoPrize" :: "NoBalances" :: "NoMoney" :: "NoChange" :: "TooMany" :: "NoText" :: "NoRow" :: []
def exBases : List Value := [.type "ValueError", .type "Exception", .type "BaseException", .type "object"]
def exTypes : List String := ["int", "bool", "str", "tuple", "dict"]
/-- whether the one is the other or of it -/
def exSub (c d : Str) : Bool := decide (c = d) || decide (d = "PrizeError")
/-- what a class of refusals must say -/
def xcB (K : PySem.W.Frag) (c : Str) : Bool :=
  decide (PySem.W.findIn K (.ref (He.ga K c)) "__getattribute__" = some (some (.builtin "BaseException.__getattribute__"))) &&
  (decide (PySem.W.findIn K (.ref (He.ga K c)) "__getattr__" = some none) &&
  (decide (PySem.W.subIn K (.ref (He.ga K c)) (.type "BaseException") = some true) &&
  (PySem.W.hasDictIn K (He.ga K c) &&
  (decide (PySem.W.findIn K (.ref (He.ga K c)) "__class__" = some (some (.builtin "object.__class__"))) &&
  (decide (PySem.W.specialIn K (.builtin "object.__class__") "__get__" = some (some (.builtin "getset_descriptor.__get__"))) &&
  (decide (PySem.W.takesIn K (.builtin "object.__class__") = some true) &&
  (decide (PySem.W.mroIn K (He.ga K c) (.type "object") = some true) &&
  (PySem.W.excIn K (He.ga K c) exBases "ValueError.__new__" &&
  (PySem.W.keepIn K (.ref (He.ga K c)) &&
  (decide (PySem.W.typeIn K (.ref (He.ga K c)) = some (.type "type")) &&
  (decide (PySem.W.exmOne K (.ref (He.ga K c)) (.ref (He.ga K "PrizeError")) = some true) &&
  (decide (PySem.W.kitOne K (.ref (He.ga K c)) (.type "ValueError") = some true) &&
  (exTypes.all (fun T => decide (PySem.W.kitOne K (.ref (He.ga K c)) (.type T) = some false)) &&
  exNames.all (fun d => decide (PySem.W.kitOne K (.ref (He.ga K c)) (.ref (He.ga K d)) = some (exSub c d))))))))))))))))
structure XcF (K : PySem.W.Frag) (c : Str) : Prop where
  cls : ExcC K (He.ga K c)
  made : PySem.W.excIn K (He.ga K c) exBases "ValueError.__new__" = true
  kp : PySem.W.keepIn K (.ref (He.ga K c)) = true
  ty : PySem.W.typeIn K (.ref (He.ga K c)) = some (.type "type")
  exm : PySem.W.exmOne K (.ref (He.ga K c)) (.ref (He.ga K "PrizeError")) = some true
  ve : PySem.W.kitOne K (.ref (He.ga K c)) (.type "ValueError") = some true
  six : ∀ T ∈ exTypes, PySem.W.kitOne K (.ref (He.ga K c)) (.type T) = some false
  own : ∀ d ∈ exNames, PySem.W.kitOne K (.ref (He.ga K c)) (.ref (He.ga K d)) = some (exSub c d)
theorem xcB_ok {K : PySem.W.Frag} {c : Str} (h : xcB K c = true) : XcF K c := by
  unfold xcB at h
  simp only [Bool.and_eq_true, decide_eq_true_eq, List.all_eq_true] at h
  obtain ⟨a1, a2, a3, a4, a5, a6, a7, a8, a9, b1, b2, b3, b4, b5, b6⟩ := h
  exact ⟨⟨a1, a2, a3, a4, a5, a6, a7, a8⟩, a9, b1, b2, b3, b4, b5, b6⟩
/-- an exception's object -/
def ExcAt (C a : Addr) : Heap → Prop := fun h => ∃ oe vs, h.get? a = some oe ∧ oe.cls = .ref C ∧ oe.dict = none ∧ oe.data = .fields vs
/-- a tuple that stays, whose object has no dict -/
def TqT (K : PySem.W.Frag) (F : Hp) (a : Addr) (xs : List V) : Prop := (∃ o, F a = some (.frz o (.tup xs)) ∧ PlT o) ∨
  ∃ (o : Obj) (its : Array Value) (n : Nat), K.lookup a = some o ∧ PlT o ∧ o.data = .seq its n ∧ its.size ≤ sizeLine ∧ Vals xs its.toList
theorem TqT.sq {K : PySem.W.Frag} {F : Hp} {a : Addr} {xs : List V} (h : TqT K F a xs) : SqT K F a xs := by
  rcases h with ⟨o, h, _⟩ | ⟨o, its, n, h1, h2, h3, h4, h5⟩
  · exact .inl (.inr ⟨o, h⟩)
  · exact .inr ⟨o, its, n, h1, h2.1, h3, h4, h5⟩
theorem TqT.mono {K : PySem.W.Frag} {F F' : Hp} {a : Addr} {xs : List V} (e : Ex F F') (h : TqT K F a xs) : TqT K F' a xs := h.imp (fun ⟨o, h, p⟩ => ⟨o, e _ _ h, p⟩) id
/-- a dict whose keys are whole numbers and texts -/
abbrev KkE (P : Program) (w : World) (a : Addr) (vs : List (Key × V)) : HO := .ext fun h => vs.length ≤ sizeLine ∧ (a == sysModules) = false ∧ ∃ us, KV vs us ∧ h.DictOf (mixKind P w) a us
/-- a list of one's own, within another one or holding such -/
abbrev LsE (a : Addr) (vs : List V) : HO := .ext fun h => vs.length ≤ sizeLine ∧ ∃ (its : List Value) (n : Nat), Vals vs its ∧ h.get? a = some { cls := .type "list", data := .seq its.toArray n }
mutual
inductive DR (K : PySem.W.Frag) (F : Hp) : V → PyData → Prop
  | non : DR K F .non .none
  | bl (b : Bool) : DR K F (.bl b) (.bool b)
  | int (i : Int) : DR K F (.int i) (.int i)
  | str (x : Str) : DR K F (.str x) (.str x)
  | lst {a : Addr} {xs : List V} {ds : List PyData} : RdL K F a xs → DRs K F xs ds → DR K F (.ref a) (.list ds)
  | tup {a : Addr} {xs : List V} {ds : List PyData} : TqT K F a xs → DRs K F xs ds → DR K F (.ref a) (.tuple ds)
  /-- a dict that stays, its keys whole numbers and texts -/
  | dct {a : Addr} {o : Obj} {vs : List (Key × V)} {ds : List (PyData × PyData)} : F a = some (.frz o (.dK vs)) → DM K F vs ds → DR K F (.ref a) (.dict ds)
  /-- a list that a def made and may still change -/
  | row {a : Addr} {xs : List V} {ds : List PyData} : F a = some (.lst xs) → DRs K F xs ds → DR K F (.ref a) (.dict [(.none, .list ds)])
  /-- a caught refusal of the class c -/
  | exc {a : Addr} {c : Str} : F a = some (.ext (ExcAt (He.ga K c) a)) → XcF K c → DR K F (.ref a) (.dict [(.none, .str c)])
inductive DRs (K : PySem.W.Frag) (F : Hp) : List V → List PyData → Prop
  | nil : DRs K F [] []
  | cons {v : V} {vs : List V} {d : PyData} {ds : List PyData} : DR K F v d → DRs K F vs ds → DRs K F (v :: vs) (d :: ds)
inductive DM (K : PySem.W.Frag) (F : Hp) : List (Key × V) → List (PyData × PyData) → Prop
  | nil : DM K F [] []
  | int {n : Int} {v : V} {vs : List (Key × V)} {d : PyData} {ds : List (PyData × PyData)} : DR K F v d → DM K F vs ds → DM K F ((.inl n, v) :: vs) ((.int n, d) :: ds)
  | str {x : Str} {v : V} {vs : List (Key × V)} {d : PyData} {ds : List (PyData × PyData)} : DR K F v d → DM K F vs ds → DM K F ((.inr x, v) :: vs) ((.str x, d) :: ds)
end

section
variable {K : PySem.W.Frag} {F F' H H' : Hp}
mutual
theorem DR.mono (e : Ex F F') : ∀ {v : V} {d : PyData}, DR K F v d → DR K F' v d
  | _, _, .non => .non
  | _, _, .bl b => .bl b
  | _, _, .int i => .int i
  | _, _, .str x => .str x
  | _, _, .lst h r => .lst (h.mono e) (DRs.mono e r)
  | _, _, .tup h r => .tup (h.mono e) (DRs.mono e r)
  | _, _, .dct h m => .dct (e _ _ h) (DM.mono e m)
  | _, _, .row h r => .row (e _ _ h) (DRs.mono e r)
  | _, _, .exc h x => .exc (e _ _ h) x
theorem DRs.mono (e : Ex F F') : ∀ {v : List V} {d : List PyData}, DRs K F v d → DRs K F' v d
  | _, _, .nil => .nil
  | _, _, .cons a b => .cons (DR.mono e a) (DRs.mono e b)
theorem DM.mono (e : Ex F F') : ∀ {vs : List (Key × V)} {ds : List (PyData × PyData)}, DM K F vs ds → DM K F' vs ds
  | _, _, .nil => .nil
  | _, _, .int a b => .int (DR.mono e a) (DM.mono e b)
  | _, _, .str a b => .str (DR.mono e a) (DM.mono e b)
end
theorem DM.length : ∀ {vs : List (Key × V)} {ds : List (PyData × PyData)}, DM K F vs ds → vs.length = ds.length
  | _, _, .nil => rfl
  | _, _, .int _ b => congrArg (· + 1) b.length
  | _, _, .str _ b => congrArg (· + 1) b.length
theorem DRs.length : ∀ {vs : List V} {ds : List PyData}, DRs K F vs ds → vs.length = ds.length
  | _, _, .nil => rfl
  | _, _, .cons _ b => congrArg (· + 1) b.length
theorem DRs.get : ∀ {vs : List V} {ds : List PyData} {i : Nat} {d : PyData}, DRs K F vs ds → ds[i]? = some d → ∃ v, vs[i]? = some v ∧ DR K F v d
  | _, _, _, _, .nil, h => by simp at h
  | _, _, 0, _, .cons a b, h => by simp at h; subst h; exact ⟨_, rfl, a⟩
  | _, _, i + 1, d, .cons a b, h => by
    obtain ⟨v, h1, h2⟩ := b.get (i := i) (d := d) (by simpa using h)
    exact ⟨v, by simpa using h1, h2⟩
theorem DRs.append : ∀ {vs ws : List V} {ds es : List PyData}, DRs K F vs ds → DRs K F ws es → DRs K F (vs ++ ws) (ds ++ es)
  | _, _, _, _, .nil, h => h
  | _, _, _, _, .cons a b, h => .cons a (b.append h)
theorem DRs.take : ∀ {vs : List V} {ds : List PyData} (n : Nat), DRs K F vs ds → DRs K F (vs.take n) (ds.take n)
  | _, _, 0, _ => .nil
  | _, _, _ + 1, .nil => .nil
  | _, _, n + 1, .cons a b => .cons a (b.take n)
theorem DRs.drop : ∀ {vs : List V} {ds : List PyData} (n : Nat), DRs K F vs ds → DRs K F (vs.drop n) (ds.drop n)
  | _, _, 0, h => h
  | _, _, _ + 1, .nil => .nil
  | _, _, n + 1, .cons a b => b.drop n
theorem DRs.set : ∀ {vs : List V} {ds : List PyData} (n : Nat) {v : V} {d : PyData}, DR K F v d → DRs K F vs ds → DRs K F (vs.set n v) (ds.set n d)
  | _, _, _, _, _, _, .nil => .nil
  | _, _, 0, _, _, h, .cons a b => .cons h b
  | _, _, n + 1, _, _, h, .cons a b => .cons a (b.set n h)
theorem DRs.one {v : V} {d : PyData} (h : DR K F v d) : DRs K F [v] [d] := .cons h .nil
theorem DRs.inv1 {vs : List V} {d : PyData} (h : DRs K F vs [d]) : ∃ v, vs = [v] ∧ DR K F v d := by
  cases h with
  | cons a b => cases b; exact ⟨_, rfl, a⟩
theorem DRs.inv2 {vs : List V} {d e : PyData} (h : DRs K F vs [d, e]) : ∃ v w, vs = [v, w] ∧ DR K F v d ∧ DR K F w e := by
  cases h with
  | cons a b =>
    obtain ⟨w, rfl, r⟩ := b.inv1
    exact ⟨_, w, rfl, a, r⟩
theorem DR.inv_int {v : V} {i : Int} (h : DR K F v (.int i)) : v = .int i := by cases h; rfl
theorem DR.inv_bool {v : V} {i : Bool} (h : DR K F v (.bool i)) : v = .bl i := by cases h; rfl
theorem DR.inv_str {v : V} {i : Str} (h : DR K F v (.str i)) : v = .str i := by cases h; rfl
theorem DR.inv_tupZ {v : V} {ds : List PyData} (h : DR K F v (.tuple ds)) : ∃ a xs, v = .ref a ∧ TqT K F a xs ∧ DRs K F xs ds := by cases h with | tup a b => exact ⟨_, _, rfl, a, b⟩
theorem DR.inv_tup {v : V} {ds : List PyData} (h : DR K F v (.tuple ds)) : ∃ a xs, v = .ref a ∧ SqT K F a xs ∧ DRs K F xs ds := by cases h with | tup a b => exact ⟨_, _, rfl, a.sq, b⟩
theorem DR.inv_lst {v : V} {ds : List PyData} (h : DR K F v (.list ds)) : ∃ a xs, v = .ref a ∧ RdL K F a xs ∧ DRs K F xs ds := by cases h with | lst a b => exact ⟨_, _, rfl, a, b⟩
end

/-- things of one's own: dicts whose keys are tuples of whole numbers and texts; whose keys are whole numbers and texts; lists of lists -/
inductive Own where
  | tk (kvs : List (List Key × PyData))
  | kk (kvs : List (PyData × PyData))
  | mt (rows : List (List PyData))
inductive SD where
  | un
  | dat (d : PyData)
  | cel (p : Bool) (xs : List PyData)
  /-- a thing of one's own -/
  | dic (w : Own)
/-- what is fixed for a def's whole run -/
structure Zx (T : List (Addr × Str)) where
  F0 : Hp
  H0 : Hp
  A0 : Nat → Option Addr
  Pr0 : Hp
  P : Program
  w : World
structure Gx (Z : Zx T) where
  Pr : Hp
  px : Ex Z.Pr0 Pr
  pl : ∀ a o, Pr a = some o → ∀ ps, o ≠ .tbl ps
variable {T : List (PySem.Addr × PySem.Str)} {Z : Zx T}
def Gx.hid (g : Gx Z) (D : Addr) (vs : List V) (h : g.Pr D = none) : Gx Z := ⟨upd g.Pr D (.lst vs), fun a o e => by
  have q := g.px a o e
  have ne : a ≠ D := fun z => by rw [z, h] at q; cases q
  rw [upd_ne ne]
  exact q, fun a o e => by
  by_cases z : a = D
  · subst z
    rw [upd_same] at e
    cases e
    exact fun _ y => by cases y
  · rw [upd_ne z] at e
    exact g.pl a o e⟩
abbrev Gx.F0 (_ : Gx Z) : Hp := Z.F0
abbrev Gx.H0 (_ : Gx Z) : Hp := Z.H0
abbrev Gx.A0 (_ : Gx Z) : Nat → Option Addr := Z.A0
/-- the dict's keys and values as they stand -/
def DicR (K : PySem.W.Frag) (F : Hp) (kvs : List (List Key × PyData)) (xs : List (List Key × Addr × Value)) : Prop :=
  Paired (fun p x => p.1 = x.1 ∧ TqT K F x.2.1 (p.1.map kV) ∧ ∃ v, DR K F v p.2 ∧ RelV v x.2.2) kvs xs
theorem DicR.mono {K : PySem.W.Frag} {F F' : Hp} (e : Ex F F') {kvs : List (List Key × PyData)} {xs : List (List Key × Addr × Value)} (h : DicR K F kvs xs) : DicR K F' kvs xs :=
  Paired.mapP h fun _ _ ⟨h1, h2, v, h3, h4⟩ => ⟨h1, h2.mono e, v, h3.mono e, h4⟩
/-- what stands for such a thing at a, with further places bs -/
def OwnR (K : PySem.W.Frag) (Z : Zx T) (F H : Hp) (a : Addr) (bs : List Addr) : Own → Prop
  | .tk kvs => bs = [] ∧ ∃ xs, H a = some (DicE Z.P Z.w a xs) ∧ DicR K F kvs xs
  | .kk ds => bs = [] ∧ ∃ vs, H a = some (KkE Z.P Z.w a vs) ∧ DM K F vs ds
  | .mt rows => (H a = some (LsE a (bs.map .ref)) ∧ (a :: bs).Nodup) ∧ Paired (fun b row => ∃ us, H b = some (LsE b us) ∧ DRs K F us row) bs rows
structure OwnAt (K : PySem.W.Frag) (g : Gx Z) (F H : Hp) (a : Addr) (bs : List Addr) (w : Own) : Prop where
  rel : OwnR K Z F H a bs w
  out : ∀ x ∈ a :: bs, F x = none ∧ g.H0 x = none ∧ g.Pr x = none ∧ ∃ φ, H x = some (.ext φ)
structure DicsB (K : PySem.W.Frag) (g : Gx Z) (F : Hp) (env : List SD) (σ : L2.St) (H : Hp) (B : Nat → List Addr) : Prop where
  at_ : ∀ (i : Nat) (w : Own), env[i]? = some (.dic w) → ∃ a, σ[i]? = some (some (.ref a)) ∧ OwnAt K g F H a (B i) w
  sep : ∀ (i j : Nat) (w w' : Own) (a b : Addr), env[i]? = some (.dic w) → env[j]? = some (.dic w') → σ[i]? = some (some (.ref a)) → σ[j]? = some (some (.ref b)) → i ≠ j → ∀ x ∈ a :: B i, x ∉ b :: B j
def DicsOk (K : PySem.W.Frag) (g : Gx Z) (F : Hp) (env : List SD) (σ : L2.St) (H : Hp) : Prop := ∃ B, DicsB K g F env σ H B
section
variable {K : PySem.W.Frag} {g g' : Gx Z} {F F' : Hp} {env : List SD} {σ : L2.St} {H H' : Hp}
theorem OwnR.keep {a : Addr} {bs : List Addr} {w : Own} (r : OwnR K Z F H a bs w) (e : Ex F F') (hk : ∀ x ∈ a :: bs, H' x = H x) : OwnR K Z F' H' a bs w := by
  cases w with
  | tk kvs =>
    obtain ⟨rfl, xs, h1, h2⟩ := r
    exact ⟨rfl, xs, (hk a List.mem_cons_self).trans h1, h2.mono e⟩
  | kk ds =>
    obtain ⟨rfl, xs, h1, h2⟩ := r
    exact ⟨rfl, xs, (hk a List.mem_cons_self).trans h1, h2.mono e⟩
  | mt rows =>
    obtain ⟨⟨h1, h2⟩, h3⟩ := r
    refine ⟨⟨(hk a List.mem_cons_self).trans h1, h2⟩, ?_⟩
    have hk2 : ∀ x ∈ bs, H' x = H x := fun x hx => hk x (List.mem_cons_of_mem _ hx)
    clear h1 h2 hk
    induction h3 with
    | nil => exact .nil
    | cons h t ih =>
      obtain ⟨us, z1, z2⟩ := h
      exact .cons ⟨us, (hk2 _ List.mem_cons_self).trans z1, z2.mono e⟩ (ih fun x hx => hk2 x (List.mem_cons_of_mem _ hx))
theorem OwnAt.keep {a : Addr} {bs : List Addr} {w : Own} (r : OwnAt K g F H a bs w) (e : Ex F F') (hp : ∀ x φ, H x = some (.ext φ) → g.Pr x = none → g'.Pr x = none) (hk : ∀ x φ, H x = some (.ext φ) → F x = none → F' x = none ∧ H' x = H x) : OwnAt K g' F' H' a bs w where
  rel := r.rel.keep e fun x hx => by
    obtain ⟨z1, _, _, φ, z4⟩ := r.out x hx
    exact (hk x φ z4 z1).2
  out := fun x hx => by
    obtain ⟨z1, z2, z3, φ, z4⟩ := r.out x hx
    obtain ⟨y1, y2⟩ := hk x φ z4 z1
    exact ⟨y1, z2, hp x φ z4 z3, φ, y2.trans z4⟩
theorem DicsB.keep {B : Nat → List Addr} (d : DicsB K g F env σ H B) (e : Ex F F') (hp : ∀ x φ, H x = some (.ext φ) → g.Pr x = none → g'.Pr x = none) (hk : ∀ x φ, H x = some (.ext φ) → F x = none → F' x = none ∧ H' x = H x) : DicsB K g' F' env σ H' B :=
  ⟨fun i w hw => let ⟨a, z1, z2⟩ := d.at_ i w hw; ⟨a, z1, z2.keep e hp hk⟩, d.sep⟩
theorem DicsOk.keep (d : DicsOk K g F env σ H) (e : Ex F F') (hp : ∀ x φ, H x = some (.ext φ) → g.Pr x = none → g'.Pr x = none) (hk : ∀ x φ, H x = some (.ext φ) → F x = none → F' x = none ∧ H' x = H x) : DicsOk K g' F' env σ H' := by
  obtain ⟨B, h⟩ := d
  exact ⟨B, h.keep e hp hk⟩
/-- no thing of one's own stands here -/
theorem DicsB.there {B : Nat → List Addr} (d : DicsB K g F env σ H B) {j : Nat} {w : Own} {b x : Addr} (h1 : env[j]? = some (.dic w)) (h2 : σ[j]? = some (some (.ref b))) (hx : x ∈ b :: B j) : F x = none ∧ g.H0 x = none ∧ g.Pr x = none ∧ ∃ φ, H x = some (.ext φ) := by
  obtain ⟨a, z1, z2⟩ := d.at_ j w h1
  rw [h2] at z1
  cases z1
  exact z2.out x hx
theorem DicsOk.none (h : ∀ (i : Nat) (w : Own), env[i]? ≠ some (.dic w)) : DicsOk K g F env σ H := ⟨fun _ => [], fun i w e => absurd e (h i w), fun i _ w _ _ _ e => absurd e (h i w)⟩
theorem DicsOk.setE (d : DicsOk K g F env σ H) {i : Nat} {x : SD} (hx : ∀ w, x ≠ .dic w) : DicsOk K g F (env.set i x) σ H := by
  have old : ∀ {j : Nat} {w : Own}, (env.set i x)[j]? = some (.dic w) → env[j]? = some (.dic w) := fun {j w} h => by
    rw [List.getElem?_set] at h
    by_cases e : i = j
    · rw [if_pos e] at h
      split at h
      · exact absurd (Option.some.inj h) (hx w)
      · cases h
    · rwa [if_neg e] at h
  obtain ⟨B, h1, h2⟩ := d
  exact ⟨B, fun j w h => h1 j w (old h), fun j l w w' a b e1 e2 => h2 j l w w' a b (old e1) (old e2)⟩
theorem DicsOk.set (d : DicsOk K g F env σ H) {i : Nat} {x : SD} {v : Option V} (hx : ∀ w, x ≠ .dic w) : DicsOk K g F (env.set i x) (σ.set i v) H := by
  have ne : ∀ {j : Nat} {w : Own}, (env.set i x)[j]? = some (.dic w) → i ≠ j := fun {j w} h e => by
    rw [List.getElem?_set, if_pos e] at h
    split at h
    · exact absurd (Option.some.inj h) (hx w)
    · cases h
  have st : ∀ {j : Nat}, i ≠ j → (σ.set i v)[j]? = σ[j]? := fun n => List.getElem?_set_ne n
  obtain ⟨B, h1, h2⟩ := d.setE (i := i) hx
  exact ⟨B, fun j w h => let ⟨a, z1, z2⟩ := h1 j w h; ⟨a, by rw [st (ne h)]; exact z1, z2⟩, fun j l w w' a b e1 e2 e3 e4 => h2 j l w w' a b e1 e2 (by rw [← st (ne e1)]; exact e3) (by rw [← st (ne e2)]; exact e4)⟩
end
/-- an object that was there: as it was, or a table with more in it -/
def Sty (o : HO) (x : Option HO) : Prop := x = some o ∨ ∃ ps more, o = .tbl ps ∧ x = some (.tbl (ps ++ more))
theorem Sty.same {o : HO} {x : Option HO} (h : Sty o x) (n : ∀ ps, o ≠ .tbl ps) : x = some o := by
  rcases h with h | ⟨ps, _, e, _⟩
  · exact h
  · exact absurd e (n ps)
theorem Sty.lst {vs : List V} {x : Option HO} (h : Sty (.lst vs) x) : x = some (.lst vs) := h.same fun _ z => by cases z
theorem Sty.ext {f : Heap → Prop} {x : Option HO} (h : Sty (.ext f) x) : x = some (.ext f) := h.same fun _ z => by cases z
theorem Sty.there {o : HO} {x : Option HO} (h : Sty o x) : ∃ u, x = some u := by
  rcases h with h | ⟨ps, m, _, h⟩
  · exact ⟨_, h⟩
  · exact ⟨_, h⟩
theorem Sty.trans {o : HO} {x y : Option HO} (h : Sty o x) (k : ∀ u, x = some u → Sty u y) : Sty o y := by
  rcases h with h | ⟨ps, m, e, h⟩
  · exact k _ h
  · rcases k _ h with z | ⟨ps', m', e', z⟩
    · exact .inr ⟨ps, m, e, z⟩
    · cases e'
      exact .inr ⟨ps, m ++ m', e, by rw [z, Array.append_assoc]⟩
/-- what was there stays, but where N says no; the tables are right -/
structure Frm (T : List (Addr × Str)) (H0 : Hp) (N : Addr → Prop) (H : Hp) : Prop where
  stay : ∀ a o, H0 a = some o → N a → Sty o (H a)
  tab : LamX.Tabs T H
section
variable {H0 H H' : Hp} {N N' : Addr → Prop}
theorem Frm.new (f : Frm T H0 N H) {p : Addr} {o : HO} (h : H p = none) : Frm T H0 N (upd H p o) where
  stay := fun a u e n => by
    have z := f.stay a u e n
    obtain ⟨w, hw⟩ := z.there
    rw [upd_ne (ne_of_none hw h)]
    exact z
  tab := f.tab.ext fun b u e => by rw [upd_ne (ne_of_none e h)]; exact e
theorem codeO_lst {c : Addr} {q : Str} {vs : List V} : LamX.CodeO c q ≠ .lst vs := fun z => by
  unfold LamX.CodeO at z
  cases z
theorem Frm.putO (f : Frm T H0 N H) {a : Addr} {o0 o1 : HO} (h : H a = some o0) (t1 : ∀ ps, o0 ≠ .tbl ps) (t2 : ∀ q, o0 ≠ LamX.CodeO a q) (n : ∀ o, H0 a = some o → ¬ N a) : Frm T H0 N (upd H a o1) where
  stay := fun b u e m => by
    have ne : b ≠ a := fun z => by
      subst z
      exact n u e m
    rw [upd_ne ne]
    exact f.stay b u e m
  tab := fun p hp => by
    obtain ⟨ps, h1, h2, h3⟩ := f.tab p hp
    have n1 : p.1 ≠ a := fun z => by rw [z, h] at h1; exact t1 _ (Option.some.inj h1)
    refine ⟨ps, by rw [upd_ne n1]; exact h1, h2, fun pos cv hc => ?_⟩
    obtain ⟨c, e, e2⟩ := h3 pos cv hc
    have n2 : c ≠ a := fun z => by rw [z, h] at e2; exact t2 _ (Option.some.inj e2)
    exact ⟨c, e, by rw [upd_ne n2]; exact e2⟩
theorem Frm.put (f : Frm T H0 N H) {a : Addr} {vs ys : List V} (h : H a = some (.lst vs)) (n : ∀ o, H0 a = some o → ¬ N a) : Frm T H0 N (upd H a (.lst ys)) := f.putO h (fun _ z => by cases z) (fun _ z => codeO_lst z.symm) n
theorem Frm.trans (f : Frm T H0 N H) (g : Frm T H N' H') (n : ∀ a o, H0 a = some o → N a → N' a) : Frm T H0 N H' :=
  ⟨fun a o e m => (f.stay a o e m).trans fun u hu => g.stay a u hu (n a o e m), g.tab⟩
theorem Frm.refl (t : LamX.Tabs T H) : Frm T H N H := ⟨fun _ _ e _ => .inl e, t⟩
theorem Frm.weak (f : Frm T H0 N H) (n : ∀ a o, H0 a = some o → N' a → N a) : Frm T H0 N' H := ⟨fun a o e m => f.stay a o e (n a o e m), f.tab⟩
end
/-- what never changes has grown; no table is among it -/
def OldF (F0 F : Hp) : Prop := Ex F0 F ∧ ∀ a ps, F a ≠ some (.tbl ps)
theorem OldF.new {F0 F : Hp} (h : OldF F0 F) {p : Addr} {o : HO} (hp : F p = none) (ho : ∀ ps, o ≠ .tbl ps) : OldF F0 (upd F p o) :=
  ⟨h.1.trans (Ex.new hp), fun a ps e => by
    by_cases z : a = p
    · subst z
      rw [upd_same] at e
      exact ho ps (Option.some.inj e)
    · rw [upd_ne z] at e
      exact h.2 a ps e⟩
structure Ok (K : PySem.W.Frag) (g : Gx Z) (F : Hp) (env : List SD) (σ : L2.St) (H : Hp) : Prop where
  len : env.length = σ.length
  fh : Ex F H
  dat : ∀ (i : Nat) (d : PyData), env[i]? = some (.dat d) → ∃ v, σ[i]? = some (some v) ∧ DR K F v d
  cel : ∀ (i : Nat) (p : Bool) (xs : List PyData), env[i]? = some (.cel p xs) → ∃ a vs, σ[i]? = some (some (.ref a)) ∧ F a = none ∧ H a = some (.lst vs) ∧ DRs K F vs xs ∧ (p = true → g.A0 i = some a) ∧ (p = false → g.H0 a = none)
  sep : ∀ (i j : Nat) (p q : Bool) (xs ys : List PyData) (a : Addr), env[i]? = some (.cel p xs) → env[j]? = some (.cel q ys) → σ[i]? = some (some (.ref a)) → σ[j]? = some (some (.ref a)) → i = j
  pin : ∀ (i : Nat) (a : Addr), g.A0 i = some a → ∃ xs, env[i]? = some (.cel true xs)
  frame : Frm T g.H0 (fun a => ∀ i, g.A0 i ≠ some a) H
  newF : ∀ (a : Addr) (o : HO), F a = some o → g.F0 a = some o ∨ g.H0 a = none
  oldF : OldF g.F0 F
  prot : ∀ (a : Addr) (o : HO), g.Pr a = some o → H a = some o ∧ F a = none ∧ ∀ (j : Nat) (p : Bool) (ys : List PyData), env[j]? = some (.cel p ys) → σ[j]? ≠ some (some (.ref a))
  dic : DicsOk K g F env σ H
section
variable {K : PySem.W.Frag} {g : Gx Z} {F F' : Hp} {env : List SD} {σ : L2.St} {H : Hp}

theorem Ok.fresh0 (k : Ok K g F env σ H) {p : Addr} (h : H p = none) : g.H0 p = none := by
  cases e : g.H0 p with
  | none => rfl
  | some o =>
    by_cases q : ∃ i, g.A0 i = some p
    · obtain ⟨i, hi⟩ := q
      obtain ⟨xs, hx⟩ := k.pin i p hi
      obtain ⟨a, vs, _, _, h2, _, h3, _⟩ := k.cel i true xs hx
      have h3 := h3 rfl
      rw [hi] at h3
      cases h3
      rw [h] at h2
      cases h2
    · obtain ⟨u, z⟩ := (k.frame.stay p o e fun i hi => q ⟨i, hi⟩).there
      rw [h] at z
      cases z
theorem fnone (e : Ex F H) {p : Addr} (h : H p = none) : F p = none := by
  cases q : F p with
  | none => rfl
  | some o =>
    rw [e p o q] at h
    cases h
theorem ex_both (e : Ex F H) {p : Addr} {o : HO} (h : H p = none) : Ex (upd F p o) (upd H p o) := fun b u q => by
  by_cases hb : b = p
  · subst hb
    rw [upd_same] at q ⊢
    exact q
  · rw [upd_ne hb] at q ⊢
    exact e b u q
/-- a new thing that never changes -/
theorem Ok.alloc (k : Ok K g F env σ H) {p : Addr} {o : HO} (h : H p = none) (ho : ∀ ps, o ≠ .tbl ps := by intro _ z; cases z) : Ok K g (upd F p o) env σ (upd H p o) where
  len := k.len
  fh := ex_both k.fh h
  dat := fun i d e => by
    obtain ⟨v, h1, h2⟩ := k.dat i d e
    exact ⟨v, h1, h2.mono (Ex.new (fnone k.fh h))⟩
  cel := fun i q xs e => by
    obtain ⟨a, vs, h1, h2, h3, h4, h5⟩ := k.cel i q xs e
    have ne : a ≠ p := ne_of_none h3 h
    exact ⟨a, vs, h1, by rw [upd_ne ne]; exact h2, by rw [upd_ne ne]; exact h3, h4.mono (Ex.new (fnone k.fh h)), h5⟩
  sep := k.sep
  pin := k.pin
  frame := k.frame.new h
  newF := fun a u e => by
    by_cases hb : a = p
    · subst hb
      exact .inr (k.fresh0 h)
    · rw [upd_ne hb] at e
      exact k.newF a u e
  oldF := k.oldF.new (fnone k.fh h) ho
  prot := fun a u e => by
    obtain ⟨z1, z2, z3⟩ := k.prot a u e
    have ne : a ≠ p := ne_of_none z1 h
    exact ⟨by rw [upd_ne ne]; exact z1, by rw [upd_ne ne]; exact z2, z3⟩
  dic := k.dic.keep (Ex.new (fnone k.fh h)) (fun _ _ _ z => z) fun a _ h1 h2 => by
    have ne : a ≠ p := ne_of_none h1 h
    exact ⟨by rw [upd_ne ne]; exact h2, upd_ne ne⟩
/-- a new thing of no name yet -/
theorem Ok.extra (k : Ok K g F env σ H) {p : Addr} {o : HO} (h : H p = none) : Ok K g F env σ (upd H p o) where
  len := k.len
  fh := fun a u e => by
    have q := k.fh a u e
    rw [upd_ne (ne_of_none q h)]
    exact q
  dat := k.dat
  cel := fun i q xs e => by
    obtain ⟨a, vs, h1, h2, h3, h4, h5⟩ := k.cel i q xs e
    have ne : a ≠ p := ne_of_none h3 h
    exact ⟨a, vs, h1, h2, by rw [upd_ne ne]; exact h3, h4, h5⟩
  sep := k.sep
  pin := k.pin
  frame := k.frame.new h
  newF := k.newF
  oldF := k.oldF
  prot := fun a u e => by
    obtain ⟨z1, z2, z3⟩ := k.prot a u e
    have ne : a ≠ p := ne_of_none z1 h
    exact ⟨by rw [upd_ne ne]; exact z1, z2, z3⟩
  dic := k.dic.keep (Ex.refl F) (fun _ _ _ z => z) fun a xs h1 h2 => ⟨h2, upd_ne (ne_of_none h1 h)⟩
theorem get_set {α : Type} {l : List α} {i j : Nat} {x y : α} (h : (l.set i x)[j]? = some y) : (i = j ∧ y = x) ∨ (i ≠ j ∧ l[j]? = some y) := by
  rw [List.getElem?_set] at h
  by_cases e : i = j
  · rw [if_pos e] at h
    split at h
    · exact .inl ⟨e, (Option.some.inj h).symm⟩
    · cases h
  · rw [if_neg e] at h
    exact .inr ⟨e, h⟩
theorem set_ne {α : Type} {l : List α} {i j : Nat} {x : α} (h : i ≠ j) : (l.set i x)[j]? = l[j]? := List.getElem?_set_ne h
theorem set_eq {α : Type} {l : List α} {i : Nat} {x y : α} (h : l[i]? = some y) : (l.set i x)[i]? = some x := by
  obtain ⟨h1, _⟩ := List.getElem?_eq_some_iff.mp h
  exact List.getElem?_set_self h1
/-- a slot that is no parameter's cell -/
def NoPar (env : List SD) (i : Nat) : Prop := ∀ xs, env[i]? ≠ some (.cel true xs)
/-- a name gets a datum -/
theorem Ok.setD (k : Ok K g F env σ H) {i : Nat} {d : PyData} {v : V} (hp : NoPar env i) (h : DR K F v d) : Ok K g F (env.set i (.dat d)) (σ.set i (some v)) H where
  len := by simp [k.len]
  fh := k.fh
  dat := fun j e hj => by
    rcases get_set hj with ⟨rfl, q⟩ | ⟨n, q⟩
    · cases q
      have hl : i < σ.length := by
        obtain ⟨h1, _⟩ := List.getElem?_eq_some_iff.mp hj
        rw [List.length_set, k.len] at h1
        exact h1
      exact ⟨v, List.getElem?_set_self hl, h⟩
    · rw [set_ne n]
      exact k.dat j e q
  cel := fun j q xs hj => by
    rcases get_set hj with ⟨_, q⟩ | ⟨n, q⟩
    · cases q
    · rw [set_ne n]
      exact k.cel j _ xs q
  sep := fun a b p q xs ys c h1 h2 h3 h4 => by
    rcases get_set h1 with ⟨_, e⟩ | ⟨n1, e1⟩
    · cases e
    rcases get_set h2 with ⟨_, e⟩ | ⟨n2, e2⟩
    · cases e
    rw [set_ne n1] at h3
    rw [set_ne n2] at h4
    exact k.sep a b p q xs ys c e1 e2 h3 h4
  pin := fun j a e => by
    obtain ⟨xs, q⟩ := k.pin j a e
    have n : i ≠ j := fun z => by subst z; exact hp xs q
    exact ⟨xs, by rw [set_ne n]; exact q⟩
  frame := k.frame
  newF := k.newF
  oldF := k.oldF
  prot := fun a u e => by
    obtain ⟨z1, z2, z3⟩ := k.prot a u e
    refine ⟨z1, z2, fun j p ys hj => ?_⟩
    rcases get_set hj with ⟨_, q⟩ | ⟨n, q⟩
    · cases q
    · rw [set_ne n]
      exact z3 j p ys q
  dic := k.dic.set fun _ z => by cases z
/-- a name gets a new cell of its own -/
theorem Ok.setC (k : Ok K g F env σ H) {i : Nat} {xs : List PyData} {a : Addr} {vs : List V} (hp : NoPar env i) (hF : F a = none) (hH : H a = some (.lst vs)) (h : DRs K F vs xs) (h0 : g.H0 a = none) (hpr : g.Pr a = none)
    (nw : ∀ (j : Nat) (p : Bool) (ys : List PyData), env[j]? = some (.cel p ys) → σ[j]? ≠ some (some (.ref a))) : Ok K g F (env.set i (.cel false xs)) (σ.set i (some (.ref a))) H where
  len := by simp [k.len]
  fh := k.fh
  dat := fun j e hj => by
    rcases get_set hj with ⟨_, q⟩ | ⟨n, q⟩
    · cases q
    · rw [set_ne n]
      exact k.dat j e q
  cel := fun j q ys hj => by
    rcases get_set hj with ⟨rfl, q⟩ | ⟨n, q⟩
    · cases q
      have hl : i < σ.length := by
        obtain ⟨h1, _⟩ := List.getElem?_eq_some_iff.mp hj
        rw [List.length_set, k.len] at h1
        exact h1
      exact ⟨a, vs, List.getElem?_set_self hl, hF, hH, h, (fun z => by cases z), fun _ => h0⟩
    · rw [set_ne n]
      exact k.cel j _ ys q
  sep := fun j l p q us ys c h1 h2 h3 h4 => by
    rcases get_set h1 with ⟨e1, _⟩ | ⟨n1, e1⟩
    · rcases get_set h2 with ⟨e2, _⟩ | ⟨n2, e2⟩
      · exact e1.symm.trans e2
      · rcases get_set h3 with ⟨_, e3⟩ | ⟨n3, _⟩
        · cases e3
          rw [set_ne n2] at h4
          exact absurd h4 (nw l q ys e2)
        · exact absurd e1 n3
    · rcases get_set h2 with ⟨e2, _⟩ | ⟨n2, e2⟩
      · rcases get_set h4 with ⟨_, e3⟩ | ⟨n3, _⟩
        · cases e3
          rw [set_ne n1] at h3
          exact absurd h3 (nw j p us e1)
        · exact absurd e2 n3
      · rw [set_ne n1] at h3
        rw [set_ne n2] at h4
        exact k.sep j l p q us ys c e1 e2 h3 h4
  pin := fun j b e => by
    obtain ⟨ys, q⟩ := k.pin j b e
    have n : i ≠ j := fun z => by subst z; exact hp ys q
    exact ⟨ys, by rw [set_ne n]; exact q⟩
  frame := k.frame
  newF := k.newF
  oldF := k.oldF
  prot := fun b u e => by
    obtain ⟨z1, z2, z3⟩ := k.prot b u e
    refine ⟨z1, z2, fun j p ys hj => ?_⟩
    rcases get_set hj with ⟨rfl, q⟩ | ⟨n, q⟩
    · intro z
      rcases get_set z with ⟨_, y⟩ | ⟨n, _⟩
      · cases y
        rw [hpr] at e
        cases e
      · exact n rfl
    · rw [set_ne n]
      exact z3 j p ys q
  dic := k.dic.set fun _ z => by cases z
/-- a name is forgotten (its slot may hold anything) -/
theorem Ok.setU (k : Ok K g F env σ H) {i : Nat} {o : Option V} (hp : NoPar env i) : Ok K g F (env.set i .un) (σ.set i o) H where
  len := by simp [k.len]
  fh := k.fh
  dat := fun j e hj => by
    rcases get_set hj with ⟨_, q⟩ | ⟨n, q⟩
    · cases q
    · rw [set_ne n]
      exact k.dat j e q
  cel := fun j q ys hj => by
    rcases get_set hj with ⟨_, q⟩ | ⟨n, q⟩
    · cases q
    · rw [set_ne n]
      exact k.cel j _ ys q
  sep := fun a b p q xs ys c h1 h2 h3 h4 => by
    rcases get_set h1 with ⟨_, e⟩ | ⟨n1, e1⟩
    · cases e
    rcases get_set h2 with ⟨_, e⟩ | ⟨n2, e2⟩
    · cases e
    rw [set_ne n1] at h3
    rw [set_ne n2] at h4
    exact k.sep a b p q xs ys c e1 e2 h3 h4
  pin := fun j b e => by
    obtain ⟨ys, q⟩ := k.pin j b e
    have n : i ≠ j := fun z => by subst z; exact hp ys q
    exact ⟨ys, by rw [set_ne n]; exact q⟩
  frame := k.frame
  newF := k.newF
  oldF := k.oldF
  prot := fun a u e => by
    obtain ⟨z1, z2, z3⟩ := k.prot a u e
    refine ⟨z1, z2, fun j p ys hj => ?_⟩
    rcases get_set hj with ⟨_, q⟩ | ⟨n, q⟩
    · cases q
    · rw [set_ne n]
      exact z3 j p ys q
  dic := k.dic.set fun _ z => by cases z
/-- a name gets a new thing of its own -/
theorem Ok.setW (k : Ok K g F env σ H) {B : Nat → List Addr} (db : DicsB K g F env σ H B) {i : Nat} {w : Own} {a : Addr} {bs : List Addr} (hp : NoPar env i) (r : OwnAt K g F H a bs w)
    (nw : ∀ (j : Nat) (w' : Own) (b : Addr), env[j]? = some (.dic w') → σ[j]? = some (some (.ref b)) → ∀ x ∈ a :: bs, x ∉ b :: B j) : Ok K g F (env.set i (.dic w)) (σ.set i (some (.ref a))) H := by
  have k2 := k.setU (o := some (.ref a)) hp
  have hl : ∀ {r : SD}, (env.set i (SD.dic w))[i]? = some r → (σ.set i (some (V.ref a)))[i]? = some (some (.ref a)) := fun hj => by
    obtain ⟨h1, _⟩ := List.getElem?_eq_some_iff.mp hj
    rw [List.length_set, k.len] at h1
    exact List.getElem?_set_self h1
  have oth : ∀ {j : Nat} {r : SD}, i ≠ j → (env.set i (SD.dic w))[j]? = some r → (env.set i SD.un)[j]? = some r := fun {j r} n e => by rw [set_ne n] at e ⊢; exact e
  refine ⟨by simp [k.len], k.fh, fun j d e => ?_, fun j p ys e => ?_, fun j l p q us ys c h1 h2 h3 h4 => ?_, fun j b e => ?_, k.frame, k.newF, k.oldF, fun b u e => ?_, fun j => if j = i then bs else B j, fun j w' e => ?_, fun j l w1 w2 b c e1 e2 h1 h2 n x hx => ?_⟩
  · rcases get_set e with ⟨_, z⟩ | ⟨n, z⟩
    · cases z
    · exact k2.dat j d (oth n e)
  · rcases get_set e with ⟨_, z⟩ | ⟨n, z⟩
    · cases z
    · exact k2.cel j p ys (oth n e)
  · rcases get_set h1 with ⟨_, z⟩ | ⟨n1, z⟩
    · cases z
    rcases get_set h2 with ⟨_, z⟩ | ⟨n2, z⟩
    · cases z
    exact k2.sep j l p q us ys c (oth n1 h1) (oth n2 h2) h3 h4
  · obtain ⟨ys, z⟩ := k.pin j b e
    have n : i ≠ j := fun y => by subst y; exact hp ys z
    exact ⟨ys, by rw [set_ne n]; exact z⟩
  · obtain ⟨z1, z2, z3⟩ := k2.prot b u e
    refine ⟨z1, z2, fun j p ys hj => ?_⟩
    rcases get_set hj with ⟨_, z⟩ | ⟨n, z⟩
    · cases z
    · exact z3 j p ys (oth n hj)
  · rcases get_set e with ⟨rfl, z⟩ | ⟨n, z⟩
    · cases z
      exact ⟨a, hl e, by rw [if_pos rfl]; exact r⟩
    · obtain ⟨b, z1, z2⟩ := db.at_ j w' z
      exact ⟨b, by rw [set_ne n]; exact z1, by rw [if_neg fun q => n q.symm]; exact z2⟩
  · rcases get_set e1 with ⟨rfl, z⟩ | ⟨n1, z1⟩
    · rcases get_set e2 with ⟨q, _⟩ | ⟨n2, z2⟩
      · exact absurd q n
      · rw [hl e1] at h1
        cases h1
        rw [set_ne n2] at h2
        rw [if_pos rfl] at hx
        rw [if_neg fun q => n2 q.symm]
        exact nw l w2 c z2 h2 x hx
    · rw [set_ne n1] at h1
      rw [if_neg fun q => n1 q.symm] at hx
      rcases get_set e2 with ⟨rfl, z⟩ | ⟨n2, z2⟩
      · rw [hl e2] at h2
        cases h2
        rw [if_pos rfl]
        exact fun y => nw j w1 b z1 h1 x y hx
      · rw [set_ne n2] at h2
        rw [if_neg fun q => n2 q.symm]
        exact db.sep j l w1 w2 b c z1 z2 h1 h2 n x hx
/-- a thing of one's own is changed at x -/
theorem Ok.writeW (k : Ok K g F env σ H) {B : Nat → List Addr} (db : DicsB K g F env σ H B) {i : Nat} {w w' : Own} {a x : Addr} {φ : Heap → Prop} {o' : HO} {bs' : List Addr} (he : env[i]? = some (.dic w)) (hs : σ[i]? = some (some (.ref a))) (hx : x ∈ a :: B i)
    (hH : H x = some (.ext φ)) (nc : ∀ q, HO.ext φ ≠ LamX.CodeO x q) (r : OwnAt K g F (upd H x o') a bs' w')
    (sub : ∀ y ∈ bs', y ∈ a :: B i ∨ ∀ (j : Nat) (w2 : Own) (b : Addr), env[j]? = some (.dic w2) → σ[j]? = some (some (.ref b)) → y ∉ b :: B j) : Ok K g F (env.set i (.dic w')) σ (upd H x o') := by
  obtain ⟨f1, f2, f3, _⟩ := db.there he hs hx
  have ne : ∀ {b : Addr} {vs : List V}, H b = some (.lst vs) → b ≠ x := fun {b vs} e z => by subst z; rw [hH] at e; cases e
  have oth : ∀ {j : Nat} {s : SD}, (∀ z, s ≠ .dic z) → (env.set i (.dic w'))[j]? = some s → env[j]? = some s := fun {j s} n e => by
    rcases get_set e with ⟨_, z⟩ | ⟨_, z⟩
    · exact absurd z (n _)
    · exact z
  have back : ∀ {l : Nat} {z : Own}, (env.set i (.dic w'))[l]? = some (.dic z) → ∃ w2, env[l]? = some (.dic w2) := fun {l z} e => by
    rcases get_set e with ⟨rfl, _⟩ | ⟨_, z⟩
    · exact ⟨_, he⟩
    · exact ⟨_, z⟩
  refine ⟨by simp [k.len], fun b u q => ?_, fun j e hj => k.dat j e (oth (fun _ z => by cases z) hj), fun j q us hj => ?_, fun j l q r us ws c z1 z2 z3 z4 => k.sep j l q r us ws c (oth (fun _ z => by cases z) z1) (oth (fun _ z => by cases z) z2) z3 z4, fun j b e => ?_, k.frame.putO hH (fun _ z => by cases z) nc (fun o e _ => by rw [f2] at e; cases e), k.newF, k.oldF, fun b u e => ?_,
    fun j => if j = i then bs' else B j, fun j w2 e => ?_, fun j l w1 w2 b c e1 e2 h1 h2 n y hy => ?_⟩
  · have n : b ≠ x := fun z => by rw [z, f1] at q; cases q
    rw [upd_ne n]
    exact k.fh b u q
  · obtain ⟨b, vs, z1, z2, z3, z4⟩ := k.cel j q us (oth (fun _ z => by cases z) hj)
    exact ⟨b, vs, z1, z2, by rw [upd_ne (ne z3)]; exact z3, z4⟩
  · obtain ⟨us, q⟩ := k.pin j b e
    have n : i ≠ j := fun z => by subst z; rw [he] at q; cases q
    exact ⟨us, by rw [set_ne n]; exact q⟩
  · obtain ⟨z1, z2, z3⟩ := k.prot b u e
    have n : b ≠ x := fun z => by subst z; rw [f3] at e; cases e
    exact ⟨by rw [upd_ne n]; exact z1, z2, fun j q us hj => z3 j q us (oth (fun _ z => by cases z) hj)⟩
  · rcases get_set e with ⟨rfl, z⟩ | ⟨n, z⟩
    · cases z
      exact ⟨a, hs, by rw [if_pos rfl]; exact r⟩
    · obtain ⟨b, z1, z2⟩ := db.at_ j w2 z
      have sep := db.sep j i w2 w b a z he z1 hs fun q => n q.symm
      have kp : ∀ y ∈ b :: B j, upd H x o' y = H y := fun y hy => upd_ne fun q => sep y hy (q ▸ hx)
      refine ⟨b, z1, ?_⟩
      rw [if_neg fun q => n q.symm]
      refine ⟨z2.rel.keep (Ex.refl F) kp, fun y hy => ?_⟩
      obtain ⟨y1, y2, y3, y4⟩ := z2.out y hy
      exact ⟨y1, y2, y3, by rw [kp y hy]; exact y4⟩
  · obtain ⟨v1, e1'⟩ := back e1
    obtain ⟨v2, e2'⟩ := back e2
    have old := db.sep j l v1 v2 b c e1' e2' h1 h2 n
    by_cases q1 : j = i
    · subst q1
      rw [if_pos rfl] at hy
      rw [hs] at h1
      cases h1
      rw [if_neg fun q => n q.symm]
      rcases List.mem_cons.mp hy with rfl | hy
      · exact old _ List.mem_cons_self
      · rcases sub y hy with z | z
        · exact old y z
        · exact z l v2 c e2' h2
    · rw [if_neg q1] at hy
      by_cases q2 : l = i
      · subst q2
        rw [if_pos rfl]
        rw [hs] at h2
        cases h2
        intro hz
        rcases List.mem_cons.mp hz with rfl | hz
        · exact old _ hy List.mem_cons_self
        · rcases sub y hz with z | z
          · exact old y hy z
          · exact z j v1 b e1' h1 hy
      · rw [if_neg q2]
        exact old y hy
/-- a name gets a new thing of its own, at one new place -/
theorem Ok.newW (k : Ok K g F env σ H) {i : Nat} {w : Own} {p : Addr} {φ : Heap → Prop} (hp : H p = none) (np : NoPar env i) (r : OwnR K Z F (upd H p (.ext φ)) p [] w) : Ok K g F (env.set i (.dic w)) (σ.set i (some (.ref p))) (upd H p (.ext φ)) := by
  obtain ⟨B, db⟩ := k.dic
  have k1 := k.extra (o := .ext φ) hp
  have db1 : DicsB K g F env σ (upd H p (.ext φ)) B := db.keep (Ex.refl F) (fun _ _ _ z => z) fun a ψ h1 h2 => ⟨h2, upd_ne (ne_of_none h1 hp)⟩
  have pr : g.Pr p = none := by
    cases e : g.Pr p with
    | none => rfl
    | some o => rw [(k.prot p o e).1] at hp; cases hp
  refine k1.setW db1 np ⟨r, fun x hx => ?_⟩ fun j w' b e1 e2 x hx hy => ?_
  · rw [List.mem_singleton.mp hx]
    exact ⟨fnone k.fh hp, k.fresh0 hp, pr, φ, upd_same⟩
  · rw [List.mem_singleton.mp hx] at hy
    obtain ⟨_, _, _, ψ, z⟩ := db.there e1 e2 hy
    rw [hp] at z
    cases z
/-- a cell's content is changed -/
theorem Ok.write (k : Ok K g F env σ H) {i : Nat} {p : Bool} {xs ys : List PyData} {a : Addr} {vs : List V} (he : env[i]? = some (.cel p xs)) (hs : σ[i]? = some (some (.ref a))) (h : DRs K F vs ys) :
    Ok K g F (env.set i (.cel p ys)) σ (upd H a (.lst vs)) := by
  obtain ⟨a', vs0, h1, h2, h3, h4, h5, h6⟩ := k.cel i p xs he
  rw [hs] at h1
  cases h1
  refine ⟨by simp [k.len], fun b u q => ?_, fun j e hj => ?_, fun j q us hj => ?_, fun j l q r us ws c h1 h2 h3 h4 => ?_, fun j b e => ?_, k.frame.put h3 (fun o e n => ?_), k.newF, k.oldF, fun b u e => ?_, ((k.dic.setE (i := i) (x := .cel p ys) fun _ z => by cases z).keep (Ex.refl F) (fun _ _ _ z => z) fun b _ e n => ⟨n, upd_ne fun z => by rw [z, h3] at e; cases e⟩)⟩
  · have ne : b ≠ a := fun z => by rw [z, h2] at q; cases q
    rw [upd_ne ne]
    exact k.fh b u q
  · rcases get_set hj with ⟨_, q⟩ | ⟨n, q⟩
    · cases q
    · exact k.dat j e q
  · rcases get_set hj with ⟨rfl, q⟩ | ⟨n, q⟩
    · cases q
      exact ⟨a, vs, hs, h2, upd_same, h, h5, h6⟩
    · obtain ⟨b, ws, z1, z2, z3, z4, z5⟩ := k.cel j _ us q
      have ne : b ≠ a := fun z => by
        subst z
        exact n (k.sep i j _ _ _ _ b he q hs z1)
      exact ⟨b, ws, z1, z2, by rw [upd_ne ne]; exact z3, z4, z5⟩
  · have f : ∀ {j : Nat} {q : Bool} {us : List PyData}, (env.set i (SD.cel p ys))[j]? = some (.cel q us) → ∃ q' us', env[j]? = some (.cel q' us') := fun {j q us} z => by
      rcases get_set z with ⟨rfl, _⟩ | ⟨_, z⟩
      · exact ⟨_, _, he⟩
      · exact ⟨_, _, z⟩
    obtain ⟨_, _, f1⟩ := f h1
    obtain ⟨_, _, f2⟩ := f h2
    exact k.sep j l _ _ _ _ c f1 f2 h3 h4
  · obtain ⟨us, q⟩ := k.pin j b e
    by_cases n : i = j
    · subst n
      rw [he] at q
      cases q
      exact ⟨ys, set_eq he⟩
    · exact ⟨us, by rw [set_ne n]; exact q⟩
  · cases p with
    | true => exact n i (h5 rfl)
    | false =>
      rw [h6 rfl] at e
      cases e
  · obtain ⟨z1, z2, z3⟩ := k.prot b u e
    have ne : b ≠ a := fun z => by
      subst z
      exact z3 i p xs he hs
    refine ⟨by rw [upd_ne ne]; exact z1, z2, fun j q us hj => ?_⟩
    rcases get_set hj with ⟨rfl, _⟩ | ⟨_, z⟩
    · exact z3 _ p xs he
    · exact z3 j q us z
/-- an own cell becomes a datum -/
theorem Ok.freeze (k : Ok K g F env σ H) {i : Nat} {xs : List PyData} (he : env[i]? = some (.cel false xs)) : ∃ F', Ex F F' ∧ Ok K g F' (env.set i (.dat (.list xs))) σ H := by
  obtain ⟨a, vs, h1, h2, h3, h4, h5, h6⟩ := k.cel i false xs he
  have h6 := h6 rfl
  have ex : Ex F (upd F a (.lst vs)) := Ex.new h2
  refine ⟨upd F a (.lst vs), ex, by simp [k.len], fun b u q => ?_, fun j e hj => ?_, fun j q us hj => ?_, fun j l q r us ws c z1 z2 z3 z4 => ?_, fun j b e => ?_, k.frame, fun b u q => ?_, k.oldF.new h2 (fun _ z => by cases z), fun b u e => ?_, ((k.dic.setE (i := i) (x := .dat (.list xs)) fun _ z => by cases z).keep ex (fun _ _ _ z => z) fun b ys e n => ⟨by rw [upd_ne fun z => by rw [z, h3] at e; cases e]; exact n, rfl⟩)⟩
  · by_cases z : b = a
    · subst z
      rw [upd_same] at q
      exact h3.trans q
    · rw [upd_ne z] at q
      exact k.fh b u q
  · rcases get_set hj with ⟨rfl, q⟩ | ⟨n, q⟩
    · cases q
      exact ⟨_, h1, .lst (RdL.of upd_same) (h4.mono ex)⟩
    · obtain ⟨v, z1, z2⟩ := k.dat j e q
      exact ⟨v, z1, z2.mono ex⟩
  · rcases get_set hj with ⟨_, q⟩ | ⟨n, q⟩
    · cases q
    · obtain ⟨b, ws, z1, z2, z3, z4, z5⟩ := k.cel j _ us q
      have ne : b ≠ a := fun z => by
        subst z
        exact n (k.sep i j _ _ _ _ b he q h1 z1)
      exact ⟨b, ws, z1, by rw [upd_ne ne]; exact z2, z3, z4.mono ex, z5⟩
  · rcases get_set z1 with ⟨_, e⟩ | ⟨n1, e1⟩
    · cases e
    rcases get_set z2 with ⟨_, e⟩ | ⟨n2, e2⟩
    · cases e
    exact k.sep j l q r us ws c e1 e2 z3 z4
  · obtain ⟨ys, q⟩ := k.pin j b e
    have n : i ≠ j := fun z => by subst z; rw [he] at q; cases q
    exact ⟨ys, by rw [set_ne n]; exact q⟩
  · by_cases z : b = a
    · subst z
      exact .inr h6
    · rw [upd_ne z] at q
      exact k.newF b u q
  · obtain ⟨z1, z2, z3⟩ := k.prot b u e
    have ne : b ≠ a := fun z => by
      subst z
      exact z3 i false xs he h1
    refine ⟨z1, by rw [upd_ne ne]; exact z2, fun j q us hj => ?_⟩
    rcases get_set hj with ⟨_, z⟩ | ⟨_, z⟩
    · cases z
    · exact z3 j q us z
end
end DL

namespace DL
variable {T : List (PySem.Addr × PySem.Str)} {Z : Zx T}
open PySem PySem.Spec PyProof.Rows L2
open Evl (Ex)

/-- by a truth -/
def bIf (b : Bool) (p q : Prop) : Prop := match b with
  | true => p
  | false => q
theorem bIf_t {p q : Prop} : bIf true p q = p := rfl
theorem bIf_f {p q : Prop} : bIf false p q = q := rfl
/-- a datum that is a truth -/
def bT (d : PyData) (K : Bool → Prop) : Prop := match d with
  | .bool b => K b
  | _ => False
theorem bT_inv {d : PyData} {K : Bool → Prop} (h : bT d K) : ∃ b, d = .bool b ∧ K b := by
  cases d <;> first | exact ⟨_, rfl, h⟩ | exact h.elim
theorem bIf_and {b : Bool} {q : Prop} (h : bIf b q False) : b = true ∧ q := by
  cases b
  · exact h.elim
  · exact ⟨rfl, h⟩
abbrev DE := List SD → (PyData → List SD → Prop) → Prop
abbrev DX := List SD → (SD → List SD → Prop) → Prop
abbrev DT := List SD → (Bool → List SD → Prop) → Prop
abbrev DA := List SD → (List PyData → List SD → Prop) → Prop
/-- a result: a datum, or a new cell that no name holds yet -/
def ResOk (K : PySem.W.Frag) (g : Gx Z) (F : Hp) (env : List SD) (σ : L2.St) (H : Hp) (v : V) : SD → Prop
  | .un => False
  | .dat d => DR K F v d
  | .cel _ xs => ∃ a vs, v = .ref a ∧ F a = none ∧ H a = some (.lst vs) ∧ DRs K F vs xs ∧ g.H0 a = none ∧ g.Pr a = none ∧ ∀ (j : Nat) (p : Bool) (ys : List PyData), env[j]? = some (.cel p ys) → σ[j]? ≠ some (some (.ref a))
  | .dic _ => False
def liftE (K : PySem.W.Frag) (Z : Zx T) (w : DE) : TE := fun σ H Q => ∃ (g : Gx Z) (F : Hp) (env : List SD) (P : PyData → List SD → Prop), Ok K g F env σ H ∧ w env P ∧
  ∀ d env' v F' H', P d env' → Ex F F' → Ok K g F' env' σ H' → DR K F' v d → Q v H'
def liftX (K : PySem.W.Frag) (Z : Zx T) (w : DX) : TE := fun σ H Q => ∃ (g : Gx Z) (F : Hp) (env : List SD) (P : SD → List SD → Prop), Ok K g F env σ H ∧ w env P ∧
  ∀ r env' v F' H', P r env' → Ex F F' → Ok K g F' env' σ H' → ResOk K g F' env' σ H' v r → Q v H'
def liftT (K : PySem.W.Frag) (Z : Zx T) (w : DT) : TT := fun σ H Q => ∃ (g : Gx Z) (F : Hp) (env : List SD) (P : Bool → List SD → Prop), Ok K g F env σ H ∧ w env P ∧
  ∀ b env' F' H', P b env' → Ex F F' → Ok K g F' env' σ H' → Q b H'
def liftA (K : PySem.W.Frag) (Z : Zx T) (w : DA) : TA := fun σ H Q => ∃ (g : Gx Z) (F : Hp) (env : List SD) (P : List PyData → List SD → Prop), Ok K g F env σ H ∧ w env P ∧
  ∀ ds env' vs F' H', P ds env' → Ex F F' → Ok K g F' env' σ H' → DRs K F' vs ds → Q vs H'
theorem PE.of {X : Cx} {e : Expr} {t t' : TE} (h : PE X e t) (w : ∀ σ H Q, t' σ H Q → t σ H Q) : PE X e t' := ⟨fun pins s σ H Q I q => h.run pins s σ H Q I (w σ H Q q)⟩
theorem PT.of {X : Cx} {e : Expr} {t t' : TT} (h : PT X e t) (w : ∀ σ H Q, t' σ H Q → t σ H Q) : PT X e t' := ⟨fun pins s σ H Q I q => h.run pins s σ H Q I (w σ H Q q)⟩
theorem PW.of {X : Cx} {e : Expr} {t t' : TT} (h : PW X e t) (w : ∀ σ H Q, t' σ H Q → t σ H Q) : PW X e t' := ⟨fun wh pins s σ H Q I q => h.run wh pins s σ H Q I (w σ H Q q)⟩
theorem PA.of {X : Cx} {e : List Expr} {t t' : TA} (h : PA X e t) (w : ∀ σ H Q, t' σ H Q → t σ H Q) : PA X e t' := ⟨fun p pins s σ H Q I q => h.run p pins s σ H Q I (w σ H Q q)⟩
theorem PS.of {X : Cx} {e : Stmt} {t t' : TS} (h : PS X e t) (w : ∀ D σ H, t' D σ H → t D σ H) : PS X e t' := ⟨fun pins s σ H D I q => h.run pins s σ H D I (w D σ H q)⟩
theorem PSs.of {X : Cx} {e : List Stmt} {t t' : TS} (h : PSs X e t) (w : ∀ D σ H, t' D σ H → t D σ H) : PSs X e t' := ⟨fun pins s σ H D I q => h.run pins s σ H D I (w D σ H q)⟩
section
variable {K : PySem.W.Frag} {g : Gx Z} {F F' : Hp} {env : List SD} {σ : L2.St} {H : Hp}
/-- a new cell that no name holds -/
theorem Ok.newCell (k : Ok K g F env σ H) {p : Addr} (h : H p = none) {vs : List V} {xs : List PyData} (r : DRs K F vs xs) :
    Ok K g F env σ (upd H p (.lst vs)) ∧ ResOk K g F env σ (upd H p (.lst vs)) (.ref p) (.cel false xs) := by
  refine ⟨k.extra h, p, vs, rfl, fnone k.fh h, upd_same, r, k.fresh0 h, ?_, fun j q ys e z => ?_⟩
  · cases e : g.Pr p with
    | none => rfl
    | some u =>
      have z := (k.prot p u e).1
      rw [h] at z
      cases z
  obtain ⟨a, ws, h1, _, h3, _⟩ := k.cel j q ys e
  rw [z] at h1
  cases h1
  rw [h] at h3
  cases h3
/-- such a cell becomes a datum -/
theorem Ok.freezeR (k : Ok K g F env σ H) {v : V} {p : Bool} {xs : List PyData} (h : ResOk K g F env σ H v (.cel p xs)) : ∃ F', Ex F F' ∧ Ok K g F' env σ H ∧ DR K F' v (.list xs) ∧ DR K F' v (.dict [(.none, .list xs)]) := by
  obtain ⟨a, vs, rfl, hF, hH, r, h0, hpr, nw⟩ := h
  have ex : Ex F (upd F a (.lst vs)) := Ex.new hF
  refine ⟨upd F a (.lst vs), ex, ⟨k.len, fun b u q => ?_, fun i d e => ?_, fun i q ys e => ?_, k.sep, k.pin, k.frame, fun b u q => ?_, k.oldF.new hF (fun _ z => by cases z), fun b u e => ?_, (k.dic.keep ex (fun _ _ _ z => z) fun b ys e n => ⟨by rw [upd_ne fun z => by rw [z, hH] at e; cases e]; exact n, rfl⟩)⟩, .lst (RdL.of upd_same) (r.mono ex), .row upd_same (r.mono ex)⟩
  · by_cases z : b = a
    · subst z
      rw [upd_same] at q
      exact hH.trans q
    · rw [upd_ne z] at q
      exact k.fh b u q
  · obtain ⟨v, z1, z2⟩ := k.dat i d e
    exact ⟨v, z1, z2.mono ex⟩
  · obtain ⟨b, ws, z1, z2, z3, z4, z5⟩ := k.cel i q ys e
    have ne : b ≠ a := fun z => by
      subst z
      exact nw i q ys e z1
    exact ⟨b, ws, z1, by rw [upd_ne ne]; exact z2, z3, z4.mono ex, z5⟩
  · by_cases z : b = a
    · subst z
      exact .inr h0
    · rw [upd_ne z] at q
      exact k.newF b u q
  · obtain ⟨z1, z2, z3⟩ := k.prot b u e
    have ne : b ≠ a := fun z => by
      subst z
      rw [hpr] at e
      cases e
    exact ⟨z1, by rw [upd_ne ne]; exact z2, z3⟩
theorem Ok.freezeP (k : Ok K g F env σ H) {v : V} {p : Bool} {xs : List PyData} (h : ResOk K g F env σ H v (.cel p xs)) : ∃ F', Ex F F' ∧ Ok K g F' env σ H ∧ DR K F' v (.list xs) := by
  obtain ⟨F', h1, h2, h3, _⟩ := k.freezeR h
  exact ⟨F', h1, h2, h3⟩
/-- a new tuple, a new list that never changes -/
theorem Ok.newTup (k : Ok K g F env σ H) {p : Addr} {o : Obj} (h : H p = none) (ho : PlT o) {vs : List V} {xs : List PyData} (r : DRs K F vs xs) :
    Ex F (upd F p (.frz o (.tup vs))) ∧ Ok K g (upd F p (.frz o (.tup vs))) env σ (upd H p (.frz o (.tup vs))) ∧ DR K (upd F p (.frz o (.tup vs))) (.ref p) (.tuple xs) := by
  have ex : Ex F (upd F p (.frz o (.tup vs))) := Ex.new (fnone k.fh h)
  exact ⟨ex, k.alloc h, .tup (.inl ⟨o, upd_same, ho⟩) (r.mono ex)⟩
theorem Ok.newLst (k : Ok K g F env σ H) {p : Addr} (h : H p = none) {vs : List V} {xs : List PyData} (r : DRs K F vs xs) :
    Ex F (upd F p (.lst vs)) ∧ Ok K g (upd F p (.lst vs)) env σ (upd H p (.lst vs)) ∧ DR K (upd F p (.lst vs)) (.ref p) (.list xs) := by
  have ex : Ex F (upd F p (.lst vs)) := Ex.new (fnone k.fh h)
  exact ⟨ex, k.alloc h, .lst (RdL.of upd_same) (r.mono ex)⟩
theorem drH (k : Ok K g F env σ H) {v : V} {d : PyData} (h : DR K F v d) : DR K H v d := h.mono k.fh
theorem drsH (k : Ok K g F env σ H) {v : List V} {d : List PyData} (h : DRs K F v d) : DRs K H v d := h.mono k.fh
end

section
variable {X : Cx} {a b c e : Expr} {es : List Expr} {pos : Pos} {wa wb wc w : DE} {K : PySem.W.Frag}
abbrev dVar (i : Nat) (env : List SD) (P : PyData → List SD → Prop) : Prop := match env[i]? with
  | some (.dat d) => P d env
  | _ => False
theorem lift_var {i : Nat} {σ : L2.St} {H : Hp} {Q : VK} (h : liftE K Z (dVar i) σ H Q) : tVar i σ H Q := by
  obtain ⟨g, F, env, P, k, w, q⟩ := h
  unfold dVar at w
  split at w
  · rename_i d e
    obtain ⟨v, h1, h2⟩ := k.dat i d e
    exact ⟨v, h1, q d env v F H w (Ex.refl F) k h2⟩
  · exact w.elim
theorem dv (i : Nat) {x : Str} {pos : Pos} (hN : X.N[i]? = some x := by rfl) (hv : Vis X.env.scope x := by first | exact Or.inl rfl | exact Or.inr (Or.inl rfl) | exact Or.inr (Or.inr rfl)) (hd : (x == ("__debug__" : Str)) = false := by decide)
    (hcd : (x == ("__classdict__" : Str)) = false := by decide) : PE X (.Name x pos) (liftE X.K Z (dVar i)) := PE.of (pe_var hN hv hd hcd) fun _ _ _ h => lift_var h
abbrev dC (d : PyData) (env : List SD) (P : PyData → List SD → Prop) : Prop := P d env
theorem lift_c {v : V} {d : PyData} (hv : ∀ F : Hp, DR K F v d) {σ : L2.St} {H : Hp} {Q : VK} (h : liftE K Z (dC d) σ H Q) : tC v σ H Q := by
  obtain ⟨g, F, env, P, k, w, q⟩ := h
  exact q d env v F H w (Ex.refl F) k (hv F)
theorem di {i : Int} {j pos} : PE X (.Constant (.int i) j pos) (liftE X.K Z (dC (.int i))) := PE.of pe_int fun _ _ _ h => lift_c (fun _ => .int i) h
theorem db {i : Bool} {j pos} : PE X (.Constant (.bool i) j pos) (liftE X.K Z (dC (.bool i))) := PE.of pe_bl fun _ _ _ h => lift_c (fun _ => .bl i) h
theorem dn {j pos} : PE X (.Constant .none j pos) (liftE X.K Z (dC .none)) := PE.of pe_non fun _ _ _ h => lift_c (fun _ => .non) h
theorem ds {i : Str} {j pos} : PE X (.Constant (.str i) j pos) (liftE X.K Z (dC (.str i))) := PE.of pe_str fun _ _ _ h => lift_c (fun _ => .str i) h
/-- a module's constant -/
theorem dglob {x : Str} {u : Value} {d : PyData} {pos : Pos} {v : V} (hm : X.mg x = some u) (r : RelV v u) (hd : ∀ F : Hp, DR X.K F v d) (hg : Gl X x := by rfl) (hdb : (x == ("__debug__" : Str)) = false := by decide) : PE X (.Name x pos) (liftE X.K Z (dC d)) :=
  PE.of (pe_glob hg hm r hdb) fun _ _ _ h => lift_c hd h
abbrev D2 := PyData → PyData → (PyData → Prop) → Prop
abbrev dOp (f : D2) (wa wb : DE) (env : List SD) (P : PyData → List SD → Prop) : Prop := wa env fun x env1 => wb env1 fun y env2 => f x y fun z => P z env2
def OpD (K : PySem.W.Frag) (r : R2) (f : D2) : Prop :=
  ∀ (T : List (Addr × Str)) (Z : Zx T) (g : Gx Z) (F : Hp) (env : List SD) (σ : L2.St) (H : Hp) (vx vy : V) (dx dy : PyData) (P : PyData → Prop) (Q : VK), Ok K g F env σ H → DR K F vx dx → DR K F vy dy → f dx dy P →
    (∀ d v F' H', P d → Ex F F' → Ok K g F' env σ H' → DR K F' v d → Q v H') → r vx vy H Q
theorem lift_op {r : R2} {f : D2} (hd : OpD K r f) {σ : L2.St} {H : Hp} {Q : VK} (h : liftE K Z (dOp f wa wb) σ H Q) : tOp r (liftE K Z wa) (liftE K Z wb) σ H Q := by
  obtain ⟨g, F, env, P, k, w, q⟩ := h
  refine ⟨g, F, env, _, k, w, fun d env1 v F1 H1 p e1 k1 r1 => ⟨g, F1, env1, _, k1, p, fun d2 env2 v2 F2 H2 p2 e2 k2 r2 => ?_⟩⟩
  exact hd _ _ g F2 env2 σ H2 v v2 d d2 _ Q k2 (r1.mono e2) r2 p2 fun d3 v3 F3 H3 p3 e3 k3 r3 => q d3 env2 v3 F3 H3 p3 (e1.trans (e2.trans e3)) k3 r3
theorem dop {op : Operator} {r : R2} {f : D2} (ho : OpR X (binaryOp op) r) (hd : OpD X.K r f) (ha : PE X a (liftE X.K Z wa)) (hb : PE X b (liftE X.K Z wb)) : PE X (.BinOp a op b pos) (liftE X.K Z (dOp f wa wb)) :=
  PE.of (pe_op ho ha hb) fun _ _ _ h => lift_op hd h
theorem dcmp {op : CmpOp} {r : R2} {f : D2} (ho : OpR X (compareOp op) r) (hd : OpD X.K r f) (ha : PE X a (liftE X.K Z wa)) (hb : PE X b (liftE X.K Z wb)) (hm : behindInMarks op b = false) : PE X (.Compare a [op] [b] pos) (liftE X.K Z (dOp f wa wb)) :=
  PE.of (pe_cmpR ho ha hb hm) fun _ _ _ h => lift_op hd h
abbrev dTest (w : DE) (env : List SD) (P : Bool → List SD → Prop) : Prop := w env fun d env' => bT d fun b => P b env'
theorem lift_test {t : TE} (ht : ∀ σ H Q, liftE K Z w σ H Q → t σ H Q) {σ : L2.St} {H : Hp} {Q : Bool → Hp → Prop} (h : liftT K Z (dTest w) σ H Q) : tTest t σ H Q := by
  obtain ⟨g, F, env, P, k, w, q⟩ := h
  refine ht _ _ _ ⟨g, F, env, _, k, w, fun d env1 v F1 H1 p e1 k1 r1 => ?_⟩
  obtain ⟨b, rfl, p⟩ := bT_inv p
  cases r1.inv_bool
  exact ⟨_, rfl, q _ env1 F1 H1 p e1 k1⟩
theorem dcmpT {op : CmpOp} {r : R2} {f : D2} (ho : OpR X (compareOp op) r) (hd : OpD X.K r f) (ha : PE X a (liftE X.K Z wa)) (hb : PE X b (liftE X.K Z wb)) (hm : behindInMarks op b = false) : PT X (.Compare a [op] [b] pos) (liftT X.K Z (dTest (dOp f wa wb))) :=
  PT.of (pt_cmpR ho ha hb hm) fun _ _ _ h => lift_test (fun _ _ _ h => lift_op hd h) h
/-- any other expression as a test -/
theorem dtest (h : PE X e (liftE X.K Z w)) (he : ∀ whole, isTrue e X.env whole = (do let v ← whole; standAt e.pos; holding [v] (truthy v)) := by intro _; rfl) : PT X e (liftT X.K Z (dTest w)) :=
  PT.of (pt_val h he) fun _ _ _ q => lift_test (fun _ _ _ h => h) q
/-- a < b < c -/
abbrev dChain (f f' : D2) (wa wb wc : DE) (env : List SD) (P : PyData → List SD → Prop) : Prop := wa env fun x env1 => wb env1 fun y env2 => f x y fun z => bT z fun b => bIf b (wc env2 fun u env3 => f' y u fun z2 => P z2 env3) (P (.bool false) env2)
theorem lift_chain {r r' : R2} {f f' : D2} (hd : OpD K r f) (hd' : OpD K r' f') {σ : L2.St} {H : Hp} {Q : VK} (h : liftE K Z (dChain f f' wa wb wc) σ H Q) : tChain r r' (liftE K Z wa) (liftE K Z wb) (liftE K Z wc) σ H Q := by
  obtain ⟨g, F, env, P, k, w, q⟩ := h
  refine ⟨g, F, env, _, k, w, fun d env1 v F1 H1 p e1 k1 r1 => ⟨g, F1, env1, _, k1, p, fun d2 env2 v2 F2 H2 p2 e2 k2 r2 => ?_⟩⟩
  refine hd _ _ g F2 env2 σ H2 v v2 d d2 _ _ k2 (r1.mono e2) r2 p2 fun d3 v3 F3 H3 p3 e3 k3 r3 => ?_
  obtain ⟨b, rfl, p3⟩ := bT_inv p3
  cases r3.inv_bool
  cases b with
  | true =>
    refine ⟨true, rfl, iteT ⟨g, F3, env2, _, k3, p3, fun d4 env4 v4 F4 H4 p4 e4 k4 r4 => ?_⟩⟩
    exact hd' _ _ g F4 env4 σ H4 v2 v4 d2 d4 _ Q k4 ((r2.mono e3).mono e4) r4 p4 fun d5 v5 F5 H5 p5 e5 k5 r5 => q d5 env4 v5 F5 H5 p5 (e1.trans (e2.trans (e3.trans (e4.trans e5)))) k5 r5
  | false =>
    exact ⟨false, rfl, iteF (q _ env2 _ F3 H3 p3 (e1.trans (e2.trans e3)) k3 (.bl false))⟩
theorem dchain {op op' : CmpOp} {r r' : R2} {f f' : D2} (ho : OpR X (compareOp op) r) (ho' : OpR X (compareOp op') r') (hd : OpD X.K r f) (hd' : OpD X.K r' f') (ha : PE X a (liftE X.K Z wa)) (hb : PE X b (liftE X.K Z wb)) (hc : PE X c (liftE X.K Z wc))
    (hm : lastMarks [op, op'] [b, c] = false := by with_unfolding_all rfl) : PE X (.Compare a [op, op'] [b, c] pos) (liftE X.K Z (dChain f f' wa wb wc)) :=
  PE.of (pe_chain ho ho' ha hb hc hm) fun _ _ _ h => lift_chain hd hd' h
theorem dchainT {op op' : CmpOp} {r r' : R2} {f f' : D2} (ho : OpR X (compareOp op) r) (ho' : OpR X (compareOp op') r') (hd : OpD X.K r f) (hd' : OpD X.K r' f') (ha : PE X a (liftE X.K Z wa)) (hb : PE X b (liftE X.K Z wb)) (hc : PE X c (liftE X.K Z wc))
    (hm : lastMarks [op, op'] [b, c] = false := by with_unfolding_all rfl) : PT X (.Compare a [op, op'] [b, c] pos) (liftT X.K Z (dTest (dChain f f' wa wb wc))) :=
  PT.of (pt_chain ho ho' ha hb hc hm) fun _ _ _ h => lift_test (fun _ _ _ h => lift_chain hd hd' h) h
/-- one place -/
abbrev D1 := PyData → (PyData → Prop) → Prop
abbrev dUn (f : D1) (wa : DE) (env : List SD) (P : PyData → List SD → Prop) : Prop := wa env fun x env1 => f x fun z => P z env1
def UnD (K : PySem.W.Frag) (r : V → Hp → VK → Prop) (f : D1) : Prop :=
  ∀ (T : List (Addr × Str)) (Z : Zx T) (g : Gx Z) (F : Hp) (env : List SD) (σ : L2.St) (H : Hp) (vx : V) (dx : PyData) (P : PyData → Prop) (Q : VK), Ok K g F env σ H → DR K F vx dx → f dx P →
    (∀ d v F' H', P d → Ex F F' → Ok K g F' env σ H' → DR K F' v d → Q v H') → r vx H Q
theorem dun {op : UnaryOp} {r : V → Hp → VK → Prop} {f : D1} (ho : UnR X (unaryOp op) r) (hd : UnD X.K r f) (ha : PE X a (liftE X.K Z wa)) : PE X (.UnaryOp op a pos) (liftE X.K Z (dUn f wa)) :=
  PE.of (pe_un ho ha) fun σ H Q h => by
    obtain ⟨g, F, env, P, k, w, q⟩ := h
    refine ⟨g, F, env, _, k, w, fun d env1 v F1 H1 p e1 k1 r1 => ?_⟩
    exact hd _ _ g F1 env1 σ H1 v d _ Q k1 r1 p fun d3 v3 F3 H3 p3 e3 k3 r3 => q d3 env1 v3 F3 H3 p3 (e1.trans e3) k3 r3
abbrev dAndV (wa wb : DE) (env : List SD) (P : PyData → List SD → Prop) : Prop := wa env fun x env1 => bT x fun b => bIf b (wb env1 P) (P (.bool false) env1)
abbrev dOrV (wa wb : DE) (env : List SD) (P : PyData → List SD → Prop) : Prop := wa env fun x env1 => bT x fun b => bIf b (P (.bool true) env1) (wb env1 P)
abbrev dNotV (wa : DE) (env : List SD) (P : PyData → List SD → Prop) : Prop := wa env fun x env1 => bT x fun b => P (.bool (!b)) env1
variable {rest : List Expr}
theorem done {op : BoolOp} (h : PE X a (liftE X.K Z wa)) : PE X (.BoolOp op [a] pos) (liftE X.K Z wa) := pe_one h
theorem dandV (ha : PE X a (liftE X.K Z wa)) (hb : PE X (.BoolOp .And (b :: rest) pos) (liftE X.K Z wb)) : PE X (.BoolOp .And (a :: b :: rest) pos) (liftE X.K Z (dAndV wa wb)) :=
  PE.of (pe_and ha hb) fun σ H Q h => by
    obtain ⟨g, F, env, P, k, w, q⟩ := h
    refine ⟨g, F, env, _, k, w, fun d env1 v F1 H1 p e1 k1 r1 => ?_⟩
    obtain ⟨b, rfl, p⟩ := bT_inv p
    cases r1.inv_bool
    cases b with
    | true => exact ⟨true, rfl, iteT ⟨g, F1, env1, _, k1, p, fun d2 env2 v2 F2 H2 p2 e2 k2 r2 => q d2 env2 v2 F2 H2 p2 (e1.trans e2) k2 r2⟩⟩
    | false => exact ⟨false, rfl, iteF (q _ env1 _ F1 H1 p e1 k1 (.bl false))⟩
theorem dorV (ha : PE X a (liftE X.K Z wa)) (hb : PE X (.BoolOp .Or (b :: rest) pos) (liftE X.K Z wb)) : PE X (.BoolOp .Or (a :: b :: rest) pos) (liftE X.K Z (dOrV wa wb)) :=
  PE.of (pe_or ha hb) fun σ H Q h => by
    obtain ⟨g, F, env, P, k, w, q⟩ := h
    refine ⟨g, F, env, _, k, w, fun d env1 v F1 H1 p e1 k1 r1 => ?_⟩
    obtain ⟨b, rfl, p⟩ := bT_inv p
    cases r1.inv_bool
    cases b with
    | true => exact ⟨true, rfl, iteT (q _ env1 _ F1 H1 p e1 k1 (.bl true))⟩
    | false => exact ⟨false, rfl, iteF ⟨g, F1, env1, _, k1, p, fun d2 env2 v2 F2 H2 p2 e2 k2 r2 => q d2 env2 v2 F2 H2 p2 (e1.trans e2) k2 r2⟩⟩
theorem dnotV (ha : PE X a (liftE X.K Z wa)) : PE X (.UnaryOp .Not a pos) (liftE X.K Z (dNotV wa)) :=
  PE.of (pe_not ha) fun σ H Q h => by
    obtain ⟨g, F, env, P, k, w, q⟩ := h
    refine ⟨g, F, env, _, k, w, fun d env1 v F1 H1 p e1 k1 r1 => ?_⟩
    obtain ⟨b, rfl, p⟩ := bT_inv p
    cases r1.inv_bool
    exact ⟨_, rfl, q _ env1 _ F1 H1 p e1 k1 (.bl _)⟩
abbrev dAnd (t u : DT) (env : List SD) (P : Bool → List SD → Prop) : Prop := t env fun b env1 => bIf b (u env1 P) (P false env1)
abbrev dOr (t u : DT) (env : List SD) (P : Bool → List SD → Prop) : Prop := t env fun b env1 => bIf b (P true env1) (u env1 P)
abbrev dNot (t : DT) (env : List SD) (P : Bool → List SD → Prop) : Prop := t env fun b env1 => P (!b) env1
variable {t u : DT}
theorem tand1 (ha : PT X a (liftT X.K Z t)) : PW X (.BoolOp .And [a] pos) (liftT X.K Z t) := pw_and1 ha
theorem tor1 (ha : PT X a (liftT X.K Z t)) : PW X (.BoolOp .Or [a] pos) (liftT X.K Z t) := pw_or1 ha
theorem tand (ha : PT X a (liftT X.K Z t)) (hb : PW X (.BoolOp .And (b :: rest) pos) (liftT X.K Z u)) : PW X (.BoolOp .And (a :: b :: rest) pos) (liftT X.K Z (dAnd t u)) :=
  PW.of (pw_and ha hb) fun σ H Q h => by
    obtain ⟨g, F, env, P, k, w, q⟩ := h
    refine ⟨g, F, env, _, k, w, fun d env1 F1 H1 p e1 k1 => ?_⟩
    cases d with
    | true => exact iteT ⟨g, F1, env1, _, k1, p, fun d2 env2 F2 H2 p2 e2 k2 => q d2 env2 F2 H2 p2 (e1.trans e2) k2⟩
    | false => exact iteF (q _ env1 F1 H1 p e1 k1)
theorem tor (ha : PT X a (liftT X.K Z t)) (hb : PW X (.BoolOp .Or (b :: rest) pos) (liftT X.K Z u)) : PW X (.BoolOp .Or (a :: b :: rest) pos) (liftT X.K Z (dOr t u)) :=
  PW.of (pw_or ha hb) fun σ H Q h => by
    obtain ⟨g, F, env, P, k, w, q⟩ := h
    refine ⟨g, F, env, _, k, w, fun d env1 F1 H1 p e1 k1 => ?_⟩
    cases d with
    | false => exact iteF ⟨g, F1, env1, _, k1, p, fun d2 env2 F2 H2 p2 e2 k2 => q d2 env2 F2 H2 p2 (e1.trans e2) k2⟩
    | true => exact iteT (q _ env1 F1 H1 p e1 k1)
theorem tnot (ha : PT X a (liftT X.K Z t)) : PT X (.UnaryOp .Not a pos) (liftT X.K Z (dNot t)) :=
  PT.of (pt_not ha) fun σ H Q h => by
    obtain ⟨g, F, env, P, k, w, q⟩ := h
    exact ⟨g, F, env, _, k, w, fun d env1 F1 H1 p e1 k1 => q _ env1 F1 H1 p e1 k1⟩
variable {was : DA}
abbrev dNil (env : List SD) (P : List PyData → List SD → Prop) : Prop := P [] env
abbrev dCons (wa : DE) (wr : DA) (env : List SD) (P : List PyData → List SD → Prop) : Prop := wa env fun x env1 => wr env1 fun xs env2 => P (x :: xs) env2
theorem anil : PA X [] (liftA X.K Z dNil) := PA.of pa_nil fun σ H Q h => by
  obtain ⟨g, F, env, P, k, w, q⟩ := h
  exact q [] env [] F H w (Ex.refl F) k .nil
theorem acons (ha : PE X e (liftE X.K Z wa)) (hr : PA X es (liftA X.K Z was)) (hs : starEach (e :: es) X.env = (false, eval e X.env) :: starEach es X.env := by rfl) : PA X (e :: es) (liftA X.K Z (dCons wa was)) :=
  PA.of (pa_cons ha hr hs) fun σ H Q h => by
    obtain ⟨g, F, env, P, k, w, q⟩ := h
    exact ⟨g, F, env, _, k, w, fun d env1 v F1 H1 p e1 k1 r1 => ⟨g, F1, env1, _, k1, p, fun ds env2 vs F2 H2 p2 e2 k2 r2 => q (d :: ds) env2 (v :: vs) F2 H2 p2 (e1.trans e2) k2 (.cons (r1.mono e2) r2)⟩⟩
abbrev dTup (wa : DA) (env : List SD) (P : PyData → List SD → Prop) : Prop := wa env fun xs env' => bIf (Nat.ble xs.length 100000) (P (.tuple xs) env') False
abbrev dLst (wa : DA) (env : List SD) (P : SD → List SD → Prop) : Prop := wa env fun xs env' => bIf (Nat.ble xs.length 100000) (P (.cel false xs) env') False
theorem dtup {k : _} (h : PA X es (liftA X.K Z was)) : PE X (.Tuple es k pos) (liftE X.K Z (dTup was)) :=
  PE.of (pe_tupZ h) fun σ H Q h => by
    obtain ⟨g, F, env, P, k, w, q⟩ := h
    refine ⟨g, F, env, _, k, w, fun ds env1 vs F1 H1 p e1 k1 r1 => ⟨by rw [r1.length]; exact Evl.sz_of (Nat.le_of_ble_eq_true (bIf_and p).1), fun x o hx ho => ?_⟩⟩
    obtain ⟨e2, k2, r2⟩ := k1.newTup hx ho r1
    exact q _ env1 _ _ _ (bIf_and p).2 (e1.trans e2) k2 r2
theorem dlst (h : PA X es (liftA X.K Z was)) : PE X (.List es pos) (liftX X.K Z (dLst was)) :=
  PE.of (pe_lst h) fun σ H Q h => by
    obtain ⟨g, F, env, P, k, w, q⟩ := h
    refine ⟨g, F, env, _, k, w, fun ds env1 vs F1 H1 p e1 k1 r1 => ⟨by rw [r1.length]; exact Evl.sz_of (Nat.le_of_ble_eq_true (bIf_and p).1), fun x hx => ?_⟩⟩
    obtain ⟨k2, r2⟩ := k1.newCell hx r1
    exact q _ env1 _ _ _ (bIf_and p).2 e1 k2 r2
/-- a new list that is to stay as it is -/
abbrev dFrz (w : DX) (env : List SD) (P : PyData → List SD → Prop) : Prop := w env fun r env' => match r with
  | .dat d => P d env'
  | .cel _ xs => P (.list xs) env'
  | _ => False
theorem dfrz {w : DX} (h : PE X e (liftX X.K Z w)) : PE X e (liftE X.K Z (dFrz w)) := PE.of h fun σ H Q h => by
  obtain ⟨g, F, env, P, k, w, q⟩ := h
  refine ⟨g, F, env, _, k, w, fun r env1 v F1 H1 p e1 k1 r1 => ?_⟩
  cases r with
  | un => exact p.elim
  | dic _ => exact p.elim
  | dat d => exact q d env1 v F1 H1 p e1 k1 r1
  | cel b xs =>
    obtain ⟨F2, e2, k2, r2⟩ := k1.freezeP r1
    exact q _ env1 v F2 H1 p (e1.trans e2) k2 r2
abbrev dX (w : DE) (env : List SD) (P : SD → List SD → Prop) : Prop := w env fun d env' => P (.dat d) env'
theorem dx {w : DE} (h : PE X e (liftE X.K Z w)) : PE X e (liftX X.K Z (dX w)) := PE.of h fun σ H Q h => by
  obtain ⟨g, F, env, P, k, w, q⟩ := h
  exact ⟨g, F, env, _, k, w, fun d env1 v F1 H1 p e1 k1 r1 => q (.dat d) env1 v F1 H1 p e1 k1 r1⟩
theorem dix {r : R2} {f : D2} (ho : IxR X r) (hd : OpD X.K r f) (ha : PE X a (liftE X.K Z wa)) (hb : PE X b (liftE X.K Z wb)) (hs : PlainIx b := by intro _ _; rfl) : PE X (.Subscript a b pos) (liftE X.K Z (dOp f wa wb)) :=
  PE.of (pe_ix ho ha hb hs) fun _ _ _ h => lift_op hd h
theorem ixr_or {r r' : R2} (h : IxR X r) (h' : IxR X r') : IxR X (fun x y H Q => r x y H Q ∨ r' x y H Q) := by
  intro value slice pins s σ H x y v u Q I rx ry q hs
  rcases q with q | q
  · exact h value slice pins s σ H x y v u Q I rx ry q hs
  · exact h' value slice pins s σ H x y v u Q I rx ry q hs
/-- the item at a place -/
@[irreducible] def pick (xs : List PyData) (k : Int) (P : PyData → Prop) : Prop := match atI xs k with
  | some d => P d
  | none => False
theorem pick_inv {xs : List PyData} {k : Int} {P : PyData → Prop} (h : pick xs k P) : ∃ d, atI xs k = some d ∧ P d := by
  unfold pick at h
  cases e : atI xs k with
  | none => rw [e] at h; exact h.elim
  | some d => rw [e] at h; exact ⟨d, rfl, h⟩
def ixQ (xs : List PyData) (y : PyData) (K : PyData → Prop) : Prop := match y with
  | .int k => pick xs k K
  | _ => False
/-- the sign at a place of a text -/
@[irreducible] def pickS (z : Str) (k : Int) (P : PyData → Prop) : Prop := match atI z.cps.toList k with
  | some c => z.length ≤ 100000 ∧ P (.str ⟨#[c]⟩)
  | none => False
theorem pickS_inv {z : Str} {k : Int} {P : PyData → Prop} (h : pickS z k P) : ∃ c, atI z.cps.toList k = some c ∧ z.length ≤ 100000 ∧ P (.str ⟨#[c]⟩) := by
  unfold pickS at h
  cases e : atI z.cps.toList k with
  | none => rw [e] at h; exact h.elim
  | some c => rw [e] at h; exact ⟨c, rfl, h⟩
def oIx (x y : PyData) (P : PyData → Prop) : Prop := match x, y with
  | .tuple xs, .int k => pick xs k P
  | .list xs, .int k => pick xs k P
  | .str z, .int k => pickS z k P
  | _, _ => False
theorem atI_rel {F : Hp} {vs : List V} {ds : List PyData} {k : Int} {d : PyData} (r : DRs K F vs ds) (h : atI ds k = some d) : ∃ v, atI vs k = some v ∧ DR K F v d := by
  unfold atI at h ⊢
  rw [r.length]
  cases e : ixN ds.length k with
  | none => rw [e] at h; cases h
  | some j =>
    rw [e] at h
    exact r.get h
def rIx (K : PySem.W.Frag) : R2 := fun x y H Q => rIxT K x y H Q ∨ (rIxL K x y H Q ∨ rIxS x y H Q)
theorem ixr : IxR X (rIx X.K) := ixr_or ix_tup (ixr_or ix_list ix_str)
theorem opd_ix : OpD K (rIx K) oIx := by
  intro _ _ g F env σ H vx vy dx dy P Q k rx ry p q
  unfold oIx at p
  split at p
  · rename_i xs i
    cases ry.inv_int
    obtain ⟨d, e, p⟩ := pick_inv p
    obtain ⟨a, us, rfl, h1, h2⟩ := rx.inv_tup
    obtain ⟨v, e1, e2⟩ := atI_rel h2 e
    exact .inl ⟨a, us, i, v, rfl, rfl, Evl.ex_t k.fh h1, e1, q d v F H p (Ex.refl F) k e2⟩
  · rename_i xs i
    cases ry.inv_int
    obtain ⟨d, e, p⟩ := pick_inv p
    obtain ⟨a, us, rfl, h1, h2⟩ := rx.inv_lst
    obtain ⟨v, e1, e2⟩ := atI_rel h2 e
    exact .inr (.inl ⟨a, us, i, v, rfl, rfl, (h1.mono k.fh).sq, e1, q d v F H p (Ex.refl F) k e2⟩)
  · rename_i z i
    cases ry.inv_int
    cases rx.inv_str
    obtain ⟨c, e, hz, p⟩ := pickS_inv p
    exact .inr (.inr ⟨z, i, c, rfl, rfl, by rw [sizeLine_eq]; omega, e, q _ _ F H p (Ex.refl F) k (.str _)⟩)
  · exact p.elim
theorem dixP (ha : PE X a (liftE X.K Z wa)) (hb : PE X b (liftE X.K Z wb)) (hs : PlainIx b := by intro _ _; rfl) : PE X (.Subscript a b pos) (liftE X.K Z (dOp oIx wa wb)) := dix ixr opd_ix ha hb hs
/-- an item of a name's own cell -/
abbrev dIxC (i : Nat) (wb : DE) (env : List SD) (P : PyData → List SD → Prop) : Prop := match env[i]? with
  | some (.cel _ _) => wb env fun y env1 => match env1[i]? with
    | some (.cel _ xs) => ixQ xs y fun d => P d env1
    | _ => False
  | _ => False
theorem dixC (i : Nat) {x : Str} {p0 : Pos} (hb : PE X b (liftE X.K Z wb)) (hN : X.N[i]? = some x := by rfl) (hv : Vis X.env.scope x := by first | exact Or.inl rfl | exact Or.inr (Or.inl rfl) | exact Or.inr (Or.inr rfl)) (hd : (x == ("__debug__" : Str)) = false := by decide)
    (hcd : (x == ("__classdict__" : Str)) = false := by decide) (hs : PlainIx b := by intro _ _; rfl) : PE X (.Subscript (.Name x p0) b pos) (liftE X.K Z (dIxC i wb)) :=
  PE.of (pe_ix ix_list (pe_var hN hv hd hcd) hb hs) fun σ H Q h => by
    obtain ⟨g, F, env, P, k, w, q⟩ := h
    unfold dIxC at w
    split at w
    · rename_i p xs e
      obtain ⟨a0, vs, h1, _⟩ := k.cel i p xs e
      refine ⟨_, h1, g, F, env, _, k, w, fun d env1 v F1 H1 p1 e1 k1 r1 => ?_⟩
      split at p1
      · rename_i p' ys e'
        obtain ⟨n, rfl, p1⟩ : ∃ n, d = .int n ∧ pick ys n _ := by
          cases d <;> first | exact ⟨_, rfl, p1⟩ | exact p1.elim
        cases r1.inv_int
        obtain ⟨d', ed, p1⟩ := pick_inv p1
        obtain ⟨a1, ws, z1, z2, z3, z4, z5⟩ := k1.cel i _ _ e'
        rw [h1] at z1
        cases z1
        obtain ⟨u, u1, u2⟩ := atI_rel z4 ed
        exact ⟨a0, ws, n, u, rfl, rfl, SqL.of z3, u1, q d' env1 u F1 H1 p1 e1 k1 u2⟩
      · exact p1.elim
    · exact w.elim
end
end DL

namespace DL
variable {T : List (PySem.Addr × PySem.Str)} {Z : Zx T}
open PySem PySem.Spec PyProof.Rows L2
open Evl (Ex)

/-- a whole number of at most thousand figures -/
def Sz (i : Int) : Prop := i.natAbs < 10 ^ 1000
theorem Sz.log {i : Int} (h : Sz i) : i.natAbs.log2 < 3322 := by
  have h1 : i.natAbs < 2 ^ 3322 := Nat.lt_trans h (by decide +kernel)
  exact PySem.Flt.log2_lt_of (by decide) h1
theorem Sz.bits {i : Int} (h : Sz i) : Builtin.Int.intBits i ≤ 3322 := by
  have h1 := h.log
  unfold Builtin.Int.intBits
  split <;> omega
theorem sz_of {i : Int} (h1 : -(10 ^ 100) ≤ i) (h2 : i ≤ 10 ^ 100) : Sz i := by
  unfold Sz
  have : i.natAbs ≤ 10 ^ 100 := by omega
  exact Nat.lt_of_le_of_lt this (by decide +kernel)
theorem sz_lt {i : Int} (h : i.natAbs < 10 ^ 250) : Sz i := Nat.lt_trans h (by decide +kernel)
theorem lt_of {i : Int} (h1 : -(10 ^ 100) ≤ i) (h2 : i ≤ 10 ^ 100) : i.natAbs < 10 ^ 250 := by
  have : i.natAbs ≤ 10 ^ 100 := by omega
  exact Nat.lt_of_le_of_lt this (by decide +kernel)
section
variable {X : Cx} {K : PySem.W.Frag}
def oI (g : Int → Int → PyData) (x y : PyData) (P : PyData → Prop) : Prop := match x, y with
  | .int i, .int j => P (g i j)
  | _, _ => False
theorem opd_I0 {gv : Int → Int → V} {gd : Int → Int → PyData} (hg : ∀ (F : Hp) i j, DR K F (gv i j) (gd i j)) : OpD K (rI0 gv) (oI gd) := by
  intro _ _ g F env σ H vx vy dx dy P Q k rx ry p q
  unfold oI at p
  split at p
  · cases rx.inv_int
    cases ry.inv_int
    exact ⟨_, _, rfl, rfl, q _ _ F H p (Ex.refl F) k (hg F _ _)⟩
  · exact p.elim
def oIc (C : Int → Int → Prop) (g : Int → Int → PyData) (x y : PyData) (P : PyData → Prop) : Prop := match x, y with
  | .int i, .int j => C i j ∧ P (g i j)
  | _, _ => False
theorem opd_I {C C' : Int → Int → Prop} {gv : Int → Int → V} {gd : Int → Int → PyData} (hc : ∀ i j, C i j → C' i j) (hg : ∀ (F : Hp) i j, DR K F (gv i j) (gd i j)) : OpD K (rI C' gv) (oIc C gd) := by
  intro _ _ g F env σ H vx vy dx dy P Q k rx ry p q
  unfold oIc at p
  split at p
  · cases rx.inv_int
    cases ry.inv_int
    exact ⟨_, _, rfl, rfl, hc _ _ p.1, q _ _ F H p.2 (Ex.refl F) k (hg F _ _)⟩
  · exact p.elim
abbrev oSub : D2 := oI fun i j => .int (i - j)
/-- the one text ahead of the other -/
@[irreducible] def strLt (a b : Str) : Bool := decide (a.cps.toList < b.cps.toList)
def oLt (x y : PyData) (P : PyData → Prop) : Prop := match x, y with
  | .int i, .int j => P (.bool (decide (i < j)))
  | .str a, .str b => P (.bool (strLt a b))
  | _, _ => False
def rLtA : R2 := fun x y H Q => (rI0 fun i j => .bl (decide (i < j))) x y H Q ∨ ∃ i j, x = .str i ∧ y = .str j ∧ Q (.bl (decide (i.cps.toList < j.cps.toList))) H
theorem op_ltA {X : Cx} : OpR X (compareOp .Lt) rLtA := OpR.or op_lt op_lt_str
abbrev oLe : D2 := oI fun i j => .bool (decide (i ≤ j))
abbrev oGt : D2 := oI fun i j => .bool (decide (j < i))
abbrev oGe : D2 := oI fun i j => .bool (decide (j ≤ i))
abbrev oMod : D2 := oIc (fun _ j => 0 < j) fun i j => .int (i % j)
abbrev oDiv : D2 := oIc (fun _ j => 0 < j ∧ Sz j) fun i j => .int (i / j)
abbrev oMulI : D2 := oIc (fun i j => Sz i ∧ Sz j) fun i j => .int (i * j)
abbrev oPow : D2 := oIc (fun i j => Sz i ∧ 0 ≤ j ∧ j ≤ 10000) fun i j => .int (i ^ j.toNat)
variable {a b c e : Expr} {es : List Expr} {pos : Pos} {wa wb wc w : DE}
theorem op_powW : OpR X (binaryOp .Pow) (rI (fun i j => Sz i ∧ 0 ≤ j ∧ j ≤ 10000) fun i j => .int (i ^ j.toNat)) := by
  intro pins s σ H x y v u Q I rx ry h
  obtain ⟨i, j, rfl, rfl, ⟨h1, h2, h3⟩, q⟩ := h
  obtain ⟨t, rfl⟩ := rx
  obtain ⟨t', rfl⟩ := ry
  refine PyProof.Rows.pow_int h2 ?_ ⟨.int _, H, I.tok _, ⟨_, rfl⟩, q⟩
  have b := h1.bits
  have z : (Builtin.Int.intBits i : Int) * j ≤ 3322 * 10000 := Int.mul_le_mul (by omega) h3 h2 (by decide)
  exact Int.le_trans z (by decide)
theorem dsub (ha : PE X a (liftE X.K Z wa)) (hb : PE X b (liftE X.K Z wb)) : PE X (.BinOp a .Sub b pos) (liftE X.K Z (dOp oSub wa wb)) := dop op_sub (opd_I0 fun _ _ _ => .int _) ha hb
theorem dmod (ha : PE X a (liftE X.K Z wa)) (hb : PE X b (liftE X.K Z wb)) : PE X (.BinOp a .Mod b pos) (liftE X.K Z (dOp oMod wa wb)) := dop op_mod (opd_I (fun _ _ h => h) fun _ _ _ => .int _) ha hb
theorem ddiv (ha : PE X a (liftE X.K Z wa)) (hb : PE X b (liftE X.K Z wb)) : PE X (.BinOp a .FloorDiv b pos) (liftE X.K Z (dOp oDiv wa wb)) :=
  dop op_fdivW (opd_I (fun _ _ h => ⟨h.1, Nat.lt_trans h.2.log (by decide)⟩) fun _ _ _ => .int _) ha hb
theorem dpow (ha : PE X a (liftE X.K Z wa)) (hb : PE X b (liftE X.K Z wb)) : PE X (.BinOp a .Pow b pos) (liftE X.K Z (dOp oPow wa wb)) := dop op_powW (opd_I (fun _ _ h => h) fun _ _ _ => .int _) ha hb
theorem opr_ltA : OpD K rLtA oLt := by
  intro _ _ g F env σ H vx vy dx dy P Q k rx ry p q
  unfold oLt at p
  split at p
  · cases rx.inv_int
    cases ry.inv_int
    exact .inl ⟨_, _, rfl, rfl, q _ _ F H p (Ex.refl F) k (.bl _)⟩
  · cases rx.inv_str
    cases ry.inv_str
    unfold strLt at p
    exact .inr ⟨_, _, rfl, rfl, q _ _ F H p (Ex.refl F) k (.bl _)⟩
  · exact p.elim
theorem opr_le : OpD K (rI0 fun i j => V.bl (decide (i ≤ j))) oLe := opd_I0 fun _ _ _ => .bl _
theorem opr_gt : OpD K (rI0 fun i j => V.bl (decide (j < i))) oGt := opd_I0 fun _ _ _ => .bl _
theorem opr_ge : OpD K (rI0 fun i j => V.bl (decide (j ≤ i))) oGe := opd_I0 fun _ _ _ => .bl _
def oNeg (x : PyData) (P : PyData → Prop) : Prop := match x with
  | .int i => P (.int (-i))
  | _ => False
theorem dneg (ha : PE X a (liftE X.K Z wa)) : PE X (.UnaryOp .USub a pos) (liftE X.K Z (dUn oNeg wa)) := dun un_neg (by
  intro _ _ g F env σ H vx dx P Q k rx p q
  unfold oNeg at p
  split at p
  · cases rx.inv_int
    exact ⟨_, rfl, q _ _ F H p (Ex.refl F) k (.int _)⟩
  · exact p.elim) ha
def oAdd (x y : PyData) (P : PyData → Prop) : Prop := match x, y with
  | .int i, .int j => P (.int (i + j))
  | .tuple xs, .tuple ys => xs.length + ys.length ≤ 100000 ∧ P (.tuple (xs ++ ys))
  | .list xs, .list ys => xs.length + ys.length ≤ 100000 ∧ P (.list (xs ++ ys))
  | .str i, .str j => i.length + j.length ≤ 100000 ∧ P (.str (i ++ j))
  | _, _ => False
theorem sz2 {n : Nat} (h : n ≤ 100000) : n ≤ sizeLine := Evl.sz_of h
/-- two lists that stand, known to the object or not -/
def rCatL (K : PySem.W.Frag) : R2 := fun x y H Q => ∃ l b xs zs, x = .ref l ∧ y = .ref b ∧ RdL K H l xs ∧ RdL K H b zs ∧ xs.length + zs.length ≤ sizeLine ∧ ∀ p, H p = none → Q (.ref p) (upd H p (.lst (xs ++ zs)))
theorem op_catL : OpR X (binaryOp .Add) (rCatL X.K) := by
  intro pins s σ H x y v u Q I rx ry h
  obtain ⟨l, b, xs, zs, rfl, rfl, hl, hb, hz, q⟩ := h
  cases rx
  cases ry
  obtain ⟨z1, its, n, r1, e1⟩ := hl.obj I
  obtain ⟨z2, its2, n2, r2, e2⟩ := hb.obj I
  have l1 := r1.length
  have l2 := r2.length
  refine PySem.P.add_list e1 e2 ?_ (by rw [List.size_toArray, List.size_toArray]; omega)
  rw [show its.toArray ++ its2.toArray = (its ++ its2).toArray by simp]
  exact ⟨.ref _, _, I.lnew (t' := s.toks) (r1.append r2) (by rw [List.length_append]; omega), rfl, q _ I.fresh⟩
def rAddD (K : PySem.W.Frag) : R2 := fun x y H Q => ((rI0 fun i j => .int (i + j)) x y H Q ∨ rCatZ K x y H Q) ∨ (rCatL K x y H Q ∨ (∃ i j, x = .str i ∧ y = .str j ∧ i.length + j.length ≤ sizeLine ∧ Q (.str (i ++ j)) H))
theorem op_addD : OpR X (binaryOp .Add) (rAddD X.K) := OpR.or (OpR.or op_add op_catZ) (OpR.or op_catL op_add_str)
theorem opd_add : OpD K (rAddD K) oAdd := by
  intro _ _ g F env σ H vx vy dx dy P Q k rx ry p q
  unfold oAdd at p
  split at p
  · cases rx.inv_int
    cases ry.inv_int
    exact .inl (.inl ⟨_, _, rfl, rfl, q _ _ F H p (Ex.refl F) k (.int _)⟩)
  · rename_i xs ys
    obtain ⟨a, us, rfl, h1, h2⟩ := rx.inv_tup
    obtain ⟨b, ws, rfl, h3, h4⟩ := ry.inv_tup
    have l1 := h2.length
    have l2 := h4.length
    refine .inl (.inr ⟨a, b, us, ws, rfl, rfl, Evl.ex_t k.fh h1, Evl.ex_t k.fh h3, by rw [l1, l2]; exact sz2 p.1, fun e => ?_, fun _ e => ?_, fun _ _ x o hx ho => ?_⟩)
    · subst e
      have : xs = [] := by cases h2; rfl
      subst this
      exact q _ _ F H p.2 (Ex.refl F) k ry
    · subst e
      have : ys = [] := by cases h4; rfl
      subst this
      rw [List.append_nil] at p
      exact q _ _ F H p.2 (Ex.refl F) k rx
    · obtain ⟨e2, k2, r2⟩ := k.newTup hx ho (h2.append h4)
      exact q _ _ _ _ p.2 e2 k2 r2
  · rename_i xs ys
    obtain ⟨a, us, rfl, h1, h2⟩ := rx.inv_lst
    obtain ⟨b, ws, rfl, h3, h4⟩ := ry.inv_lst
    have l1 := h2.length
    have l2 := h4.length
    refine .inr (.inl ⟨a, b, us, ws, rfl, rfl, h1.mono k.fh, h3.mono k.fh, by rw [l1, l2]; exact sz2 p.1, fun x hx => ?_⟩)
    obtain ⟨e2, k2, r2⟩ := k.newLst hx (h2.append h4)
    exact q _ _ _ _ p.2 e2 k2 r2
  · cases rx.inv_str
    cases ry.inv_str
    exact .inr (.inr ⟨_, _, rfl, rfl, sz2 p.1, q _ _ F H p.2 (Ex.refl F) k (.str _)⟩)
  · exact p.elim
theorem dadd (ha : PE X a (liftE X.K Z wa)) (hb : PE X b (liftE X.K Z wb)) : PE X (.BinOp a .Add b pos) (liftE X.K Z (dOp oAdd wa wb)) := dop op_addD opd_add ha hb
mutual
theorem DR.dp {K : PySem.W.Frag} {H : Hp} : ∀ {d : PyData} {v : V}, DR K H v d → PyData.hasDict d = false → Dp K H v d
  | .none, _, h, _ => by cases h; exact .non
  | .bool b, _, h, _ => by cases h; exact .bl b
  | .int i, _, h, _ => by cases h; exact .int i
  | .str x, _, h, _ => by cases h; exact .str x
  | .list ds, _, h, hd => by
    cases h with
    | lst a b => exact .lst a.sq (DRs.dp b (by simpa [PyData.hasDict] using hd))
  | .tuple ds, _, h, hd => by
    cases h with
    | tup a b => exact .tup a.sq (DRs.dp b (by simpa [PyData.hasDict] using hd))
  | .dict kvs, _, _, hd => by simp [PyData.hasDict] at hd
theorem DRs.dp {K : PySem.W.Frag} {H : Hp} : ∀ {ds : List PyData} {vs : List V}, DRs K H vs ds → PyData.hasDictAll ds = false → DpAll K H vs ds
  | [], _, h, _ => by cases h; exact .nil
  | d :: ds, _, h, hd => by
    simp only [PyData.hasDictAll, Bool.or_eq_false_iff] at hd
    cases h with
    | cons a b => exact .cons (DR.dp a hd.1) (DRs.dp b hd.2)
end
/-- == of two data, not to be looked into -/
@[irreducible] def eqD (x y : PyData) : Bool := PyData.eqv x y
theorem eqD_eq {x y : PyData} : eqD x y = PyData.eqv x y := by
  unfold eqD
  rfl
theorem eqD_int {i j : Int} : eqD (.int i) (.int j) = decide (i = j) := by
  rw [eqD_eq]
  show (i == j) = _
  rw [Bool.beq_eq_decide_eq]
def oEq (x y : PyData) (P : PyData → Prop) : Prop := match x, y with
  | .str a, .str b => P (.bool (decide (a = b)))
  | x, y => (SeqAt.shaped x = true ∧ SeqAt.shaped y = true) ∧ P (.bool (eqD x y))
def oNe (x y : PyData) (P : PyData → Prop) : Prop := match x, y with
  | .str a, .str b => P (.bool (!decide (a = b)))
  | x, y => (SeqAt.shaped x = true ∧ SeqAt.shaped y = true) ∧ P (.bool (!eqD x y))
theorem dict_of_shaped {d : PyData} (h : SeqAt.shaped d = true) : PyData.hasDict d = false := PyData.hasDict_of_canLay d (SeqAt.canLay_of_shaped h)
def rEqE (K : PySem.W.Frag) : R2 := fun x y H Q => rEq x y H Q ∨ rEqD K x y H Q
def rNeE (K : PySem.W.Frag) : R2 := fun x y H Q => rNe x y H Q ∨ rNeD K x y H Q
theorem op_eqE (hu : X.A.units + 64 < cLine) : OpR X (compareOp .Eq) (rEqE X.K) := OpR.or op_eq (op_eqD hu)
theorem op_neE (hu : X.A.units + 64 < cLine) : OpR X (compareOp .NotEq) (rNeE X.K) := OpR.or op_ne (op_neD hu)
theorem str_dec {a b : Str} : decide (V.str a = V.str b) = decide (a = b) := by
  by_cases h : a = b
  · subst h
    rw [decide_eq_true rfl, decide_eq_true rfl]
  · rw [decide_eq_false h, decide_eq_false (fun z => h (V.str.inj z))]
theorem opd_eq : OpD K (rEqE K) oEq := by
  intro _ _ g F env σ H vx vy dx dy P Q k rx ry p q
  unfold oEq at p
  split at p
  · cases rx.inv_str
    cases ry.inv_str
    refine .inl ⟨rfl, ?_⟩
    rw [str_dec]
    exact q _ _ F H p (Ex.refl F) k (.bl _)
  · obtain ⟨⟨h1, h2⟩, p⟩ := p
    rw [eqD_eq] at p
    exact .inr ⟨_, _, DR.dp (drH k rx) (dict_of_shaped h1), DR.dp (drH k ry) (dict_of_shaped h2), h1, h2, q _ _ F H p (Ex.refl F) k (.bl _)⟩
theorem opd_ne : OpD K (rNeE K) oNe := by
  intro _ _ g F env σ H vx vy dx dy P Q k rx ry p q
  unfold oNe at p
  split at p
  · cases rx.inv_str
    cases ry.inv_str
    refine .inl ⟨rfl, ?_⟩
    rw [str_dec]
    exact q _ _ F H p (Ex.refl F) k (.bl _)
  · obtain ⟨⟨h1, h2⟩, p⟩ := p
    rw [eqD_eq] at p
    exact .inr ⟨_, _, DR.dp (drH k rx) (dict_of_shaped h1), DR.dp (drH k ry) (dict_of_shaped h2), h1, h2, q _ _ F H p (Ex.refl F) k (.bl _)⟩
def oIsN (x : PyData) (P : PyData → Prop) : Prop := match x with
  | .none => P (.bool true)
  | _ => P (.bool false)
def oNotN (x : PyData) (P : PyData → Prop) : Prop := match x with
  | .none => P (.bool false)
  | _ => P (.bool true)
abbrev DN := List PyData → (PyData → Prop) → Prop
abbrev dB (f : DN) (wa : DA) (env : List SD) (P : PyData → List SD → Prop) : Prop := wa env fun xs env' => f xs fun z => P z env'
def CallD (K : PySem.W.Frag) (r : List V → Hp → VK → Prop) (f : DN) : Prop :=
  ∀ (T : List (Addr × Str)) (Z : Zx T) (g : Gx Z) (F : Hp) (env : List SD) (σ : L2.St) (H : Hp) (vs : List V) (ds : List PyData) (P : PyData → Prop) (Q : VK), Ok K g F env σ H → DRs K F vs ds → f ds P →
    (∀ d v F' H', P d → Ex F F' → Ok K g F' env σ H' → DR K F' v d → Q v H') → r vs H Q
theorem lift_call {r : List V → Hp → VK → Prop} {f : DN} {was : DA} (hd : CallD K r f) {σ : L2.St} {H : Hp} {Q : VK} (h : liftE K Z (dB f was) σ H Q) : tCB r (liftA K Z was) σ H Q := by
  obtain ⟨g, F, env, P, k, w, q⟩ := h
  refine ⟨g, F, env, _, k, w, fun ds env1 vs F1 H1 p e1 k1 r1 => ?_⟩
  exact hd _ _ g F1 env1 σ H1 vs ds _ Q k1 r1 p fun d2 v2 F2 H2 p2 e2 k2 r2 => q d2 env1 v2 F2 H2 p2 (e1.trans e2) k2 r2
theorem dcb {x : Str} {id : String} {p : Pos} {r : List V → Hp → VK → Prop} {f : DN} {was : DA} (hc : CallR X (.builtin id) r) (hd : CallD X.K r f) (hm : X.mg x = none) (hv : bootBuiltins x = some (.builtin id)) (ha : PA X (e :: es) (liftA X.K Z was))
    (hg : Gl X x := by rfl) (hn : x ≠ "__name__" := by decide) (hdb : (x == ("__debug__" : Str)) = false := by decide)
    (he : starEach (e :: es) X.env = (false, eval e X.env) :: starEach es X.env := by rfl) (hpl : (backTo pos (starEach es X.env)).any (·.1) = false := by rfl) : PE X (.Call (.Name x p) (e :: es) [] pos) (liftE X.K Z (dB f was)) :=
  PE.of (pe_callB hc hg hm hv ha hn hdb he hpl) fun _ _ _ h => lift_call hd h
theorem dct {x : Str} {T : String} {p : Pos} {r : List V → Hp → VK → Prop} {f : DN} {was : DA} (hc : CallR X (.type T) r) (hd : CallD X.K r f) (hm : X.mg x = none) (hv : bootBuiltins x = some (.type T)) (ha : PA X (e :: es) (liftA X.K Z was))
    (hg : Gl X x := by rfl) (hn : x ≠ "__name__" := by decide) (hdb : (x == ("__debug__" : Str)) = false := by decide)
    (he : starEach (e :: es) X.env = (false, eval e X.env) :: starEach es X.env := by rfl) (hpl : (backTo pos (starEach es X.env)).any (·.1) = false := by rfl) : PE X (.Call (.Name x p) (e :: es) [] pos) (liftE X.K Z (dB f was)) :=
  PE.of (pe_callTy hc hg hm hv ha hn hdb he hpl) fun _ _ _ h => lift_call hd h
variable {was : DA} {p : Pos}
/-- all whole numbers -/
def intsD : List PyData → Option (List Int)
  | [] => some []
  | .int i :: r => (intsD r).map (i :: ·)
  | _ :: _ => none
def boolsD : List PyData → Option (List Bool)
  | [] => some []
  | .bool i :: r => (boolsD r).map (i :: ·)
  | _ :: _ => none
theorem ints_rel {F : Hp} : ∀ {ds : List PyData} {vs : List V} {ns : List Int}, DRs K F vs ds → intsD ds = some ns → vs = ns.map V.int
  | [], _, _, h, e => by cases h; cases e; rfl
  | .int i :: r, _, ns, h, e => by
    cases h with
    | cons a b =>
      cases q : intsD r with
      | none => simp [intsD, q] at e
      | some ms =>
        simp only [intsD, q, Option.map_some, Option.some.injEq] at e
        subst e
        cases a.inv_int
        rw [ints_rel b q]
        rfl
  | .none :: _, _, _, _, e => by simp [intsD] at e
  | .bool _ :: _, _, _, _, e => by simp [intsD] at e
  | .str _ :: _, _, _, _, e => by simp [intsD] at e
  | .list _ :: _, _, _, _, e => by simp [intsD] at e
  | .tuple _ :: _, _, _, _, e => by simp [intsD] at e
  | .dict _ :: _, _, _, _, e => by simp [intsD] at e
theorem bools_rel {F : Hp} : ∀ {ds : List PyData} {vs : List V} {ns : List Bool}, DRs K F vs ds → boolsD ds = some ns → vs = ns.map V.bl
  | [], _, _, h, e => by cases h; cases e; rfl
  | .bool i :: r, _, ns, h, e => by
    cases h with
    | cons a b =>
      cases q : boolsD r with
      | none => simp [boolsD, q] at e
      | some ms =>
        simp only [boolsD, q, Option.map_some, Option.some.injEq] at e
        subst e
        cases a.inv_bool
        rw [bools_rel b q]
        rfl
  | .none :: _, _, _, _, e => by simp [boolsD] at e
  | .int _ :: _, _, _, _, e => by simp [boolsD] at e
  | .str _ :: _, _, _, _, e => by simp [boolsD] at e
  | .list _ :: _, _, _, _, e => by simp [boolsD] at e
  | .tuple _ :: _, _, _, _, e => by simp [boolsD] at e
  | .dict _ :: _, _, _, _, e => by simp [boolsD] at e
def nLen (xs : List PyData) (P : PyData → Prop) : Prop := match xs with
  | [.list ds] => P (.int (ds.length : Nat))
  | [.tuple ds] => P (.int (ds.length : Nat))
  | [.str x] => x.length ≤ 100000 ∧ P (.int (x.length : Nat))
  | _ => False
theorem dlen (hm : X.mg "len" = none) (ha : PA X (e :: es) (liftA X.K Z was)) (hg : Gl X "len" := by rfl)
    (he : starEach (e :: es) X.env = (false, eval e X.env) :: starEach es X.env := by rfl) (hpl : (backTo pos (starEach es X.env)).any (·.1) = false := by rfl) : PE X (.Call (.Name "len" p) (e :: es) [] pos) (liftE X.K Z (dB nLen was)) :=
  dcb call_len (fun _ _ g F env σ H vs ds P Q k r f q => by
    unfold nLen at f
    split at f
    · obtain ⟨v, rfl, r0⟩ := r.inv1
      obtain ⟨a, us, rfl, h1, h2⟩ := r0.inv_lst
      exact ⟨_, us.length, rfl, .inl ⟨us, (h1.mono k.fh).sq, rfl⟩, by rw [h2.length]; exact q _ _ F H f (Ex.refl F) k (.int _)⟩
    · obtain ⟨v, rfl, r0⟩ := r.inv1
      obtain ⟨a, us, rfl, h1, h2⟩ := r0.inv_tup
      exact ⟨_, us.length, rfl, .inr ⟨us, Evl.ex_t k.fh h1, rfl⟩, by rw [h2.length]; exact q _ _ F H f (Ex.refl F) k (.int _)⟩
    · obtain ⟨v, rfl, r0⟩ := r.inv1
      cases r0.inv_str
      exact ⟨_, _, rfl, ⟨sz2 f.1, rfl⟩, q _ _ F H f.2 (Ex.refl F) k (.int _)⟩
    · exact f.elim) hm PySem.boot_len ha hg (by decide) (by decide) he hpl
def nAbs (xs : List PyData) (P : PyData → Prop) : Prop := match xs with
  | [.int i] => P (.int (if i < 0 then -i else i))
  | _ => False
theorem dabs (hm : X.mg "abs" = none) (ha : PA X (e :: es) (liftA X.K Z was)) (hg : Gl X "abs" := by rfl)
    (he : starEach (e :: es) X.env = (false, eval e X.env) :: starEach es X.env := by rfl) (hpl : (backTo pos (starEach es X.env)).any (·.1) = false := by rfl) : PE X (.Call (.Name "abs" p) (e :: es) [] pos) (liftE X.K Z (dB nAbs was)) :=
  dcb call_abs (fun _ _ g F env σ H vs ds P Q k r f q => by
    unfold nAbs at f
    split at f
    · obtain ⟨v, rfl, r0⟩ := r.inv1
      cases r0.inv_int
      exact ⟨_, rfl, q _ _ F H f (Ex.refl F) k (.int _)⟩
    · exact f.elim) hm (by decide +kernel) ha hg (by decide) (by decide) he hpl
def nMin2 (xs : List PyData) (P : PyData → Prop) : Prop := match xs with
  | [.int i, .int j] => P (.int (if j < i then j else i))
  | _ => False
def nMax2 (xs : List PyData) (P : PyData → Prop) : Prop := match xs with
  | [.int i, .int j] => P (.int (if j > i then j else i))
  | _ => False
theorem dmin2 (hm : X.mg "min" = none) (hc : X.calm = true) (ha : PA X (e :: es) (liftA X.K Z was)) (hg : Gl X "min" := by rfl)
    (he : starEach (e :: es) X.env = (false, eval e X.env) :: starEach es X.env := by rfl) (hpl : (backTo pos (starEach es X.env)).any (·.1) = false := by rfl) : PE X (.Call (.Name "min" p) (e :: es) [] pos) (liftE X.K Z (dB nMin2 was)) :=
  dcb (call_min2 hc) (fun _ _ g F env σ H vs ds P Q k r f q => by
    unfold nMin2 at f
    split at f
    · obtain ⟨v, w, rfl, r1, r2⟩ := r.inv2
      cases r1.inv_int
      cases r2.inv_int
      exact ⟨_, _, rfl, q _ _ F H f (Ex.refl F) k (.int _)⟩
    · exact f.elim) hm (by decide +kernel) ha hg (by decide) (by decide) he hpl
theorem dmax2 (hm : X.mg "max" = none) (hc : X.calm = true) (ha : PA X (e :: es) (liftA X.K Z was)) (hg : Gl X "max" := by rfl)
    (he : starEach (e :: es) X.env = (false, eval e X.env) :: starEach es X.env := by rfl) (hpl : (backTo pos (starEach es X.env)).any (·.1) = false := by rfl) : PE X (.Call (.Name "max" p) (e :: es) [] pos) (liftE X.K Z (dB nMax2 was)) :=
  dcb (call_max2 hc) (fun _ _ g F env σ H vs ds P Q k r f q => by
    unfold nMax2 at f
    split at f
    · obtain ⟨v, w, rfl, r1, r2⟩ := r.inv2
      cases r1.inv_int
      cases r2.inv_int
      exact ⟨_, _, rfl, q _ _ F H f (Ex.refl F) k (.int _)⟩
    · exact f.elim) hm (by decide +kernel) ha hg (by decide) (by decide) he hpl
def nAll (xs : List PyData) (P : PyData → Prop) : Prop := match xs with
  | [.list ds] => (match boolsD ds with | some bs => P (.bool (bs.all id)) | none => False)
  | _ => False
def nAny (xs : List PyData) (P : PyData → Prop) : Prop := match xs with
  | [.list ds] => (match boolsD ds with | some bs => P (.bool (bs.any id)) | none => False)
  | _ => False
theorem dall (hm : X.mg "all" = none) (hc : X.calm = true) (ha : PA X (e :: es) (liftA X.K Z was)) (hg : Gl X "all" := by rfl)
    (he : starEach (e :: es) X.env = (false, eval e X.env) :: starEach es X.env := by rfl) (hpl : (backTo pos (starEach es X.env)).any (·.1) = false := by rfl) : PE X (.Call (.Name "all" p) (e :: es) [] pos) (liftE X.K Z (dB nAll was)) :=
  dcb (cr_all hc) (fun _ _ g F env σ H vs ds P Q k r f q => by
    unfold nAll at f
    split at f
    · split at f
      · rename_i bs e
        obtain ⟨v, rfl, r0⟩ := r.inv1
        obtain ⟨a, us, rfl, h1, h2⟩ := r0.inv_lst
        cases bools_rel h2 e
        exact ⟨a, bs, rfl, (h1.mono k.fh).sq, q _ _ F H f (Ex.refl F) k (.bl _)⟩
      · exact f.elim
    · exact f.elim) hm (by decide +kernel) ha hg (by decide) (by decide) he hpl
/-- isinstance(x, T), T a built-in type -/
def tyName : PyData → String
  | .none => "NoneType"
  | .bool _ => "bool"
  | .int _ => "int"
  | .str _ => "str"
  | .list _ => "list"
  | .tuple _ => "tuple"
  | .dict [] => "dict"
  | .dict ((.int _, _) :: _) => "dict"
  | .dict ((.str _, _) :: _) => "dict"
  | .dict _ => "list"
def isiB (d : PyData) (T : String) : Bool := (T == tyName d) || (T == "int" && tyName d == "bool")
theorem tyX_of0 {F : Hp} {v : V} {d : PyData} (r : DR K F v d) (hno : ∀ c, d ≠ .dict [(.none, .str c)]) : TyX K F v (.type (tyName d)) := by
  cases r with
  | exc _ _ => exact absurd rfl (hno _)

  | non => exact .base .non
  | bl b => exact .base (.bl b)
  | int i => exact .base (.int i)
  | str x => exact .base (.str x)
  | lst h _ =>
    rcases h with (h | ⟨o, h⟩) | ⟨its, n, h, _⟩
    · exact .base (.lst h)
    · exact .base (.frz h)
    · exact .kList h rfl
  | tup h _ =>
    rcases h.sq with (h | ⟨o, h⟩) | ⟨o, its, n, h, hc, _⟩
    · exact .base (.tup h)
    · exact .fTuple h
    · exact .kTuple h hc
  | dct h m => cases m <;> exact .fDict h
  | row h _ => exact .base (.lst h)
theorem tyX_of {F : Hp} {v : V} {d : PyData} (r : DR K F v d) : TyX K F v (.type (tyName d)) ∨ ∃ a c, v = .ref a ∧ d = .dict [(.none, .str c)] ∧ F a = some (.ext (ExcAt (He.ga K c) a)) ∧ XcF K c := by
  by_cases h : ∃ c, d = .dict [(.none, .str c)]
  · obtain ⟨c, rfl⟩ := h
    cases r with
    | exc h x => exact .inr ⟨_, _, rfl, rfl, h, x⟩
    | dct _ m => cases m
  · exact .inl (tyX_of0 r fun c z => h ⟨c, z⟩)
theorem kit_isi (d : PyData) : ∀ T ∈ exTypes, PySem.W.kitOne K (.type (tyName d)) (.type T) = some (isiB d T) := by
  have h : ∀ N ∈ ["NoneType", "bool", "int", "str", "list", "tuple", "dict"], ∀ T ∈ exTypes, kitB N T = some ((T == N) || (T == "int" && N == "bool")) := by decide +kernel
  intro T hT
  exact kit_ty (h (tyName d) (by unfold tyName; split <;> simp) T hT)
/-- isinstance(e, c), e a caught refusal -/
def rIsE1 (K : PySem.W.Frag) : List V → Hp → VK → Prop := fun xs H Q => ∃ (a C : Addr) (c : V) (u : Value) (b : Bool), xs = [.ref a, c] ∧ ClsV c u ∧ H a = some (.ext (ExcAt C a)) ∧ ExcC K C ∧ PySem.W.kitOne K (.ref C) u = some b ∧ Q (.bl b) H
theorem exc_inst {H : Hp} {s : Shared} {σ : L2.St} {pins : List (Addr × Obj)} {a C : Addr} (I : Inv X pins σ H s) (h : H a = some (.ext (ExcAt C a))) : ∃ oe, PySem.W.InstAt s.heap a oe C none := by
  obtain ⟨⟨oe, vs, h1, h2, h3, h4⟩, _⟩ := (show ObjOk X.prog X.w H s.heap a (.ext (ExcAt C a)) from I.hok a _ h)
  obtain ⟨oc, od, oda, osl⟩ := oe
  dsimp only at h2 h3 h4
  subst h2 h3 h4
  exact ⟨_, h1, rfl, rfl, trivial⟩
theorem call_isE1 : CallR X (.builtin "isinstance") (rIsE1 X.K) := by
  intro pins s σ H xs us Q I r h
  obtain ⟨a, C, c, u, b, rfl, k, hH, x, e, q⟩ := h
  obtain ⟨u1, u2, rfl, r1, r2⟩ := vals2 r
  have e2 := k.eq r2
  subst e2
  cases (show u1 = Value.ref a from r1)
  obtain ⟨oe, J⟩ := exc_inst I hH
  exact PySem.W.kia_one (PySem.W.handS_kitx_exc x.hg x.hk x.hs x.hd x.ha x.hn x.ht x.hm) I.kIn J e (fun z => nomatch z) fun tk => ⟨.bl b, H, I.tok tk, rfl, q⟩
theorem CallR.or {f : Value} {r r' : List V → Hp → VK → Prop} (h : CallR X f r) (h' : CallR X f r') : CallR X f (fun xs H Q => r xs H Q ∨ r' xs H Q) := by
  intro pins s σ H xs us Q I rv q
  rcases q with q | q
  · exact h pins s σ H xs us Q I rv q
  · exact h' pins s σ H xs us Q I rv q
abbrev dIsi (T : String) (wa : DE) (env : List SD) (P : PyData → List SD → Prop) : Prop := wa env fun d env' => P (.bool (isiB d T)) env'
theorem disi (T : String) (xT : Str) {p q2 : Pos} (hm : X.mg "isinstance" = none) (hmT : X.mg xT = none) (hvT : bootBuiltins xT = some (.type T)) (hT : T ∈ exTypes) (ha : PE X a (liftE X.K Z wa)) (hg : Gl X "isinstance" := by rfl) (hgT : Gl X xT := by rfl)
    (hnT : xT ≠ "__name__" := by decide) (hdT : (xT == ("__debug__" : Str)) = false := by decide)
    (hs1 : starEach [a, .Name xT q2] X.env = (false, eval a X.env) :: starEach [.Name xT q2] X.env := by rfl) (hs2 : starEach [.Name xT q2] X.env = (false, eval (.Name xT q2) X.env) :: starEach [] X.env := by rfl)
    (hpl : (backTo pos (starEach [Expr.Name xT q2] X.env)).any (·.1) = false := by rfl) : PE X (.Call (.Name "isinstance" p) [a, .Name xT q2] [] pos) (liftE X.K Z (dIsi T wa)) :=
  PE.of (pe_callB (call_isi.or call_isE1) hg hm (by decide +kernel) (pa_cons ha (pa_cons (pe_bltn (v := .ty T) hgT hmT hvT rfl hnT hdT) pa_nil hs2) hs1) (by decide) (by decide) hs1 hpl) fun σ H Q h => by
    obtain ⟨g, F, env, P, k, w, q⟩ := h
    refine ⟨g, F, env, _, k, w, fun d env1 v F1 H1 p e1 k1 r1 => ?_⟩
    rcases tyX_of (drH k1 r1) with ty | ⟨a, c, rfl, rfl, hx, x⟩
    · exact .inl ⟨v, .ty T, _, _, _, rfl, .ty T, ty, kit_isi d T hT, q _ env1 _ F1 H1 p e1 k1 (.bl _)⟩
    · refine .inr ⟨a, _, .ty T, _, false, rfl, .ty T, hx, x.cls, x.six T hT, ?_⟩
      have e : isiB (.dict [(.none, .str c)]) T = false := by
        have : ∀ T ∈ exTypes, isiB (.dict [(.none, .str c)]) T = false := by
          intro T hT
          simp only [exTypes, List.mem_cons, List.not_mem_nil, or_false] at hT
          rcases hT with rfl | rfl | rfl | rfl | rfl <;> rfl
        exact this T hT
      rw [e] at p
      exact q _ env1 _ F1 H1 p e1 k1 (.bl _)
end
end DL

namespace DL
variable {T : List (PySem.Addr × PySem.Str)} {Z : Zx T}
open PySem PySem.Spec PyProof.Rows L2
open Evl (Ex)

abbrev DSp := List SD → (SD → List SD → Prop) → Prop
structure ArgsOk (T : List (Addr × Str)) (K : PySem.W.Frag) (F H : Hp) (vs : List V) (as : List SD) : Prop where
  len : as.length = vs.length
  fh : Ex F H
  dat : ∀ (i : Nat) (d : PyData), as[i]? = some (.dat d) → ∃ v, vs[i]? = some v ∧ DR K F v d
  cel : ∀ (i : Nat) (p : Bool) (xs : List PyData), as[i]? = some (.cel p xs) → p = true ∧ ∃ a us, vs[i]? = some (.ref a) ∧ F a = none ∧ H a = some (.lst us) ∧ DRs K F us xs
  sep : ∀ (i j : Nat) (p q : Bool) (xs ys : List PyData) (a : Addr), as[i]? = some (.cel p xs) → as[j]? = some (.cel q ys) → vs[i]? = some (.ref a) → vs[j]? = some (.ref a) → i = j
  nod : ∀ (i : Nat) (w : Own), as[i]? ≠ some (.dic w)
  tab : LamX.Tabs T H
  nt : ∀ a ps, F a ≠ some (.tbl ps)
structure PostOk (T : List (Addr × Str)) (K : PySem.W.Frag) (F H : Hp) (vs : List V) (as : List SD) (F' H' : Hp) (as' : List SD) (v : V) (r : SD) : Prop where
  ex : Ex F F'
  nt : ∀ a ps, F' a ≠ some (.tbl ps)
  fh : Ex F' H'
  newF : ∀ (a : Addr) (o : HO), F' a = some o → F a = some o ∨ H a = none
  frame : Frm T H (fun a => ∀ (i : Nat) (p : Bool) (xs : List PyData), as[i]? = some (.cel p xs) → vs[i]? ≠ some (.ref a)) H'
  cel : ∀ (i : Nat) (p : Bool) (xs : List PyData) (a : Addr), as[i]? = some (.cel p xs) → vs[i]? = some (.ref a) → ∃ ys us, as'[i]? = some (.cel true ys) ∧ F' a = none ∧ H' a = some (.lst us) ∧ DRs K F' us ys
  res : match r with
    | .un => False
    | .dat d => DR K F' v d
    | .cel _ xs => ∃ a us, v = .ref a ∧ F' a = none ∧ H' a = some (.lst us) ∧ DRs K F' us xs ∧ H a = none
    | .dic _ => False
def spD (T : List (Addr × Str)) (K : PySem.W.Frag) (S : DSp) (vs : List V) (H : Hp) (Q : VK) : Prop := ∃ (F : Hp) (as : List SD) (P : SD → List SD → Prop), ArgsOk T K F H vs as ∧ S as P ∧
  ∀ r as' v F' H', P r as' → PostOk T K F H vs as F' H' as' v r → Q v H'
/-- the def at f keeps its promise of data; n: its parameters; it raises nothing -/
structure FnG (P : Program) (w : World) (K : PySem.W.Frag) (mg : Str → Option Value) (base : Heap) (T : List (Addr × Str)) (k : Nat) (f : Addr) (fd : FuncData) (ps : List Str) (S : DSp) : Prop where
  len : ∀ as Q, S as Q → as.length = ps.length
  go : ∀ (A : Around) (outer : List Env) (s : Shared) (H : Hp) (args : Args) (us : List Value) (vs : List V) (Q : VK), Room k A → A.guards = some [] → Env0 P w K mg base A outer s H →
    BindsTo s fd args (ps.zip us) → Vals vs us → spD T K S vs H Q → codeAny (model P w) A (.call (.ref f) args) (CR CX0 outer P w H s Q E0) s
theorem FnG.mono {P : Program} {w : World} {K : PySem.W.Frag} {mg : Str → Option Value} {base : Heap} {j k : Nat} {f : Addr} {fd : FuncData} {ps : List Str} {S : DSp} (F : FnG P w K mg base T j f fd ps S) (h : j ≤ k) : FnG P w K mg base T k f fd ps S :=
  ⟨F.len, fun A outer s H args us vs Q hr => F.go A outer s H args us vs Q (hr.mono h)⟩
/-- another promise, that follows -/
theorem FnG.imp {P : Program} {w : World} {K : PySem.W.Frag} {mg : Str → Option Value} {base : Heap} {k : Nat} {f : Addr} {fd : FuncData} {ps : List Str} {S S' : DSp} (F : FnG P w K mg base T k f fd ps S) (h : ∀ as Q, S' as Q → S as Q) : FnG P w K mg base T k f fd ps S' :=
  ⟨fun as Q q => F.len as Q (h _ _ q), fun A outer s H args us vs Q hr hg e hb r ⟨F0, as, P, a1, a2, a3⟩ => F.go A outer s H args us vs Q hr hg e hb r ⟨F0, as, P, a1, h _ _ a2, a3⟩⟩
section
variable {K : PySem.W.Frag} {g : Gx Z} {F F' : Hp} {env : List SD} {σ : L2.St} {H H' : Hp}
/-- behind a call without cells -/
theorem Ok.after (k : Ok K g F env σ H) {vs : List V} {as as' : List SD} {v : V} {r : SD} (hc : ∀ (i : Nat) (p : Bool) (xs : List PyData), as[i]? ≠ some (.cel p xs)) (p : PostOk T K F H vs as F' H' as' v r) : Ok K g F' env σ H' ∧ ResOk K g F' env σ H' v r := by
  have fr : ∀ (a : Addr) (o : HO), H a = some o → Sty o (H' a) := fun a o e => p.frame.stay a o e fun i q xs z => absurd z (hc i q xs)
  have keepN : ∀ (a : Addr) (o : HO), H a = some o → F a = none → F' a = none := fun a o e n => by
    cases q : F' a with
    | none => rfl
    | some u =>
      rcases p.newF a u q with z | z
      · rw [n] at z; cases z
      · rw [e] at z; cases z
  refine ⟨⟨k.len, p.fh, fun i d e => ?_, fun i q xs e => ?_, k.sep, k.pin, k.frame.trans p.frame fun a o e n i q xs z => absurd z (hc i q xs), fun a o e => ?_, ⟨fun a o e => p.ex a o (k.oldF.1 a o e), p.nt⟩, fun a o e => ?_, (k.dic.keep p.ex (fun _ _ _ z => z) fun a ys e n => ⟨keepN a _ e n, (fr a _ e).ext.trans e.symm⟩)⟩, ?_⟩
  · obtain ⟨u, h1, h2⟩ := k.dat i d e
    exact ⟨u, h1, h2.mono p.ex⟩
  · obtain ⟨a, us, h1, h2, h3, h4, h5⟩ := k.cel i q xs e
    exact ⟨a, us, h1, keepN a _ h3 h2, (fr a _ h3).lst, h4.mono p.ex, h5⟩
  · rcases p.newF a o e with z | z
    · exact k.newF a o z
    · exact .inr (k.fresh0 z)
  · obtain ⟨z1, z2, z3⟩ := k.prot a o e
    exact ⟨(fr a _ z1).same (g.pl a o e), keepN a _ z1 z2, z3⟩
  · have pr := p.res
    cases r with
    | un => exact pr
    | dat d => exact pr
    | dic kvs => exact pr.elim
    | cel b xs =>
      obtain ⟨a, us, h1, h2, h3, h4, h5⟩ := pr
      refine ⟨a, us, h1, h2, h3, h4, k.fresh0 h5, ?_, fun j q ys e z => ?_⟩
      · cases e : g.Pr a with
        | none => rfl
        | some u =>
          have z := (k.prot a u e).1
          rw [h5] at z
          cases z
      · obtain ⟨a', ws, z1, _, z3, _⟩ := k.cel j q ys e
        rw [z] at z1
        cases z1
        rw [h5] at z3
        cases z3
/-- behind a call whose first argument is the cell of the name i -/
theorem Ok.afterC (k : Ok K g F env σ H) {i : Nat} {p : Bool} {xs : List PyData} {a : Addr} {vs : List V} {ds : List PyData} {as' : List SD} {v : V} {r : SD} (he : env[i]? = some (.cel p xs)) (hs : σ[i]? = some (some (.ref a)))
    (q : PostOk T K F H (.ref a :: vs) (.cel true xs :: ds.map .dat) F' H' as' v r) : ∃ ys rest, as' = .cel true ys :: rest ∧ Ok K g F' (env.set i (.cel p ys)) σ H' ∧ ResOk K g F' (env.set i (.cel p ys)) σ H' v r := by
  obtain ⟨a0, us0, b1, b2, b3, b4, b5, b6⟩ := k.cel i p xs he
  rw [hs] at b1
  cases b1
  obtain ⟨ys, us, c1, c2, c3, c4⟩ := q.cel 0 true xs a rfl rfl
  obtain ⟨rest, rfl⟩ : ∃ rest, as' = .cel true ys :: rest := by
    cases as' with
    | nil => simp at c1
    | cons x rest => simp at c1; subst c1; exact ⟨rest, rfl⟩
  have nc : ∀ (b : Addr), b ≠ a → ∀ (j : Nat) (p' : Bool) (xs' : List PyData), (SD.cel true xs :: ds.map SD.dat)[j]? = some (.cel p' xs') → (V.ref a :: vs)[j]? ≠ some (.ref b) := fun b ne j p' xs' z z2 => by
    cases j with
    | zero => simp at z2; exact ne z2.symm
    | succ j =>
      simp only [List.getElem?_cons_succ, List.getElem?_map] at z
      cases y : ds[j]? with
      | none => rw [y] at z; cases z
      | some d => rw [y] at z; cases z
  have fr : ∀ (b : Addr) (o : HO), H b = some o → b ≠ a → Sty o (H' b) := fun b o e ne => q.frame.stay b o e (nc b ne)
  have keepN : ∀ (b : Addr) (o : HO), H b = some o → F b = none → F' b = none := fun b o e n => by
    cases y : F' b with
    | none => rfl
    | some u =>
      rcases q.newF b u y with z | z
      · rw [n] at z; cases z
      · rw [e] at z; cases z
  have oth : ∀ {j : Nat} {p' : Bool} {zs : List PyData}, (env.set i (SD.cel p ys))[j]? = some (.cel p' zs) → ∃ p2 z2, env[j]? = some (.cel p2 z2) := fun {j p' zs} z => by
    rcases get_set z with ⟨rfl, _⟩ | ⟨_, z⟩
    · exact ⟨_, _, he⟩
    · exact ⟨_, _, z⟩
  refine ⟨ys, rest, rfl, ⟨by simp [k.len], q.fh, fun j d e => ?_, fun j p' zs e => ?_, fun j l p1 p2 z1 z2 c h1 h2 h3 h4 => ?_, fun j b e => ?_, k.frame.trans q.frame (fun b o e n => nc b ?_), fun b o e => ?_, ⟨fun b o e => q.ex b o (k.oldF.1 b o e), q.nt⟩, fun b o e => ?_, ((k.dic.setE (i := i) (x := .cel p ys) fun _ z => by cases z).keep q.ex (fun _ _ _ z => z) fun b zs e n => ⟨keepN b _ e n, (fr b _ e fun z => by rw [z, b3] at e; cases e).ext.trans e.symm⟩)⟩, ?_⟩
  · rcases get_set e with ⟨_, z⟩ | ⟨_, z⟩
    · cases z
    · obtain ⟨u, h1, h2⟩ := k.dat j d z
      exact ⟨u, h1, h2.mono q.ex⟩
  · rcases get_set e with ⟨rfl, z⟩ | ⟨n, z⟩
    · cases z
      exact ⟨a, us, hs, c2, c3, c4, b5, b6⟩
    · obtain ⟨b, ws, h1, h2, h3, h4, h5⟩ := k.cel j _ zs z
      have ne : b ≠ a := fun y => by
        subst y
        exact n (k.sep i j _ _ _ _ b he z hs h1)
      exact ⟨b, ws, h1, keepN b _ h3 h2, (fr b _ h3 ne).lst, h4.mono q.ex, h5⟩
  · obtain ⟨_, _, f1⟩ := oth h1
    obtain ⟨_, _, f2⟩ := oth h2
    exact k.sep j l _ _ _ _ c f1 f2 h3 h4
  · obtain ⟨zs, z⟩ := k.pin j b e
    by_cases n : i = j
    · subst n
      rw [he] at z
      cases z
      exact ⟨ys, set_eq he⟩
    · exact ⟨zs, by rw [set_ne n]; exact z⟩
  · intro z
    subst z
    cases p with
    | true => exact n i (b5 rfl)
    | false =>
      rw [b6 rfl] at e
      cases e
  · rcases q.newF b o e with z | z
    · exact k.newF b o z
    · exact .inr (k.fresh0 z)
  · obtain ⟨z1, z2, z3⟩ := k.prot b o e
    have ne : b ≠ a := fun z => by
      subst z
      exact z3 i p xs he hs
    refine ⟨(fr b _ z1 ne).same (g.pl b o e), keepN b _ z1 z2, fun j p' zs e' => ?_⟩
    obtain ⟨_, _, f1⟩ := oth e'
    exact z3 j _ _ f1
  · have pr := q.res
    cases r with
    | un => exact pr
    | dat d => exact pr
    | dic kvs => exact pr.elim
    | cel b xs2 =>
      obtain ⟨c, ws, h1, h2, h3, h4, h5⟩ := pr
      refine ⟨c, ws, h1, h2, h3, h4, k.fresh0 h5, ?_, fun j p' zs e z => ?_⟩
      · cases e : g.Pr c with
        | none => rfl
        | some u =>
          have z := (k.prot c u e).1
          rw [h5] at z
          cases z
      · obtain ⟨_, _, f1⟩ := oth e
        obtain ⟨a', ws', z1, _, z3, _⟩ := k.cel j _ _ f1
        rw [z] at z1
        cases z1
        rw [h5] at z3
        cases z3
theorem args_dat (hf : Ex F H) (tb : LamX.Tabs T H) (nt : ∀ a ps, F a ≠ some (.tbl ps)) {vs : List V} {ds : List PyData} (r : DRs K F vs ds) : ArgsOk T K F H vs (ds.map .dat) where
  len := by rw [List.length_map]; exact r.length.symm
  fh := hf
  dat := fun i d e => by
    rw [List.getElem?_map] at e
    cases q : ds[i]? with
    | none => rw [q] at e; cases e
    | some x =>
      rw [q] at e
      cases e
      exact r.get q
  cel := fun i p xs e => by
    rw [List.getElem?_map] at e
    cases q : ds[i]? with
    | none => rw [q] at e; cases e
    | some x => rw [q] at e; cases e
  sep := fun i j p q xs ys a e => by
    rw [List.getElem?_map] at e
    cases q : ds[i]? with
    | none => rw [q] at e; cases e
    | some x => rw [q] at e; cases e
  nod := fun i kvs e => by
    rw [List.getElem?_map] at e
    cases q : ds[i]? with
    | none => rw [q] at e; cases e
    | some x => rw [q] at e; cases e
  tab := tb
  nt := nt
theorem no_cel {ds : List PyData} (i : Nat) (p : Bool) (xs : List PyData) : (ds.map SD.dat)[i]? ≠ some (.cel p xs) := fun e => by
  rw [List.getElem?_map] at e
  cases q : ds[i]? with
  | none => rw [q] at e; cases e
  | some x => rw [q] at e; cases e
theorem args_cel (hf : Ex F H) (tb : LamX.Tabs T H) (nt : ∀ a ps, F a ≠ some (.tbl ps)) {a : Addr} {us : List V} {xs : List PyData} {vs : List V} {ds : List PyData} (hF : F a = none) (hH : H a = some (.lst us)) (rx : DRs K F us xs) (r : DRs K F vs ds) : ArgsOk T K F H (.ref a :: vs) (.cel true xs :: ds.map .dat) := by
  have b := args_dat hf tb nt r
  refine ⟨by simp [r.length], hf, fun i d e => ?_, fun i p zs e => ?_, fun i j p q zs ys c e1 e2 _ _ => ?_, fun i kvs e => ?_, tb, nt⟩
  · cases i with
    | zero => simp at e
    | succ i =>
      obtain ⟨v, h1, h2⟩ := b.dat i d (by simpa using e)
      exact ⟨v, by simpa using h1, h2⟩
  · cases i with
    | zero =>
      simp at e
      obtain ⟨rfl, rfl⟩ := e
      exact ⟨rfl, a, us, rfl, hF, hH, rx⟩
    | succ i => exact absurd (by simpa using e) (no_cel (ds := ds) i p zs)
  · cases i with
    | succ i => exact absurd (by simpa using e1) (no_cel (ds := ds) i p zs)
    | zero =>
      cases j with
      | zero => rfl
      | succ j => exact absurd (by simpa using e2) (no_cel (ds := ds) j q ys)
  · cases i with
    | zero => simp at e
    | succ i => exact b.nod i kvs (by simpa using e)
end

section
variable {X : Cx} {k : Nat} {f : Addr} {fd : FuncData} {ps : List Str} {S : DSp} {x : Str} {p pos : Pos} {e : Expr} {es : List Expr} {was : DA}
/-- the callee runs -/
theorem run_g {pins : List (Addr × Obj)} {σ : L2.St} {H : Hp} {s : Shared} {Q : VK} {us : List Value} {vs : List V} (G : FnG X.prog X.w X.K X.mg X.base T k f fd ps S) (hr : Room k X.A) (hg : X.A.guards = some []) (hb : Binds X.K fd ps [])
    (I : Inv X pins σ H s) (r : Vals vs us) (h : spD T X.K S vs H Q) : wpAny (model X.prog X.w) X.A (call (.ref f) us) (EP X pins σ Q) X.xe s := by
  obtain ⟨F0, as, P, a1, a2, a3⟩ := id h
  have hl : (us ++ ([] : List Value)).length = ps.length := by rw [List.append_nil, ← r.length, ← a1.len]; exact G.len _ _ a2
  have hbb := hb s us I.kIn hl
  rw [List.append_nil] at hbb
  refine wpAny_call (codeAny_mono (G.go X.A X.stack s H ⟨us, []⟩ us vs Q hr hg I.env0 hbb r h) fun res s' hq => ?_)
  match res, hq with
  | .error e, hq => exact hq.elim
  | .ok (.ret u), hq => exact I.after hq
  | .ok .next, hq => exact hq.elim
  | .ok .brk, hq => exact hq.elim
  | .ok .cont, hq => exact hq.elim
/-- f(..), all arguments data -/
abbrev dCall (S : DSp) (was : DA) (env : List SD) (P : SD → List SD → Prop) : Prop := was env fun ds env1 => S (ds.map .dat) fun r _ => P r env1
theorem dcall (G : FnG X.prog X.w X.K X.mg X.base T k f fd ps S) (hr : Room k X.A) (hA : X.A.guards = some []) (hm : X.mg x = some (.ref f)) (hk : PySem.W.keepIn X.K (.ref f) = true) (hb : Binds X.K fd ps [])
    (ha : PA X (e :: es) (liftA X.K Z was)) (hg : Gl X x := by rfl) (hdb : (x == ("__debug__" : Str)) = false := by decide)
    (he : starEach (e :: es) X.env = (false, eval e X.env) :: starEach es X.env := by rfl) (hpl : (backTo pos (starEach es X.env)).any (·.1) = false := by rfl) : PE X (.Call (.Name x p) (e :: es) [] pos) (liftX X.K Z (dCall S was)) := by
  refine ⟨fun pins s σ H Q I ⟨g, F, env, P, k0, w, q⟩ => wpAny_Call_Name_kw (ld_glob I hg hm (PySem.W.callWith_K (h₀ := X.base) I.ok.mod.kin hk (thn (ha.run pos pins s σ H (spD T X.K S · · Q) I ?_) fun us s1 ⟨vs, H1, I1, r, q1⟩ => ⟨I1.kIn, run_g G hr hA hb I1 r q1⟩) he hpl) hdb)⟩
  refine ⟨g, F, env, _, k0, w, fun ds env1 vs F1 H1 p1 e1 k1 r1 => ⟨F1, ds.map .dat, _, args_dat k1.fh k1.frame.tab k1.oldF.2 r1, p1, fun r as' v F2 H2 p2 po => ?_⟩⟩
  obtain ⟨k2, r2⟩ := k1.after no_cel po
  exact q r env1 v F2 H2 p2 (e1.trans po.ex) k2 r2
/-- f(x, ..), x the name i's own cell, which f may change -/
abbrev dCallC (S : DSp) (i : Nat) (was : DA) (env : List SD) (P : SD → List SD → Prop) : Prop := match env[i]? with
  | some (.cel _ _) => was env fun ds env1 => match env1[i]? with
    | some (.cel p xs) => S (.cel true xs :: ds.map .dat) fun r as' => match as' with
      | .cel _ ys :: _ => P r (env1.set i (.cel p ys))
      | _ => False
    | _ => False
  | _ => False
theorem dcallC (i : Nat) {y : Str} {p0 : Pos} (G : FnG X.prog X.w X.K X.mg X.base T k f fd ps S) (hr : Room k X.A) (hA : X.A.guards = some []) (hm : X.mg x = some (.ref f)) (hk : PySem.W.keepIn X.K (.ref f) = true) (hb : Binds X.K fd ps [])
    (ha : PA X es (liftA X.K Z was)) (hN : X.N[i]? = some y := by rfl) (hv : Vis X.env.scope y := by first | exact Or.inl rfl | exact Or.inr (Or.inl rfl) | exact Or.inr (Or.inr rfl)) (hd : (y == ("__debug__" : Str)) = false := by decide)
    (hcd : (y == ("__classdict__" : Str)) = false := by decide) (hg : Gl X x := by rfl) (hdb : (x == ("__debug__" : Str)) = false := by decide)
    (he : starEach (.Name y p0 :: es) X.env = (false, eval (.Name y p0) X.env) :: starEach es X.env := by rfl) (hpl : (backTo pos (starEach es X.env)).any (·.1) = false := by rfl) :
    PE X (.Call (.Name x p) (.Name y p0 :: es) [] pos) (liftX X.K Z (dCallC S i was)) := by
  refine ⟨fun pins s σ H Q I ⟨g, F, env, P, k0, w, q⟩ => wpAny_Call_Name_kw (ld_glob I hg hm (PySem.W.callWith_K (h₀ := X.base) I.ok.mod.kin hk (thn ((pa_cons (pe_var hN hv hd hcd) ha he).run pos pins s σ H (spD T X.K S · · Q) I ?_) fun us s1 ⟨vs, H1, I1, r, q1⟩ => ⟨I1.kIn, run_g G hr hA hb I1 r q1⟩) he hpl) hdb)⟩
  unfold dCallC at w
  split at w
  · rename_i p' xs' e0
    obtain ⟨a0, us0, b1, _⟩ := k0.cel i p' xs' e0
    refine ⟨_, b1, g, F, env, _, k0, w, fun ds env1 vs F1 H1 p1 e1 k1 r1 => ?_⟩
    split at p1
    · rename_i p2 xs ex
      obtain ⟨a1, us1, c1, c2, c3, c4, _⟩ := k1.cel i p2 xs ex
      rw [b1] at c1
      cases c1
      refine ⟨F1, _, _, args_cel k1.fh k1.frame.tab k1.oldF.2 c2 c3 c4 r1, p1, fun r as' v F2 H2 p3 po => ?_⟩
      obtain ⟨ys, rest, rfl, k2, r2⟩ := k1.afterC ex b1 po
      exact q r _ v F2 H2 p3 (e1.trans po.ex) k2 r2
    · exact p1.elim
  · exact w.elim
end

structure DEnds where
  nx : List SD → Prop
  rt : SD → List SD → Prop
  bk : List SD → Prop := fun _ => False
  ct : List SD → Prop := fun _ => False
  nol : Bool := false
abbrev DS := DEnds → List SD → Prop
structure Ends4 (K : PySem.W.Frag) (m : Nat) (g : Gx Z) (F : Hp) (P : DEnds) (D : Ends) : Prop where
  nx : ∀ env' σ' F' H', P.nx env' → Ex F F' → Ok K g F' env' σ' H' → D.nx σ' H'
  bk : ∀ env' σ' F' H', P.bk env' → Ex F F' → Ok K g F' env' σ' H' → D.bk σ' H'
  ct : ∀ env' σ' F' H', P.ct env' → Ex F F' → Ok K g F' env' σ' H' → D.ct σ' H'
  rt : ∀ r env' v σ' F' H', P.rt r (env'.take m) → Ex F F' → Ok K g F' env' σ' H' → ResOk K g F' env' σ' H' v r → D.rt v H'
/-- P.nol: no list stood at the def's begin -/
structure EndsOk (K : PySem.W.Frag) (m : Nat) (g : Gx Z) (F : Hp) (P : DEnds) (D : Ends) : Prop extends Ends4 K m g F P D where
  free : P.nol = true → (∀ a, g.F0 a = none) ∧ ∀ F', Ends4 K m g F' P D
theorem EndsOk.any {K : PySem.W.Frag} {m : Nat} {g : Gx Z} {F : Hp} {P : DEnds} {D : Ends} (h : EndsOk K m g F P D) (n : P.nol = true) (F' : Hp) : EndsOk K m g F' P D := ⟨(h.free n).2 F', h.free⟩
theorem EndsOk.mk4 {K : PySem.W.Frag} {m : Nat} {g : Gx Z} {F : Hp} {P : DEnds} {D : Ends} (h : Ends4 K m g F P D) (n : P.nol = false) : EndsOk K m g F P D := ⟨h, fun z => by rw [n] at z; cases z⟩
def liftS (K : PySem.W.Frag) (Z : Zx T) (m : Nat) (w : DS) : TS := fun D σ H => ∃ (g : Gx Z) (F : Hp) (env : List SD) (P : DEnds), Ok K g F env σ H ∧ w P env ∧ EndsOk K m g F P D
theorem EndsOk.ex {K : PySem.W.Frag} {m : Nat} {g : Gx Z} {F F' : Hp} {P : DEnds} {D : Ends} (h : EndsOk K m g F P D) (e : Ex F F') : EndsOk K m g F' P D :=
  ⟨⟨fun a b c d p x => h.nx a b c d p (e.trans x), fun a b c d p x => h.bk a b c d p (e.trans x), fun a b c d p x => h.ct a b c d p (e.trans x), fun a b c d f g' p x => h.rt a b c d f g' p (e.trans x)⟩, h.free⟩
section
variable {X : Cx} {st : Stmt} {sts : List Stmt} {w w2 : DS} {m : Nat} {e : Expr} {we : DE} {wx : DX} {pos : Pos}
abbrev dNext (E : DEnds) (env : List SD) : Prop := E.nx env
abbrev dSeq (w w2 : DS) (E : DEnds) (env : List SD) : Prop := w { E with nx := w2 E } env
abbrev dNever (_ : DEnds) (_ : List SD) : Prop := False
theorem snil : PSs X [] (liftS X.K Z m dNext) := PSs.of pss_nil fun D σ H ⟨g, F, env, P, k, w, q⟩ => q.nx env σ F H w (Ex.refl F) k
theorem scons (h1 : PS X st (liftS X.K Z m w)) (h2 : PSs X sts (liftS X.K Z m w2)) : PSs X (st :: sts) (liftS X.K Z m (dSeq w w2)) := PSs.of (pss_cons h1 h2) fun D σ H ⟨g, F, env, P, k, w, q⟩ =>
  ⟨g, F, env, _, k, w, ⟨⟨fun env' σ' F' H' p e k' => ⟨g, F', env', P, k', p, q.ex e⟩, q.bk, q.ct, q.rt⟩, fun n => ⟨(q.free n).1, fun F2 => ⟨fun env' σ' F' H' p e k' => ⟨g, F', env', P, k', p, q.any n F'⟩, ((q.free n).2 F2).bk, ((q.free n).2 F2).ct, ((q.free n).2 F2).rt⟩⟩⟩⟩
theorem sone (h1 : PS X st (liftS X.K Z m w)) : PSs X [st] (liftS X.K Z m w) := pss_one h1
theorem snever : PS X st (liftS X.K Z m dNever) := PS.of ps_never fun D σ H ⟨g, F, env, P, k, w, q⟩ => w
/-- a name that is no parameter's cell -/
def npB : SD → Bool
  | .cel true _ => false
  | _ => true
def noPar (env : List SD) (i : Nat) : Bool := match env[i]? with
  | some r => npB r
  | none => true
theorem noPar_of {env : List SD} {i : Nat} (h : noPar env i = true) : NoPar env i := fun xs e => by
  unfold noPar at h
  rw [e] at h
  cases h
theorem Ok.setR {K : PySem.W.Frag} {g : Gx Z} {F : Hp} {env : List SD} {σ : L2.St} {H : Hp} {i : Nat} {v : V} {r : SD} (k : Ok K g F env σ H) (hp : noPar env i = true) (h : ResOk K g F env σ H v r) (hr : ∀ xs, r ≠ .cel true xs) : Ok K g F (env.set i r) (σ.set i (some v)) H := by
  cases r with
  | un => exact h.elim
  | dat d => exact k.setD (noPar_of hp) h
  | cel b xs =>
    obtain ⟨a, vs, rfl, h1, h2, h3, h4, h5, h6⟩ := h
    cases b with
    | true => exact absurd rfl (hr xs)
    | false => exact k.setC (noPar_of hp) h1 h2 h3 h4 h5 h6
  | dic kvs => exact h.elim
/-- what a new cell is called -/
def asOwn : SD → SD
  | .cel _ xs => .cel false xs
  | r => r
theorem res_own {K : PySem.W.Frag} {g : Gx Z} {F : Hp} {env : List SD} {σ : L2.St} {H : Hp} {v : V} {r : SD} (h : ResOk K g F env σ H v r) : ResOk K g F env σ H v (asOwn r) := by
  cases r <;> exact h
theorem own_ne {r : SD} (xs : List PyData) : asOwn r ≠ .cel true xs := by
  cases r <;> (intro h; cases h)
/-- name = e -/
abbrev dSet (i : Nat) (wx : DX) (E : DEnds) (env : List SD) : Prop := wx env fun r env1 => bIf (noPar env1 i) (E.nx (env1.set i (asOwn r))) False
theorem sset (i : Nat) {x : Str} {pos' : Pos} (hN : X.N.Nodup) (he : PE X e (liftX X.K Z wx)) (hi : X.N[i]? = some x := by rfl) (hx : Loc X.env.scope x := by first | exact Or.inl rfl | exact Or.inr rfl) (hs : swapsWith e (some (.Name x pos')) pos.line X.env = pure false := by rfl)
    (hf : X.fn x = true ∨ X.env.scope.names.lookup x = some .local := by first | exact .inl rfl | exact .inr rfl) : PS X (.Assign [.Name x pos'] e pos) (liftS X.K Z m (dSet i wx)) := PS.of (ps_set hN hi hx he hs hf) fun D σ H ⟨g, F, env, P, k, w, q⟩ =>
  ⟨g, F, env, _, k, w, fun r env1 v F1 H1 p e1 k1 r1 => q.nx _ _ F1 H1 (bIf_and p).2 e1 (k1.setR (bIf_and p).1 (res_own r1) own_ne)⟩
/-- return e -/
abbrev dRet (m : Nat) (wx : DX) (E : DEnds) (env : List SD) : Prop := wx env fun r env1 => E.rt (asOwn r) (env1.take m)
theorem sret (he : PE X e (liftX X.K Z wx)) : PS X (.Return (some e) pos) (liftS X.K Z m (dRet m wx)) := PS.of (ps_ret he) fun D σ H ⟨g, F, env, P, k, w, q⟩ =>
  ⟨g, F, env, _, k, w, fun r env1 v F1 H1 p e1 k1 r1 => q.rt _ env1 v σ F1 H1 p e1 k1 (res_own r1)⟩
/-- an expression for what it does -/
abbrev dDrop (wx : DX) (E : DEnds) (env : List SD) : Prop := wx env fun _ env1 => E.nx env1
theorem sexpr (he : PE X e (liftX X.K Z wx)) (hs : swapsWith e none pos.line X.env = pure false := by rfl) : PS X (.Expr e pos) (liftS X.K Z m (dDrop wx)) := PS.of (ps_expr he hs) fun D σ H ⟨g, F, env, P, k, w, q⟩ =>
  ⟨g, F, env, _, k, w, fun r env1 v F1 H1 p e1 k1 _ => q.nx env1 σ F1 H1 p e1 k1⟩
abbrev dIfS (t : DT) (w w2 : DS) (E : DEnds) (env : List SD) : Prop := t env fun b env1 => bIf b (w E env1) (w2 E env1)
theorem sif {c : Expr} {a b : List Stmt} {t : DT} (hc : PT X c (liftT X.K Z t)) (ha : PSs X a (liftS X.K Z m w)) (hb : PSs X b (liftS X.K Z m w2)) : PS X (.If c a b pos) (liftS X.K Z m (dIfS t w w2)) := PS.of (ps_if hc ha hb) fun D σ H ⟨g, F, env, P, k, w, q⟩ =>
  ⟨g, F, env, _, k, w, fun b env1 F1 H1 p e1 k1 => by
    cases b with
    | true => exact iteT ⟨g, F1, env1, P, k1, p, q.ex e1⟩
    | false => exact iteF ⟨g, F1, env1, P, k1, p, q.ex e1⟩⟩
theorem Ok.drop {K : PySem.W.Frag} {g : Gx Z} {F : Hp} {env : List SD} {σ : L2.St} {H : Hp} {i : Nat} {xs : List PyData} (k : Ok K g F env σ H) (he : env[i]? = some (.cel false xs)) : ∃ a, σ[i]? = some (some (.ref a)) ∧ Ok K g F (env.set i .un) σ H ∧ ResOk K g F (env.set i .un) σ H (.ref a) (.cel false xs) := by
  obtain ⟨a, vs, h1, h2, h3, h4, _, h6⟩ := k.cel i false xs he
  have np : NoPar env i := fun ys z => by rw [he] at z; cases z
  have k2 := k.setU (o := some (.ref a)) np
  have e : σ.set i (some (.ref a)) = σ := List.ext_getElem? fun j => by
    rw [List.getElem?_set]
    split
    · rename_i z
      subst z
      split
      · exact h1.symm
      · rename_i z
        exact absurd (List.getElem?_eq_some_iff.mp h1).1 z
    · rfl
  rw [e] at k2
  refine ⟨a, h1, k2, a, vs, rfl, h2, h3, h4, h6 rfl, ?_, fun j p ys hj z => ?_⟩
  · cases q : g.Pr a with
    | none => rfl
    | some u => exact absurd h1 ((k.prot a u q).2.2 i false xs he)
  · rcases get_set hj with ⟨_, q⟩ | ⟨n, q⟩
    · cases q
    · exact n (k.sep i j _ _ _ _ a he q h1 z)
/-- slots that are not to be known any more -/
def unS : List Nat → List SD → List SD
  | [], env => env
  | i :: is, env => match env[i]? with
    | some (.dat _) => unS is (env.set i .un)
    | some (.cel false _) => unS is (env.set i .un)
    | _ => unS is env
theorem Ok.unS {K : PySem.W.Frag} {g : Gx Z} {F : Hp} {σ : L2.St} {H : Hp} : ∀ {is : List Nat} {env : List SD}, Ok K g F env σ H → Ok K g F (unS is env) σ H
  | [], _, k => k
  | i :: is, env, k => by
    have go : NoPar env i → Ok K g F (env.set i .un) σ H := fun np => by
      by_cases hi : i < σ.length
      · have k2 := k.setU (o := σ[i]) np
        rw [List.set_getElem_self] at k2
        exact k2
      · have k2 := k.setU (o := none) np
        rw [show σ.set i none = σ from List.set_eq_of_length_le (Nat.le_of_not_lt hi)] at k2
        exact k2
    unfold DL.unS
    split
    · rename_i d e
      exact (go fun xs z => by rw [e] at z; cases z).unS
    · rename_i xs e
      exact (go fun ys z => by rw [e] at z; cases z).unS
    · exact k.unS
abbrev dForget (is : List Nat) (w : DS) (E : DEnds) (env : List SD) : Prop := w E (unS is env)
theorem ssforget (is : List Nat) (h : PSs X sts (liftS X.K Z m w)) : PSs X sts (liftS X.K Z m (dForget is w)) := PSs.of h fun D σ H ⟨g, F, env, P, k, w, q⟩ => ⟨g, F, _, P, k.unS, w, q⟩
end
end DL

namespace DL
variable {T : List (PySem.Addr × PySem.Str)} {Z : Zx T}
open PySem PySem.Spec PyProof.Rows L2
open Evl (Ex)

section
variable {X : Cx} {st : Stmt} {sts : List Stmt} {w w2 : DS} {m : Nat} {a b e : Expr} {es : List Expr} {wa wb we : DE} {wx : DX} {pos : Pos} {was : DA}
abbrev DG := PyData → List SD → (List SD → Prop) → Prop
/-- what goes to a target; with b (a tuple as the target) the tuple's object needn't be known -/
def DRw (K : PySem.W.Frag) (b : Bool) (F : Hp) (v : V) (d : PyData) : Prop := DR K F v d ∨ (b = true ∧ ∃ T xs ds, v = .ref T ∧ d = .tuple ds ∧ SqT K F T xs ∧ DRs K F xs ds)
theorem DRw.tup {K : PySem.W.Frag} {b : Bool} {F : Hp} {v : V} {ds : List PyData} (h : DRw K b F v (.tuple ds)) : ∃ a xs, v = .ref a ∧ SqT K F a xs ∧ DRs K F xs ds := by
  rcases h with h | ⟨_, T, xs, es, h1, h2, h3, h4⟩
  · exact h.inv_tup
  · cases h2
    exact ⟨T, xs, h1, h3, h4⟩
theorem DRw.non {K : PySem.W.Frag} {F : Hp} {v : V} {d : PyData} (h : DRw K false F v d) : DR K F v d := by
  rcases h with h | ⟨h, _⟩
  · exact h
  · cases h
def liftG (K : PySem.W.Frag) (Z : Zx T) (b : Bool) (w : DG) : TG := fun v σ H Q => ∃ (g : Gx Z) (F : Hp) (env : List SD) (d : PyData) (P : List SD → Prop), Ok K g F env σ H ∧ DRw K b F v d ∧ w d env P ∧
  ∀ env' σ' F' H', P env' → Ex F F' → Ok K g F' env' σ' H' → Q σ' H'
abbrev DGs := List PyData → List SD → (List SD → Prop) → Prop
def liftGs (K : PySem.W.Frag) (Z : Zx T) (w : DGs) : TGs := fun vs σ H Q => ∃ (g : Gx Z) (F : Hp) (env : List SD) (ds : List PyData) (P : List SD → Prop), Ok K g F env σ H ∧ DRs K F vs ds ∧ w ds env P ∧
  ∀ env' σ' F' H', P env' → Ex F F' → Ok K g F' env' σ' H' → Q σ' H'
theorem PG.of {t t' : TG} (h : PG X e t) (w : ∀ v σ H Q, t' v σ H Q → t v σ H Q) : PG X e t' := ⟨fun pins s σ H v u Q I r q => h.run pins s σ H v u Q I r (w v σ H Q q)⟩
theorem PGs.of {t t' : TGs} (h : PGs X es t) (w : ∀ v σ H Q, t' v σ H Q → t v σ H Q) : PGs X es t' := ⟨fun pins s σ H v u Q I r q => h.run pins s σ H v u Q I r (w v σ H Q q)⟩
def dgN (i : Nat) (d : PyData) (env : List SD) (P : List SD → Prop) : Prop := bIf (noPar env i) (P (env.set i (.dat d))) False
theorem gn (i : Nat) {x : Str} (hN : X.N.Nodup) (hi : X.N[i]? = some x := by rfl) (hx : Loc X.env.scope x := by first | exact Or.inl rfl | exact Or.inr rfl)
    (hf : X.fn x = true ∨ X.env.scope.names.lookup x = some .local := by first | exact .inl rfl | exact .inr rfl) : PG X (.Name x pos) (liftG X.K Z false (dgN i)) := PG.of (pg_name hN hi hx hf) fun v σ H Q ⟨g, F, env, d, P, k, r, w, q⟩ =>
  q _ _ F H (bIf_and w).2 (Ex.refl F) (k.setD (noPar_of (bIf_and w).1) r.non)
def nilQ (ds : List PyData) (p : Prop) : Prop := match ds with
  | [] => p
  | _ :: _ => False
def consQ (ds : List PyData) (K : PyData → List PyData → Prop) : Prop := match ds with
  | d :: r => K d r
  | [] => False
def tupQ (d : PyData) (K : List PyData → Prop) : Prop := match d with
  | .tuple ds => K ds
  | _ => False
theorem nilQ_inv {ds : List PyData} {p : Prop} (h : nilQ ds p) : ds = [] ∧ p := by
  cases ds
  · exact ⟨rfl, h⟩
  · exact h.elim
theorem consQ_inv {ds : List PyData} {K : PyData → List PyData → Prop} (h : consQ ds K) : ∃ d r, ds = d :: r ∧ K d r := by
  cases ds
  · exact h.elim
  · exact ⟨_, _, rfl, h⟩
theorem tupQ_inv {d : PyData} {K : List PyData → Prop} (h : tupQ d K) : ∃ ds, d = .tuple ds ∧ K ds := by
  cases d <;> first | exact ⟨_, rfl, h⟩ | exact h.elim
def dgNil (ds : List PyData) (env : List SD) (P : List SD → Prop) : Prop := nilQ ds (P env)
def dgCons (t : DG) (u : DGs) (ds : List PyData) (env : List SD) (P : List SD → Prop) : Prop := consQ ds fun d r => t d env fun env1 => u r env1 P
theorem gnil : PGs X [] (liftGs X.K Z dgNil) := PGs.of pgs_nil fun v σ H Q ⟨g, F, env, ds, P, k, r, w, q⟩ => by
  obtain ⟨rfl, w⟩ := nilQ_inv w
  cases r
  exact ⟨rfl, q env σ F H w (Ex.refl F) k⟩
theorem gcons {t : DG} {u : DGs} {bb : Bool} (h1 : PG X e (liftG X.K Z bb t)) (h2 : PGs X es (liftGs X.K Z u)) (hs : (assignEach (e :: es) X.env).map (·.2) = assign e X.env :: (assignEach es X.env).map (·.2) := by rfl) : PGs X (e :: es) (liftGs X.K Z (dgCons t u)) :=
  PGs.of (pgs_cons h1 h2 hs) fun v σ H Q ⟨g, F, env, ds, P, k, r, w, q⟩ => by
    obtain ⟨d, r0, rfl, w⟩ := consQ_inv w
    cases r with
    | cons r1 r2 =>
        exact ⟨_, _, rfl, g, F, env, _, _, k, .inl r1, w, fun env1 σ1 F1 H1 p e1 k1 => ⟨g, F1, env1, _, P, k1, r2.mono e1, p, fun env2 σ2 F2 H2 p2 e2 k2 => q env2 σ2 F2 H2 p2 (e1.trans e2) k2⟩⟩
def dgT (n : Nat) (t : DGs) (d : PyData) (env : List SD) (P : List SD → Prop) : Prop := tupQ d fun ds => t ds env P
/-- a target that takes a datum goes on -/
def GOk (t : DG) : Prop := ∀ d env P, t d env P → ∃ env1, P env1
def GLen (t : DGs) (n : Nat) : Prop := ∀ ds env P, t ds env P → ds.length = n ∧ ∃ env1, P env1
theorem gok_n {i : Nat} : GOk (dgN i) := fun d env P h => ⟨_, (bIf_and h).2⟩
theorem gl_nil : GLen dgNil 0 := fun ds env P h => by
  obtain ⟨rfl, h⟩ := nilQ_inv h
  exact ⟨rfl, env, h⟩
theorem gl_cons {t : DG} {u : DGs} {n : Nat} (h1 : GOk t) (h2 : GLen u n) : GLen (dgCons t u) (n + 1) := fun ds env P h => by
  obtain ⟨d, r, rfl, h⟩ := consQ_inv h
  obtain ⟨env1, h⟩ := h1 _ _ _ h
  obtain ⟨e, h⟩ := h2 _ _ _ h
  exact ⟨by simp [e], h⟩
theorem gtup {k n : Nat} {t : DGs} (hl : GLen t n) (hc : X.calm = true) (h : PGs X es (liftGs X.K Z t)) (hn : (assignEach es X.env).length = n := by rfl) (hst : (assignEach es X.env).findIdx? (·.1) = none := by rfl) : PG X (.Tuple es k pos) (liftG X.K Z true (dgT n t)) :=
  PG.of (pg_tup hc h hn hst) fun v σ H Q ⟨g, F, env, d, P, k, r, w, q⟩ => by
    obtain ⟨ds, rfl, w⟩ := tupQ_inv w
    obtain ⟨a, xs, rfl, h1, h2⟩ := r.tup
    exact ⟨a, xs, rfl, Evl.ex_t k.fh h1, h2.length.trans (hl _ _ _ w).1, g, F, env, _, P, k, h2, w, q⟩
/-- target = e, of a datum -/
abbrev dAsg (t : DG) (we : DE) (E : DEnds) (env : List SD) : Prop := we env fun d env1 => t d env1 E.nx
theorem sasg {tg : Expr} {t : DG} {bb : Bool} (he : PE X e (liftE X.K Z we)) (hg : PG X tg (liftG X.K Z bb t)) (hs : swapsWithSole [tg] e pos.line X.env = pure false := by rfl) (hw : swappedStores [tg] e X.env = pure none := by rfl)
    (h1 : (assignEach [tg] X.env).map (·.2) = [assign tg X.env] := by rfl) : PS X (.Assign [tg] e pos) (liftS X.K Z m (dAsg t we)) := PS.of (ps_asg he hg hs hw h1) fun D σ H ⟨g, F, env, P, k, w, q⟩ =>
  ⟨g, F, env, _, k, w, fun d env1 v F1 H1 p e1 k1 r1 => ⟨g, F1, env1, d, _, k1, .inl r1, p, fun env2 σ2 F2 H2 p2 e2 k2 => q.nx env2 σ2 F2 H2 p2 (e1.trans e2) k2⟩⟩
/-- x, y = e, f -/
abbrev dPar (i j : Nat) (was : DA) (E : DEnds) (env : List SD) : Prop := was env fun ds env1 => match ds with
  | [d, c] => bIf (noPar env1 i && noPar env1 j) (E.nx ((env1.set i (.dat d)).set j (.dat c))) False
  | _ => False
theorem noPar_set {env : List SD} {i j : Nat} {d : PyData} (h : noPar env j = true) : noPar (env.set i (.dat d)) j = true := by
  unfold noPar at h ⊢
  rw [List.getElem?_set]
  by_cases z : i = j
  · rw [if_pos z]
    by_cases y : i < env.length
    · rw [if_pos y]
      rfl
    · rw [if_neg y]
  · rw [if_neg z]
    exact h
theorem spar (i j : Nat) {x y : Str} {px py pt : Pos} {kt k2 pt2} (hc : X.calm = true) (hN : X.N.Nodup) (ha : PA X [a, b] (liftA X.K Z was)) (hi : X.N[i]? = some x := by rfl) (hj : X.N[j]? = some y := by rfl) (hij : i ≠ j := by decide)
    (hx : X.env.scope.names.lookup x = some .local := by rfl) (hy : X.env.scope.names.lookup y = some .local := by rfl)
    (hw : swappedStores [.Tuple [.Name x px, .Name y py] kt pt] (.Tuple [a, b] k2 pt2) X.env = pure (some [x, y]) := by rfl)
    (hs : swapsWithSole [.Tuple [.Name x px, .Name y py] kt pt] (.Tuple [a, b] k2 pt2) pos.line X.env = pure false := by rfl) :
    PS X (.Assign [.Tuple [.Name x px, .Name y py] kt pt] (.Tuple [a, b] k2 pt2) pos) (liftS X.K Z m (dPar i j was)) := PS.of (ps_par hc hN hi hj hij hx hy ha hw hs) fun D σ H ⟨g, F, env, P, k, w, q⟩ =>
  ⟨g, F, env, _, k, w, fun ds env1 vs F1 H1 p e1 k1 r1 => by
    split at p
    · obtain ⟨v, u, rfl, r2, r3⟩ := r1.inv2
      obtain ⟨np, p⟩ := bIf_and p
      rw [Bool.and_eq_true] at np
      exact ⟨v, u, rfl, q.nx _ _ F1 H1 p e1 ((k1.setD (noPar_of np.1) r2).setD (noPar_of (noPar_set np.2)) r3)⟩
    · exact p.elim⟩
/-- x[i] = e, x the name's own cell -/
def stQ (xs : List PyData) (y d : PyData) (K : List PyData → Prop) : Prop := match y with
  | .int n => (match ixN xs.length n with
    | some j => K (xs.set j d)
    | none => False)
  | _ => False
abbrev dSetC (i : Nat) (wi we : DE) (E : DEnds) (env : List SD) : Prop := we env fun d env1 => match env1[i]? with
  | some (.cel _ _) => wi env1 fun y env2 => match env2[i]? with
    | some (.cel p xs) => stQ xs y d fun xs' => E.nx (env2.set i (.cel p xs'))
    | _ => False
  | _ => False
theorem ssetC (i : Nat) {x : Str} {p0 p1 : Pos} (he : PE X e (liftE X.K Z we)) (hi : PE X b (liftE X.K Z wb)) (hN : X.N[i]? = some x := by rfl) (hv : Vis X.env.scope x := by first | exact Or.inl rfl | exact Or.inr (Or.inl rfl) | exact Or.inr (Or.inr rfl)) (hd : (x == ("__debug__" : Str)) = false := by decide)
    (hcd : (x == ("__classdict__" : Str)) = false := by decide)
    (hs : swapsWithSole [.Subscript (.Name x p0) b p1] e pos.line X.env = pure false := by rfl) (hw : swappedStores [.Subscript (.Name x p0) b p1] e X.env = pure none := by rfl)
    (h1 : (assignEach [.Subscript (.Name x p0) b p1] X.env).map (·.2) = [assign (.Subscript (.Name x p0) b p1) X.env] := by rfl)
    (ha : ∀ v, assign (.Subscript (.Name x p0) b p1) X.env v = (do
      let ov ← holding [v] (eval (.Name x p0) X.env)
      let iv ← holding [v, ov] (eval b X.env)
      standAt p1
      holding [v, ov, iv] (setItem ov iv v)
      release [v, ov, iv] []) := by intro _; rfl) : PS X (.Assign [.Subscript (.Name x p0) b p1] e pos) (liftS X.K Z m (dSetC i wb we)) :=
  PS.of (ps_asg he (pg_sub (pe_var hN hv hd hcd) hi set_list ha) hs hw h1) fun D σ H ⟨g, F, env, P, k, w, q⟩ =>
  ⟨g, F, env, _, k, w, fun d env1 v F1 H1 p e1 k1 r1 => by
    split at p
    · rename_i p' xs' ex
      obtain ⟨a0, us0, b1, _⟩ := k1.cel i p' xs' ex
      refine ⟨_, b1, g, F1, env1, _, k1, p, fun d2 env2 v2 F2 H2 p2 e2 k2 r2 => ?_⟩
      split at p2
      · rename_i p3 xs ex2
        obtain ⟨n, rfl, p2⟩ : ∃ n, d2 = .int n ∧ stQ xs (.int n) d _ := by
          cases d2 <;> first | exact ⟨_, rfl, p2⟩ | exact p2.elim
        cases r2.inv_int
        unfold stQ at p2
        dsimp only at p2
        split at p2
        · rename_i j ej
          obtain ⟨a1, us1, c1, c2, c3, c4, _⟩ := k2.cel i p3 xs ex2
          rw [b1] at c1
          cases c1
          exact ⟨a0, us1, n, j, rfl, rfl, c3, by rw [c4.length]; exact ej, q.nx _ σ F2 _ p2 (e1.trans e2) (k2.write ex2 b1 (c4.set j (r1.mono e2)))⟩
        · exact p2.elim
      · exact p2.elim
    · exact p.elim⟩
/-- x.append(e) -/
def apQ (xs : List PyData) (d : PyData) (K : List PyData → Prop) : Prop := xs.length < 100000 ∧ K (xs ++ [d])
abbrev dApp (i : Nat) (we : DE) (E : DEnds) (env : List SD) : Prop := match env[i]? with
  | some (.cel _ _) => we env fun d env1 => match env1[i]? with
    | some (.cel p xs) => apQ xs d fun xs' => E.nx (env1.set i (.cel p xs'))
    | _ => False
  | _ => False
theorem sapp (i : Nat) {x : Str} {p0 apos cpos : Pos} (he : PE X e (liftE X.K Z we)) (hN : X.N[i]? = some x := by rfl) (hv : Vis X.env.scope x := by first | exact Or.inl rfl | exact Or.inr (Or.inl rfl) | exact Or.inr (Or.inr rfl)) (hd : (x == ("__debug__" : Str)) = false := by decide)
    (hcd : (x == ("__classdict__" : Str)) = false := by decide)
    (h1 : attributeBase (.Name x p0) "append" X.env (eval (.Name x p0) X.env) = eval (.Name x p0) X.env := by rfl)
    (h2 : ((backTo cpos (starEach [e] X.env)).all (!·.1) && (backToKw cpos (keywordEach [] X.env)).all (·.1.isSome) && decide ([e].length + ([] : List Keyword).length + (if ([] : List Keyword).isEmpty then 0 else 1) < 30)) = true := by rfl)
    (h3 : (apos.endLine == cpos.line) = true := by rfl)
    (h4 : starEach [e] X.env = (false, eval e X.env) :: starEach [] X.env := by rfl) (h5 : (backTo cpos (starEach [] X.env)).any (·.1) = false := by rfl)
    (hs : swapsWith (.Call (.Attribute (.Name x p0) "append" apos) [e] [] cpos) none pos.line X.env = pure false := by rfl) :
    PS X (.Expr (.Call (.Attribute (.Name x p0) "append" apos) [e] [] cpos) pos) (liftS X.K Z m (dApp i we)) :=
  PS.of (ps_expr (pe_bm PySem.F.plainAttrs_list PySem.F.slot_list_append PySem.F.type_list_append mt_append (pe_var hN hv hd hcd) (pa_cons he pa_nil h4) h1 h2 h3 h4 h5) hs) fun D σ H ⟨g, F, env, P, k, w, q⟩ => by
    unfold dApp at w
    split at w
    · rename_i p' xs' ex
      obtain ⟨a0, us0, b1, _, b3, _⟩ := k.cel i p' xs' ex
      refine ⟨_, b1, .inl ⟨rfl, us0, SqL.of b3⟩, g, F, env, _, k, w, fun d env1 v F1 H1 p e1 k1 r1 => ?_⟩
      split at p
      · rename_i p3 xs ex2
        obtain ⟨a1, us1, c1, c2, c3, c4, _⟩ := k1.cel i p3 xs ex2
        rw [b1] at c1
        cases c1
        exact ⟨a0, us1, v, rfl, rfl, c3, by rw [c4.length]; exact Evl.sz_lt p.1, q.nx _ σ F1 _ p.2 e1 (k1.write ex2 b1 (c4.append (.one r1)))⟩
      · exact p.elim
    · exact w.elim
abbrev RT := SD → List SD → Prop
def decP {I S : Type} (is : List Nat) (dec : List SD → Option (I × S)) (N : I → S → Prop) (env : List SD) : Prop := match dec (unS is env) with
  | some (i, s) => N i s
  | none => False
theorem decP_inv {I S : Type} {is : List Nat} {dec : List SD → Option (I × S)} {N : I → S → Prop} {env : List SD} (h : decP is dec N env) : ∃ i s, dec (unS is env) = some (i, s) ∧ N i s := by
  unfold decP at h
  split at h
  · exact ⟨_, _, ‹_›, h⟩
  · exact h.elim
/-- the state behind: what a loop doesn't change stays -/
def same {I S : Type} (i : I) (N : S → Prop) (i' : I) (s : S) : Prop := i' = i ∧ N s
def qWhileN {I S : Type} (b : I → S → (I → S → Prop) → (I → S → Prop) → Prop) (i : I) : Nat → S → (S → Prop) → Prop
  | 0, _, _ => False
  | n + 1, s, K => b i s (same i fun s => qWhileN b i n s K) (same i K)
def qWhile {I S : Type} (b : I → S → (I → S → Prop) → (I → S → Prop) → Prop) (i : I) (s : S) (K : S → Prop) : Prop := ∃ n, qWhileN b i n s K
abbrev dWhileQ {κ I S : Type} (is : List Nat) (dec : List SD → Option (I × S)) (emb : I → S → List SD) (kk : RT → κ) (qb : κ → I → S → (I → S → Prop) → (I → S → Prop) → Prop) (E : DEnds) (env : List SD) : Prop :=
  decP is dec (fun i s => qWhile (qb (kk E.rt)) i s fun s => E.nx (emb i s)) env
theorem swhileQ {κ I S : Type} (is : List Nat) (dec : List SD → Option (I × S)) (emb : I → S → List SD) (kk : RT → κ) (qb : κ → I → S → (I → S → Prop) → (I → S → Prop) → Prop)
    (hde : ∀ env i s, dec env = some (i, s) → env = emb i s) {c : Expr} {body : List Stmt} {t : DT} (hp : PassesOwn (model X.prog X.w) X.A X.env X.xe) (hc : PT X c (liftT X.K Z t)) (hb : PSs X body (liftS X.K Z m w))
    (hq : ∀ (R : RT) (i : I) (s : S) (nx bk : I → S → Prop), qb (kk R) i s nx bk → t (emb i s) fun b env1 => bIf b (w { nx := decP is dec nx, ct := decP is dec nx, bk := decP is dec bk, rt := R } env1) (decP is dec bk env1)) :
    PS X (.While c body [] pos) (liftS X.K Z m (dWhileQ is dec emb kk qb)) :=
  PS.of (ps_while hp hc hb) fun D σ H ⟨g, F, env, P, k, w0, q⟩ => by
    obtain ⟨i0, s0, d0, n, w0⟩ := decP_inv w0
    have fin : ∀ {env' : List SD} {σ' : L2.St} {F' H' : Hp}, decP is dec (same i0 fun s => P.nx (emb i0 s)) env' → Ex F F' → Ok X.K g F' env' σ' H' → D.nx σ' H' := fun {env' σ' F' H'} p e k => by
      obtain ⟨i, s, d, rfl, p⟩ := decP_inv p
      have k2 := k.unS (is := is)
      rw [hde _ _ _ d] at k2
      exact q.nx _ _ _ _ p e k2
    refine ⟨fun m σ' H' => ∃ env' F', Ex F F' ∧ Ok X.K g F' env' σ' H' ∧ decP is dec (same i0 fun s => qWhileN (qb (kk P.rt)) i0 m s fun s => P.nx (emb i0 s)) env', ⟨n, env, F, Ex.refl F, k, by unfold decP; rw [d0]; exact ⟨rfl, w0⟩⟩, fun m σ' H' ⟨env', F', e1, k1, w1⟩ => ?_⟩
    obtain ⟨i, s, d, rfl, w1⟩ := decP_inv w1
    have k2 := k1.unS (is := is)
    rw [hde _ _ _ d] at k2
    cases m with
    | zero => exact w1.elim
    | succ m =>
      refine ⟨g, F', _, _, k2, hq P.rt i s _ _ w1, fun b env2 F2 H2 p2 e2 k2 => ?_⟩
      cases b with
      | false => exact iteF (fin p2 (e1.trans e2) k2)
      | true =>
        refine iteT ⟨fun σ3 H3 => ∃ env' F', Ex F F' ∧ Ok X.K g F' env' σ3 H3 ∧ decP is dec (same i fun s => qWhileN (qb (kk P.rt)) i m s fun s => P.nx (emb i s)) env', fun σ3 H3 h3 => ⟨m, Nat.lt_succ_self m, h3⟩, g, F2, env2, _, k2, p2, ?_⟩
        have e12 := e1.trans e2
        exact .mk4 (.mk (fun env3 σ3 F3 H3 p3 e3 k3 => ⟨env3, F3, e12.trans e3, k3, p3⟩) (fun env3 σ3 F3 H3 p3 e3 k3 => fin p3 (e12.trans e3) k3) (fun env3 σ3 F3 H3 p3 e3 k3 => ⟨env3, F3, e12.trans e3, k3, p3⟩) (fun r env3 v σ3 F3 H3 p3 e3 k3 r3 => q.rt r env3 v σ3 F3 H3 p3 (e12.trans e3) k3 r3)) rfl
abbrev DI := List SD → (List PyData → List SD → Prop) → Prop
def Yld (K : PySem.W.Frag) (b : Bool) (F H : Hp) (x : V) (H' : Hp) (d : PyData) : Prop := (H' = H ∧ DR K F x d) ∨ b = true ∧ ∃ T xs ds, x = .ref T ∧ H T = none ∧ H' = upd H T (.tup xs) ∧ d = .tuple ds ∧ DRs K F xs ds
structure WalkD (K : PySem.W.Frag) (b : Bool) (F : Hp) (J : It) (items : List PyData) : Prop where
  ex : ∃ G Y, Walk J items.length G Y ∧ (∀ H, Ex F H → G H) ∧ ∀ i H x H' d, Ex F H → items[i]? = some d → Y i H x H' → Yld K b F H x H' d
def liftI (K : PySem.W.Frag) (Z : Zx T) (b : Bool) (w : DI) : TI := fun σ H R => ∃ (g : Gx Z) (F : Hp) (env : List SD) (P : List PyData → List SD → Prop), Ok K g F env σ H ∧ w env P ∧
  ∀ items env' J F' H', P items env' → Ex F F' → Ok K g F' env' σ H' → WalkD K b F' J items → R J H'
theorem PI.of {tg e : Expr} {t t' : TI} (h : PI X tg e t) (w : ∀ σ H R, t' σ H R → t σ H R) : PI X tg e t' := ⟨fun pins s σ H R I q => h.run pins s σ H R I (w σ H R q)⟩
theorem Ok.yld {K : PySem.W.Frag} {b : Bool} {g : Gx Z} {F F0 : Hp} {env : List SD} {σ : L2.St} {H H' : Hp} {x : V} {d : PyData} (k : Ok K g F env σ H) (e : Ex F0 F) (y : Yld K b F0 H x H' d) : ∃ F', Ex F F' ∧ Ok K g F' env σ H' ∧ DRw K b F' x d := by
  rcases y with ⟨rfl, r⟩ | ⟨hb, T, xs, ds, rfl, hT, rfl, rfl, r⟩
  · exact ⟨F, Ex.refl F, k, .inl (r.mono e)⟩
  · have ex : Ex F (upd F T (.tup xs)) := Ex.new (fnone k.fh hT)
    exact ⟨_, ex, k.alloc hT, .inr ⟨hb, T, xs, ds, rfl, rfl, SqT.of upd_same, (r.mono e).mono ex⟩⟩
/-- lo, lo + 1, .. -/
def rangeD (lo : Int) (n : Nat) : List PyData := (List.range n).map fun (i : Nat) => .int (lo + i)
theorem walkD_range {K : PySem.W.Frag} {b : Bool} {F : Hp} (lo : Int) (n : Nat) : WalkD K b F (Itr lo n) (rangeD lo n) := by
  refine ⟨fun _ => True, YFn fun i => .int (lo + i), by rw [show (rangeD lo n).length = n by simp [rangeD]]; exact walk_range, fun _ _ => trivial, fun i H x H' d _ e y => .inl ⟨y.1, ?_⟩⟩
  have y2 := y.2
  subst y2
  unfold rangeD at e
  rw [List.getElem?_map] at e
  by_cases hi : i < n
  · rw [List.getElem?_range hi] at e
    cases e
    exact .int _
  · rw [List.getElem?_eq_none (by simp; omega)] at e
    cases e
abbrev QI := List PyData → (List PyData → Prop) → Prop
/-- what is walked, by arguments -/
abbrev dIt (f : QI) (was : DA) (env : List SD) (P : List PyData → List SD → Prop) : Prop := was env fun ds env' => f ds fun items => P items env'
/-- K of l, sealed: the kernel doesn't look at what is walked -/
inductive At (l : List PyData) (K : List PyData → Prop) : Prop
  | mk : K l → At l K
theorem At.out {l : List PyData} {K : List PyData → Prop} (h : At l K) : K l := by
  cases h with
  | mk h => exact h
theorem At.eq {l : List PyData} {K : List PyData → Prop} : At l K = K l := propext ⟨At.out, At.mk⟩
def rng1 (ds : List PyData) (K : List PyData → Prop) : Prop := match ds with
  | [.int n] => (-1000000 ≤ n ∧ n ≤ 1000000) ∧ At (rangeD 0 n.toNat) K
  | _ => False
def rng2 (ds : List PyData) (K : List PyData → Prop) : Prop := match ds with
  | [.int m, .int n] => (-1000000 ≤ m ∧ m ≤ 1000000 ∧ -1000000 ≤ n ∧ n ≤ 1000000) ∧ At (rangeD m (n - m).toNat) K
  | _ => False
theorem irange1 {tg : Expr} {bb : Bool} {p : Pos} (hm : X.mg "range" = none) (ha : PA X [a] (liftA X.K Z was)) (hg : Gl X "range" := by rfl) (hs : starEach [a] X.env = [(false, eval a X.env)] := by rfl) : PI X tg (.Call (.Name "range" p) [a] [] pos) (liftI X.K Z bb (dIt rng1 was)) :=
  PI.of (pi_range1 hg hm ha hs) fun σ H R ⟨g, F, env, P, k, w, q⟩ => ⟨g, F, env, _, k, w, fun ds env1 vs F1 H1 p e1 k1 r1 => by
    unfold rng1 at p
    split at p
    · obtain ⟨v, rfl, r2⟩ := r1.inv1
      cases r2.inv_int
      have p1 := p.1
      exact ⟨_, rfl, by omega, by omega, q _ env1 _ F1 H1 p.2.out e1 k1 (walkD_range 0 _)⟩
    · exact p.elim⟩
theorem walkD_list {K : PySem.W.Frag} {bb : Bool} {F : Hp} {a : Addr} {xs : List V} {ds : List PyData} (h : RdL K F a xs) (r : DRs K F xs ds) : WalkD K bb F (Itl K a) ds :=
  ⟨fun H => SqL K H a xs, YAt xs, by rw [← r.length]; exact walk_list (xs := xs), fun H e => (h.mono e).sq, fun i H x H' d _ e y => .inl ⟨y.1, by
    obtain ⟨v, h1, h2⟩ := r.get e
    have y2 := y.2
    rw [h1] at y2
    cases y2
    exact h2⟩⟩
theorem walkD_tup {K : PySem.W.Frag} {bb : Bool} {F : Hp} {a : Addr} {xs : List V} {ds : List PyData} (h : SqT K F a xs) (r : DRs K F xs ds) : WalkD K bb F (Itt K a) ds :=
  ⟨fun H => SqT K H a xs, YAt xs, by rw [← r.length]; exact walk_tup (xs := xs), fun H e => Evl.ex_t e h, fun i H x H' d _ e y => .inl ⟨y.1, by
    obtain ⟨v, h1, h2⟩ := r.get e
    have y2 := y.2
    rw [h1] at y2
    cases y2
    exact h2⟩⟩
/-- a text's signs -/
@[irreducible] def signsD (x : Str) : List PyData := x.cps.toList.map fun c => .str ⟨#[c]⟩
theorem walkD_str {K : PySem.W.Frag} {bb : Bool} {F : Hp} (x : Str) : WalkD K bb F (Its x) (signsD x) :=
  ⟨fun _ => True, fun i H v H' => H' = H ∧ ∃ c, x.cps[i]? = some c ∧ v = .str ⟨#[c]⟩, by rw [show (signsD x).length = x.cps.size by unfold signsD; simp]; exact walk_str, fun _ _ => trivial, fun i H v H' d _ e y => .inl ⟨y.1, by
    obtain ⟨c, h1, rfl⟩ := y.2
    unfold signsD at e
    rw [List.getElem?_map, Array.getElem?_toList, h1] at e
    cases e
    exact .str _⟩⟩
/-- over a list, a tuple or a text -/
def iSeq (K : PySem.W.Frag) (tl : TE) : TI := fun σ H R => tl σ H fun x H1 => (∃ a, x = .ref a ∧ ((∃ xs, SqL K H1 a xs ∧ R (Itl K a) H1) ∨ ∃ xs, SqT K H1 a xs ∧ R (Itt K a) H1)) ∨ ∃ z, x = .str z ∧ R (Its z) H1
theorem pi_seq {tg l : Expr} {tl : TE} (hl : PE X l tl) : PI X tg l (iSeq X.K tl) := by
  refine ⟨fun pins s σ H R I h => thn (hl.run pins s σ H _ I h) fun v s1 ⟨x, H1, I1, r1, q1⟩ => ?_⟩
  rcases q1 with ⟨a, ea, q1⟩ | ⟨z, ez, q⟩
  · subst ea
    cases r1
    have fo : ∀ b ∈ [s1.heap.objs.size], FpOk X pins H1 b := fun b hb => by
      rw [List.mem_singleton.mp hb]
      exact I1.fpOk (Nat.le_refl _) (I1.hok.fresh (Nat.le_refl _))
    rcases q1 with ⟨xs, hq, q⟩ | ⟨xs, hq, q⟩
    · obtain ⟨its, rv, pl, hz⟩ := I1.list hq
      exact wpAny_pyIter_list pl.isList ⟨s1.heap.objs.size, [s1.heap.objs.size], _, _, H1, rfl, I1.kept (t' := s1.toks) (fun b o e => Heap.get?_push_of_some _ e), turn_list a _, ⟨_, Heap.get?_push_size _ rfl, rfl, rfl⟩, fo, q⟩
    · obtain ⟨its, rv, pl, hz⟩ := I1.tuple hq
      exact wpAny_pyIter_tuple (show s1.heap.IsTuple a its.toArray from pl) ⟨s1.heap.objs.size, [s1.heap.objs.size], _, _, H1, rfl, I1.kept (t' := s1.toks) (fun b o e => Heap.get?_push_of_some _ e), turn_tuple a _, ⟨_, Heap.get?_push_size _ rfl, rfl, rfl⟩, fo, q⟩
  · subst ez
    obtain ⟨t, rfl⟩ := r1
    cases ha : z.cps.all (· < 128)
    · exact wpAny_pyIter_wide ha (pi_one (tk := s1.toks) I1 _ (turn_str _ z t "str_iterator" (.inr rfl)) ⟨_, Heap.get?_push_size _ rfl, rfl, rfl⟩ q)
    · exact wpAny_pyIter_ascii ha (pi_one (tk := s1.toks) I1 _ (turn_str _ z t "str_ascii_iterator" (.inl rfl)) ⟨_, Heap.get?_push_size _ rfl, rfl, rfl⟩ q)
def itemsQ (d : PyData) (K : List PyData → Prop) : Prop := match d with
  | .list ds => At ds K
  | .tuple ds => At ds K
  | .str x => At (signsD x) K
  | _ => False
abbrev dItF (f : PyData → (List PyData → Prop) → Prop) (we : DE) (env : List SD) (P : List PyData → List SD → Prop) : Prop := we env fun d env' => f d fun ds => P ds env'
theorem iseq {tg : Expr} {bb : Bool} (he : PE X e (liftE X.K Z we)) : PI X tg e (liftI X.K Z bb (dItF itemsQ we)) := PI.of (pi_seq he) fun σ H R ⟨g, F, env, P, k, w, q⟩ => ⟨g, F, env, _, k, w, fun d env1 v F1 H1 p e1 k1 r1 => by
  unfold itemsQ at p
  split at p
  · obtain ⟨a, xs, rfl, h1, h2⟩ := r1.inv_lst
    exact .inl ⟨a, rfl, .inl ⟨xs, (h1.mono k1.fh).sq, q _ env1 _ F1 H1 p.out e1 k1 (walkD_list h1 h2)⟩⟩
  · obtain ⟨a, xs, rfl, h1, h2⟩ := r1.inv_tup
    exact .inl ⟨a, rfl, .inr ⟨xs, Evl.ex_t k1.fh h1, q _ env1 _ F1 H1 p.out e1 k1 (walkD_tup h1 h2)⟩⟩
  · cases r1.inv_str
    exact .inr ⟨_, rfl, q _ env1 _ F1 H1 p.out e1 k1 (walkD_str _)⟩
  · exact p.elim⟩
/-- zip of two lists, of two tuples -/
def zipD : List PyData → List PyData → List PyData
  | x :: xs, y :: ys => .tuple [x, y] :: zipD xs ys
  | _, _ => []
theorem zipD_length : ∀ xs ys : List PyData, (zipD xs ys).length = min xs.length ys.length
  | [], _ => by simp [zipD]
  | _ :: _, [] => by simp [zipD]
  | x :: xs, y :: ys => by simp [zipD, zipD_length xs ys]
theorem zipD_get : ∀ {xs ys : List PyData} {i : Nat} {d : PyData}, (zipD xs ys)[i]? = some d → ∃ x y, xs[i]? = some x ∧ ys[i]? = some y ∧ d = .tuple [x, y]
  | [], _, _, _, h => by simp [zipD] at h
  | _ :: _, [], _, _, h => by simp [zipD] at h
  | x :: xs, y :: ys, 0, d, h => by simp [zipD] at h; exact ⟨x, y, rfl, rfl, h.symm⟩
  | x :: xs, y :: ys, i + 1, d, h => by
    obtain ⟨u, v, h1, h2, h3⟩ := zipD_get (xs := xs) (ys := ys) (i := i) (d := d) (by simpa [zipD] using h)
    exact ⟨u, v, by simpa using h1, by simpa using h2, h3⟩
theorem walk_zipT {K : PySem.W.Frag} {a b : Addr} {xs ys : List V} : Walk (RZ.ItzT K a b) (min xs.length ys.length) (fun H => SqT K H a xs ∧ SqT K H b ys) (YPair (fun i => xs[i]?) (fun i => ys[i]?)) :=
  ⟨fun i H hi q => ⟨xs, ys, xs[i]'(by omega), ys[i]'(by omega), q.1, q.2, by simp [show i < xs.length by omega], by simp [show i < ys.length by omega]⟩,
   fun H q => ⟨xs, ys, q.1, q.2, by omega⟩,
   fun i H x H' hi q y => by
    obtain ⟨T, u, v, h1, h2, h3, h4, h5⟩ := y
    exact ⟨T, u, v, h1, h2, h3, h4 xs q.1, h5 ys q.2⟩⟩
def zipQ (ds : List PyData) (K : List PyData → Prop) : Prop := match ds with
  | [.list xs, .list ys] => At (zipD xs ys) K
  | [.tuple xs, .tuple ys] => At (zipD xs ys) K
  | _ => False
theorem yld_pair {K : PySem.W.Frag} {F H H' : Hp} {us ws : List V} {xs ys : List PyData} {x : V} {i : Nat} {d : PyData} (r : DRs K F us xs) (r2 : DRs K F ws ys) (e : (zipD xs ys)[i]? = some d) (y : YPair (fun i => us[i]?) (fun i => ws[i]?) i H x H') : Yld K true F H x H' d := by
  obtain ⟨T, u, v, h1, h2, h3, h4, h5⟩ := y
  obtain ⟨dx, dy, e1, e2, rfl⟩ := zipD_get e
  obtain ⟨u', z1, z2⟩ := r.get e1
  obtain ⟨v', y1, y2⟩ := r2.get e2
  dsimp only at h4 h5
  rw [z1] at h4
  rw [y1] at h5
  cases h4
  cases h5
  exact .inr ⟨rfl, T, _, _, h1, h2, h3, rfl, .cons z2 (.one y2)⟩
theorem walkD_zipL {K : PySem.W.Frag} {F : Hp} {a b : Addr} {us ws : List V} {xs ys : List PyData} (h1 : RdL K F a us) (h3 : RdL K F b ws) (h2 : DRs K F us xs) (h4 : DRs K F ws ys) : WalkD K true F (Itz K a b) (zipD xs ys) :=
  ⟨fun H => SqL K H a us ∧ SqL K H b ws, YPair (fun i => us[i]?) (fun i => ws[i]?), walk_zip (by rw [zipD_length, h2.length, h4.length]), fun H e => ⟨(h1.mono e).sq, (h3.mono e).sq⟩, fun i H x H' d _ e y => yld_pair h2 h4 e y⟩
theorem walkD_zipT {K : PySem.W.Frag} {F : Hp} {a b : Addr} {us ws : List V} {xs ys : List PyData} (h1 : SqT K F a us) (h3 : SqT K F b ws) (h2 : DRs K F us xs) (h4 : DRs K F ws ys) : WalkD K true F (RZ.ItzT K a b) (zipD xs ys) :=
  ⟨fun H => SqT K H a us ∧ SqT K H b ws, YPair (fun i => us[i]?) (fun i => ws[i]?), by rw [zipD_length, ← h2.length, ← h4.length]; exact walk_zipT, fun H e => ⟨Evl.ex_t e h1, Evl.ex_t e h3⟩, fun i H x H' d _ e y => yld_pair h2 h4 e y⟩
theorem izip {elts : List Expr} {kk : Nat} {tpos p : Pos} (hm : X.mg "zip" = none) (ha : PA X [a, b] (liftA X.K Z was)) (hg : Gl X "zip" := by rfl) (hs : starEach [a, b] X.env = (false, eval a X.env) :: starEach [b] X.env := by rfl)
    (hpl : (backTo pos (starEach [b] X.env)).any (·.1) = false := by rfl) : PI X (.Tuple elts kk tpos) (.Call (.Name "zip" p) [a, b] [] pos) (liftI X.K Z true (dIt zipQ was)) :=
  PI.of (RZ.pi_zipA hg hm ha hs hpl) fun σ H R ⟨g, F, env, P, k, w, q⟩ => ⟨g, F, env, _, k, w, fun ds env1 vs F1 H1 p e1 k1 r1 => by
    unfold zipQ at p
    split at p
    · obtain ⟨v, u, rfl, r2, r3⟩ := r1.inv2
      obtain ⟨a, us, rfl, h1, h2⟩ := r2.inv_lst
      obtain ⟨b, ws, rfl, h3, h4⟩ := r3.inv_lst
      exact ⟨a, b, us, ws, rfl, .inl ⟨(h1.mono k1.fh).sq, (h3.mono k1.fh).sq, q _ env1 _ F1 H1 p.out e1 k1 (walkD_zipL h1 h3 h2 h4)⟩⟩
    · obtain ⟨v, u, rfl, r2, r3⟩ := r1.inv2
      obtain ⟨a, us, rfl, h1, h2⟩ := r2.inv_tup
      obtain ⟨b, ws, rfl, h3, h4⟩ := r3.inv_tup
      exact ⟨a, b, us, ws, rfl, .inr ⟨Evl.ex_t k1.fh h1, Evl.ex_t k1.fh h3, q _ env1 _ F1 H1 p.out e1 k1 (walkD_zipT h1 h3 h2 h4)⟩⟩
    · exact p.elim⟩
def qFor {I S : Type} (b : PyData → I → S → (I → S → Prop) → (I → S → Prop) → Prop) (i : I) : List PyData → S → (S → Prop) → Prop
  | [], s, K => K s
  | d :: r, s, K => b d i s (same i fun s => qFor b i r s K) (same i K)
abbrev dForQ {κ I S : Type} (is : List Nat) (dec : List SD → Option (I × S)) (emb : I → S → List SD) (kk : RT → κ) (qb : κ → PyData → I → S → (I → S → Prop) → (I → S → Prop) → Prop) (wi : DI) (E : DEnds) (env : List SD) : Prop :=
  wi env fun items env1 => decP is dec (fun i s => qFor (qb (kk E.rt)) i items s fun s => E.nx (emb i s)) env1
theorem sforQ {κ I S : Type} (is : List Nat) (dec : List SD → Option (I × S)) (emb : I → S → List SD) (kk : RT → κ) (qb : κ → PyData → I → S → (I → S → Prop) → (I → S → Prop) → Prop)
    (hde : ∀ env i s, dec env = some (i, s) → env = emb i s) {tg iter : Expr} {body : List Stmt} {wi : DI} {t : DG} {bb : Bool} (hp : PassesOwn (model X.prog X.w) X.A X.env X.xe) (hc : X.calm = true) (hi : PI X tg iter (liftI X.K Z bb wi)) (hg : PG X tg (liftG X.K Z bb t)) (hb : PSs X body (liftS X.K Z m w))
    (hq : ∀ (R : RT) (d : PyData) (i : I) (s : S) (nx bk : I → S → Prop), qb (kk R) d i s nx bk → t d (emb i s) fun env1 => w { nx := decP is dec nx, ct := decP is dec nx, bk := decP is dec bk, rt := R } env1)
    (hs : ∀ x, foldedSetIterable iter X.env x = pure x := by intro _; rfl) : PS X (.For tg iter body [] pos) (liftS X.K Z m (dForQ is dec emb kk qb wi)) :=
  PS.of (ps_for hp hc hi hg hb hs) fun D σ H ⟨g, F, env, P, k, w0, q⟩ => ⟨g, F, env, _, k, w0, fun items env1 J F1 H1 p e1 k1 ⟨G, Y, wk, hG, hY⟩ => by
    have q := q.ex e1
    obtain ⟨i0, s0, d0, p⟩ := decP_inv p
    have fin : ∀ {env' : List SD} {σ' : L2.St} {F' H' : Hp}, decP is dec (same i0 fun s => P.nx (emb i0 s)) env' → Ex F1 F' → Ok X.K g F' env' σ' H' → D.nx σ' H' := fun {env' σ' F' H'} p e k => by
      obtain ⟨i, s, d, rfl, p⟩ := decP_inv p
      have k2 := k.unS (is := is)
      rw [hde _ _ _ d] at k2
      exact q.nx _ _ _ _ p e k2
    refine for_it wk (fun j σ' H' => ∃ env' F', Ex F1 F' ∧ Ok X.K g F' env' σ' H' ∧ decP is dec (same i0 fun s => qFor (qb (kk P.rt)) i0 (items.drop j) s fun s => P.nx (emb i0 s)) env') ⟨env1, F1, Ex.refl F1, k1, by unfold decP; rw [d0]; exact ⟨rfl, p⟩⟩ (fun i σ' H' _ ⟨env', F', e2, k2, _⟩ => hG H' (e2.trans k2.fh)) (fun j x σ' H' H2 hj ⟨env', F', e2, k2, w2⟩ y => ?_) fun σ' H' ⟨env', F', e2, k2, w2⟩ => ?_
    · obtain ⟨i, s, de, rfl, w3⟩ := decP_inv w2
      have k2 := k2.unS (is := is)
      rw [hde _ _ _ de] at k2
      have hd : items.drop j = items[j] :: items.drop (j + 1) := List.drop_eq_getElem_cons hj
      rw [hd] at w3
      obtain ⟨F3, e3, k3, r3⟩ := k2.yld e2 (hY j H' x H2 items[j] (e2.trans k2.fh) (by simp [hj]) y)
      have e13 := e2.trans e3
      refine ⟨g, F3, _, _, _, k3, r3, hq P.rt _ i s _ _ w3, fun env4 σ4 F4 H4 p4 e4 k4 => ⟨g, F4, env4, _, k4, p4, ?_⟩⟩
      have e14 := e13.trans e4
      exact .mk4 (.mk (fun env5 σ5 F5 H5 p5 e5 k5 => ⟨env5, F5, e14.trans e5, k5, p5⟩) (fun env5 σ5 F5 H5 p5 e5 k5 => fin p5 (e14.trans e5) k5) (fun env5 σ5 F5 H5 p5 e5 k5 => ⟨env5, F5, e14.trans e5, k5, p5⟩) (fun r env5 v σ5 F5 H5 p5 e5 k5 r5 => q.rt r env5 v σ5 F5 H5 p5 (e14.trans e5) k5 r5)) rfl
    · rw [List.drop_length] at w2
      exact fin w2 e2 k2⟩
end
end DL

namespace DL
variable {T : List (PySem.Addr × PySem.Str)} {Z : Zx T}
open PySem PySem.Spec PyProof.Rows L2
open Evl (Ex)

def wipeD (env : List SD) : List Nat → List SD
  | [] => env
  | v :: vs => (wipeD env vs).set v .un
def setAll (σ : L2.St) : List Nat → List V → L2.St
  | i :: is, v :: vs => setAll (σ.set i (some v)) is vs
  | _, _ => σ
def setAllD (env : List SD) : List Nat → List PyData → List SD
  | i :: is, d :: ds => setAllD (env.set i (.dat d)) is ds
  | _, _ => env
theorem wipe_get (σ : L2.St) : ∀ (vs : List Nat) (j : Nat), (wipe σ vs)[j]? = if j ∈ vs then (σ[j]?).map (fun _ => none) else σ[j]?
  | [], j => by simp [wipe]
  | v :: vs, j => by
    unfold wipe
    rw [List.getElem?_set]
    by_cases h : v = j
    · subst h
      rw [if_pos rfl, if_pos List.mem_cons_self, wipe_length]
      by_cases hl : v < σ.length
      · rw [if_pos hl]
        simp [hl]
      · rw [if_neg hl]
        simp [Nat.le_of_not_lt hl]
    · rw [if_neg h, wipe_get σ vs j]
      by_cases hj : j ∈ vs
      · rw [if_pos hj, if_pos (List.mem_cons_of_mem _ hj)]
      · rw [if_neg hj, if_neg (fun z => (List.mem_cons.mp z).elim (fun z => h z.symm) hj)]
theorem wipe_set {σ : L2.St} {vs : List Nat} {i : Nat} {o : Option V} (h : i ∈ vs) : wipe (σ.set i o) vs = wipe σ vs := List.ext_getElem? fun j => by
  rw [wipe_get, wipe_get]
  by_cases hj : j ∈ vs
  · rw [if_pos hj, if_pos hj, List.getElem?_set]
    by_cases e : i = j
    · subst e
      rw [if_pos rfl]
      by_cases hl : i < σ.length
      · simp [hl]
      · rw [if_neg hl]
        simp [Nat.le_of_not_lt hl]
    · rw [if_neg e]
  · have ne : i ≠ j := fun e => by subst e; exact hj h
    rw [if_neg hj, if_neg hj, List.getElem?_set, if_neg ne]
theorem wipe_all {vs : List Nat} : ∀ {is : List Nat} {us : List V} {σ : L2.St}, (∀ i ∈ is, i ∈ vs) → wipe (setAll σ is us) vs = wipe σ vs
  | [], _, _, _ => by simp [setAll]
  | i :: is, [], _, _ => by simp [setAll]
  | i :: is, u :: us, σ, h => by
    unfold setAll
    rw [wipe_all (fun j hj => h j (List.mem_cons_of_mem _ hj)), wipe_set (h i List.mem_cons_self)]
theorem wipe_wipe {vs : List Nat} {σ : L2.St} : wipe (wipe σ vs) vs = wipe σ vs := List.ext_getElem? fun j => by
  rw [wipe_get, wipe_get]
  by_cases hj : j ∈ vs
  · rw [if_pos hj, if_pos hj]
    cases σ[j]? <;> rfl
  · rw [if_neg hj, if_neg hj]
section
variable {K : PySem.W.Frag} {g : Gx Z} {F F' : Hp} {env : List SD} {σ : L2.St} {H : Hp}
theorem noPar_un {env : List SD} {i j : Nat} {r : SD} (h : NoPar env j) (hr : ∀ xs, r ≠ .cel true xs) : NoPar (env.set i r) j := fun xs e => by
  rcases get_set e with ⟨_, q⟩ | ⟨_, q⟩
  · exact hr xs q.symm
  · exact h xs q
theorem noPar_wipe {env : List SD} {j : Nat} (h : NoPar env j) : ∀ vs : List Nat, NoPar (wipeD env vs) j
  | [] => h
  | v :: vs => noPar_un (noPar_wipe h vs) (fun _ z => by cases z)
theorem Ok.wiped (k : Ok K g F env σ H) : ∀ {vs : List Nat}, (∀ v ∈ vs, NoPar env v) → Ok K g F (wipeD env vs) (wipe σ vs) H
  | [], _ => k
  | v :: vs, h => (k.wiped (vs := vs) fun u hu => h u (List.mem_cons_of_mem _ hu)).setU (noPar_wipe (h v List.mem_cons_self) vs)
theorem Ok.setAll : ∀ {is : List Nat} {us : List V} {ds : List PyData} {env : List SD} {σ : L2.St}, Ok K g F env σ H → (∀ i ∈ is, NoPar env i) → DRs K F us ds → Ok K g F (setAllD env is ds) (DL.setAll σ is us) H
  | [], _, _, _, _, k, _, _ => by simpa [DL.setAll, setAllD] using k
  | i :: is, _, _, _, _, k, h, .nil => by simpa [DL.setAll, setAllD] using k
  | i :: is, _, _, _, _, k, h, .cons a b => by
    unfold DL.setAll setAllD
    exact Ok.setAll (k.setD (h i List.mem_cons_self) a) (fun j hj => noPar_un (h j (List.mem_cons_of_mem _ hj)) (fun _ z => by cases z)) b
theorem Ok.unwiped {vs : List Nat} (k : Ok K g F env (wipe σ vs) H) : Ok K g F env σ H := by
  have up : ∀ {i : Nat} {v : V}, (wipe σ vs)[i]? = some (some v) → σ[i]? = some (some v) := fun {i v} e => by
    rw [wipe_get] at e
    by_cases hj : i ∈ vs
    · rw [if_pos hj] at e
      cases q : σ[i]? with
      | none => rw [q] at e; cases e
      | some o => rw [q] at e; cases e
    · rw [if_neg hj] at e
      exact e
  have dn : ∀ {j : Nat} {p : Bool} {ys : List PyData} {a : Addr}, env[j]? = some (.cel p ys) → σ[j]? = some (some (.ref a)) → (wipe σ vs)[j]? = some (some (.ref a)) := fun {j p ys a} e q => by
    obtain ⟨b, _, h1, _⟩ := k.cel j p ys e
    have := up h1
    rw [q] at this
    cases this
    exact h1
  refine ⟨k.len.trans (wipe_length σ vs), k.fh, fun i d e => ?_, fun i p xs e => ?_, fun i j p q xs ys a h1 h2 h3 h4 => k.sep i j p q xs ys a h1 h2 (dn h1 h3) (dn h2 h4), k.pin, k.frame, k.newF, k.oldF, fun a o e => ?_, ?_⟩
  · obtain ⟨v, h1, h2⟩ := k.dat i d e
    exact ⟨v, up h1, h2⟩
  · obtain ⟨a, us, h1, h2⟩ := k.cel i p xs e
    exact ⟨a, us, up h1, h2⟩
  · obtain ⟨z1, z2, z3⟩ := k.prot a o e
    exact ⟨z1, z2, fun j p ys e1 e2 => z3 j p ys e1 (dn e1 e2)⟩
  · obtain ⟨B, h1, h2⟩ := k.dic
    refine ⟨B, fun i w e => let ⟨a, z1, z2⟩ := h1 i w e; ⟨a, up z1, z2⟩, fun i j w w' a b e1 e2 z1 z2 => h2 i j w w' a b e1 e2 ?_ ?_⟩
    · obtain ⟨c, y1, _⟩ := h1 i w e1
      have := up y1
      rw [z1] at this
      cases this
      exact y1
    · obtain ⟨c, y1, _⟩ := h1 j w' e2
      have := up y1
      rw [z2] at this
      cases this
      exact y1
theorem set_same {α : Type} {l : List α} {i : Nat} {x : α} (h : l[i]? = some x) : l.set i x = l := List.ext_getElem? fun j => by
  rw [List.getElem?_set]
  by_cases e : i = j
  · subst e
    rw [if_pos rfl, if_pos (List.getElem?_eq_some_iff.mp h).1, h]
  · rw [if_neg e]
/-- what stood at the slots vs is known again -/
def again (env1 : List SD) : List Nat → List SD → List SD
  | [], env2 => env2
  | v :: vs, env2 => match env1[v]? with
    | some (.dat d) => again env1 vs (env2.set v (.dat d))
    | _ => again env1 vs env2
theorem Ok.again {F1 H1 : Hp} {env1 : List SD} (k1 : Ok K g F1 env1 σ H1) (ex : Ex F1 F) : ∀ {vs : List Nat} {env2 : List SD}, Ok K g F env2 σ H → (∀ v ∈ vs, NoPar env2 v) → Ok K g F (DL.again env1 vs env2) σ H
  | [], _, k, _ => k
  | v :: vs, env2, k, h => by
    unfold DL.again
    split
    · rename_i d e
      obtain ⟨u, h1, h2⟩ := k1.dat v d e
      have k2 := k.setD (h v List.mem_cons_self) (h2.mono ex)
      rw [set_same h1] at k2
      exact Ok.again k1 ex k2 fun j hj => noPar_un (h j (List.mem_cons_of_mem _ hj)) (fun _ z => by cases z)
    · exact Ok.again k1 ex k fun j hj => h j (List.mem_cons_of_mem _ hj)
/-- the cell at D, no name's, protected -/
theorem Ok.hide (k : Ok K g F env σ H) {D : Addr} {vs : List V} (hF : F D = none) (hH : H D = some (.lst vs)) (nw : ∀ (j : Nat) (p : Bool) (ys : List PyData), env[j]? = some (.cel p ys) → σ[j]? ≠ some (some (.ref D))) (hp : g.Pr D = none) : Ok K (g.hid D vs hp) F env σ H :=
  ⟨k.len, k.fh, k.dat, k.cel, k.sep, k.pin, k.frame, k.newF, k.oldF, fun a o e => by
    by_cases z : a = D
    · subst z
      have e' : upd g.Pr a (.lst vs) a = some o := e
      rw [upd_same] at e'
      cases e'
      exact ⟨hH, hF, nw⟩
    · have e' : upd g.Pr D (.lst vs) a = some o := e
      rw [upd_ne z] at e'
      exact k.prot a o e',
    k.dic.keep (Ex.refl F) (fun a xs e n => by
      have ne : a ≠ D := fun z => by rw [z, hH] at e; cases e
      show upd g.Pr D (.lst vs) a = none
      rw [upd_ne ne]
      exact n) fun a xs _ n => ⟨n, rfl⟩⟩
theorem Ok.bare {D : Addr} {vs : List V} (hp : g.Pr D = none) (k : Ok K (g.hid D vs hp) F env σ H) :
    Ok K g F env σ H ∧ F D = none ∧ H D = some (.lst vs) ∧ ∀ (j : Nat) (p : Bool) (ys : List PyData), env[j]? = some (.cel p ys) → σ[j]? ≠ some (some (.ref D)) := by
  obtain ⟨z1, z2, z3⟩ := k.prot D (.lst vs) upd_same
  refine ⟨⟨k.len, k.fh, k.dat, k.cel, k.sep, k.pin, k.frame, k.newF, k.oldF, fun a o e => ?_, (k.dic.keep (Ex.refl F) (fun a xs e n => ?_) fun a xs _ n => ⟨n, rfl⟩)⟩, z2, z1, z3⟩
  · have ne : a ≠ D := fun z => by rw [z, hp] at e; cases e
    exact k.prot a o (show upd g.Pr D (.lst vs) a = some o by rw [upd_ne ne]; exact e)
  · have ne : a ≠ D := fun z => by rw [z, z1] at e; cases e
    have n : upd g.Pr D (.lst vs) a = none := n
    rw [upd_ne ne] at n
    exact n
/-- a cell of no name is written -/
theorem Ok.writeP (k : Ok K g F env σ H) {D : Addr} {o o0 : HO} (hD : H D = some o0) (hn : ∀ φ, o0 ≠ .ext φ) (t1 : ∀ ps, o0 ≠ .tbl ps) (t2 : ∀ q, o0 ≠ LamX.CodeO D q) (hF : F D = none) (h0 : g.H0 D = none) (hp : g.Pr D = none) (nw : ∀ (j : Nat) (p : Bool) (ys : List PyData), env[j]? = some (.cel p ys) → σ[j]? ≠ some (some (.ref D))) : Ok K g F env σ (upd H D o) := by
  refine ⟨k.len, fun a u e => ?_, k.dat, fun i p xs e => ?_, k.sep, k.pin, k.frame.putO hD t1 t2 (fun o e => by rw [h0] at e; cases e), k.newF, k.oldF, fun a u e => ?_, (k.dic.keep (Ex.refl F) (fun _ _ _ z => z) fun a xs e n => ⟨n, upd_ne fun z => ?_⟩)⟩
  · have ne : a ≠ D := fun z => by rw [z, hF] at e; cases e
    rw [upd_ne ne]
    exact k.fh a u e
  · obtain ⟨a, us, h1, h2, h3, h4⟩ := k.cel i p xs e
    have ne : a ≠ D := fun z => by subst z; exact nw i p xs e h1
    exact ⟨a, us, h1, h2, by rw [upd_ne ne]; exact h3, h4⟩
  · obtain ⟨z1, z2, z3⟩ := k.prot a u e
    have ne : a ≠ D := fun z => by rw [z, hp] at e; cases e
    exact ⟨by rw [upd_ne ne]; exact z1, z2, z3⟩
  · subst z
    rw [hD] at e
    exact hn xs (Option.some.inj e)
end

inductive CT where
  | one (i : Nat)
  | tup (is : List Nat)
def CT.slots : CT → List Nat
  | .one i => [i]
  | .tup is => is
def gNs : List Nat → TGs
  | [] => gNil
  | i :: is => gCons (gName i) (gNs is)
/-- the target's reading -/
def CT.g (K : PySem.W.Frag) : CT → TG
  | .one i => gName i
  | .tup is => gTup K is.length (gNs is)
def setK : List Nat → List PyData → List SD → (List SD → Prop) → Prop
  | [], ds, env, P => nilQ ds (P env)
  | i :: is, ds, env, P => consQ ds fun d r => setK is r (env.set i (.dat d)) P
theorem setK_inv : ∀ {is : List Nat} {ds : List PyData} {env : List SD} {P : List SD → Prop}, setK is ds env P → ds.length = is.length ∧ P (setAllD env is ds)
  | [], ds, env, P, h => by
    obtain ⟨rfl, h⟩ := nilQ_inv h
    exact ⟨rfl, h⟩
  | i :: is, ds, env, P, h => by
    obtain ⟨d, r, rfl, h⟩ := consQ_inv h
    obtain ⟨e, h⟩ := setK_inv (is := is) h
    exact ⟨by simp [e], h⟩
def CT.d : CT → DG
  | .one i => fun x env P => P (env.set i (.dat x))
  | .tup is => fun x env P => tupQ x fun ds => setK is ds env P
theorem gNs_ok : ∀ {is : List Nat} {vs : List V} {σ : L2.St} {H : Hp} {Q : L2.St → Hp → Prop}, vs.length = is.length → Q (setAll σ is vs) H → gNs is vs σ H Q
  | [], [], σ, H, Q, _, h => ⟨rfl, by simpa [setAll] using h⟩
  | [], _ :: _, _, _, _, e, _ => by simp at e
  | _ :: _, [], _, _, _, e, _ => by simp at e
  | i :: is, v :: vs, σ, H, Q, e, h => ⟨v, vs, rfl, gNs_ok (by simpa using e) (by unfold setAll at h; exact h)⟩
/-- whether the target is a tuple of names -/
def CT.isT : CT → Bool
  | .one _ => false
  | .tup _ => true
theorem CT.ok {K : PySem.W.Frag} {g : Gx Z} {F H : Hp} {env : List SD} {σ : L2.St} {t : CT} {x : V} {d : PyData} {P : List SD → Prop} {Q : L2.St → Hp → Prop} (k : Ok K g F env σ H) (hn : ∀ i ∈ t.slots, NoPar env i) (r : DRw K t.isT F x d) (w : t.d d env P)
    (q : ∀ env' σ', P env' → Ok K g F env' σ' H → (∃ us, σ' = setAll σ t.slots us) → Q σ' H) : t.g K x σ H Q := by
  cases t with
  | one i => exact q _ _ w (k.setD (hn i (List.mem_singleton.mpr rfl)) r.non) ⟨[x], by simp [CT.slots, setAll]⟩
  | tup is =>
    obtain ⟨ds, rfl, w⟩ := tupQ_inv w
    have w := setK_inv w
    obtain ⟨a, xs, rfl, h1, h2⟩ := r.tup
    exact ⟨a, xs, rfl, Evl.ex_t k.fh h1, h2.length.trans w.1, gNs_ok (h2.length.trans w.1) (q _ _ w.2 (k.setAll hn h2) ⟨xs, rfl⟩)⟩
def decQ {I S : Type} (dec : List SD → Option (I × S)) (N : I → S → Prop) (env : List SD) : Prop := match dec env with
  | some (i, s) => N i s
  | none => False
theorem decQ_inv {I S : Type} {dec : List SD → Option (I × S)} {N : I → S → Prop} {env : List SD} (h : decQ dec N env) : ∃ i s, dec env = some (i, s) ∧ N i s := by
  unfold decQ at h
  split at h
  · exact ⟨_, _, ‹_›, h⟩
  · exact h.elim
def qLc {I S : Type} (b : PyData → I → S → (I → S → Prop) → (PyData → I → S → Prop) → Prop) (i : I) : List PyData → List PyData → S → (List PyData → S → Prop) → Prop
  | [], acc, s, K => K acc s
  | d :: r, acc, s, K => b d i s (same i fun s => qLc b i r acc s K) fun y => same i fun s => acc.length < 100000 ∧ qLc b i r (acc ++ [y]) s K
abbrev dLcQ {I S : Type} (dec : List SD → Option (I × S)) (emb : I → S → List SD) (qb : PyData → I → S → (I → S → Prop) → (PyData → I → S → Prop) → Prop) (wi : DI) (t : CT) (env : List SD) (P : SD → List SD → Prop) : Prop :=
  wi env fun items env1 => bIf (t.slots.all (noPar env1)) (decQ dec (fun i s => qLc qb i items [] s fun acc s => bIf (t.slots.all (noPar (emb i s))) (P (.cel false acc) (again env1 t.slots (emb i s))) False) (wipeD env1 t.slots)) False
def LcHyp {I S : Type} (dec : List SD → Option (I × S)) (emb : I → S → List SD) (qb : PyData → I → S → (I → S → Prop) → (PyData → I → S → Prop) → Prop) (t : CT) (c : DT) (we : DE) : Prop :=
  ∀ (d : PyData) (i : I) (s : S) (sk : I → S → Prop) (yd : PyData → I → S → Prop), qb d i s sk yd → t.d d (emb i s) fun env1 => c env1 fun b env2 => bIf b
    (we env2 fun y env3 => bIf (t.slots.all (noPar env3)) (decQ dec (yd y) (wipeD env3 t.slots)) False)
    (bIf (t.slots.all (noPar env2)) (decQ dec sk (wipeD env2 t.slots)) False)
theorem noPar_all {env : List SD} {vs : List Nat} (h : vs.all (noPar env) = true) : ∀ v ∈ vs, NoPar env v := fun v hv => noPar_of (List.all_eq_true.mp h v hv)
theorem lift_lc {K : PySem.W.Frag} {I S : Type} {dec : List SD → Option (I × S)} {emb : I → S → List SD} {qb : PyData → I → S → (I → S → Prop) → (PyData → I → S → Prop) → Prop} (hde : ∀ env i s, dec env = some (i, s) → env = emb i s)
    {wi : DI} {t : CT} {c : DT} {we : DE} (hq : LcHyp dec emb qb t c we) {σ : L2.St} {H : Hp} {Q : VK} (h : liftX K Z (dLcQ dec emb qb wi t) σ H Q) : tLc (liftI K Z t.isT wi) (t.g K) (liftT K Z c) (liftE K Z we) t.slots σ H Q := by
  obtain ⟨g, F, env, P, k, w, q⟩ := h
  refine ⟨g, F, env, _, k, w, fun items env1 J F1 H1 p e1 k1 ⟨G, Y, wk, hG, hY⟩ D hD => ?_⟩
  obtain ⟨np, p⟩ := bIf_and p
  obtain ⟨i0, s0, d0, p⟩ := decQ_inv p
  have kw := k1.wiped (noPar_all np)
  obtain ⟨kn, rn⟩ := kw.newCell hD (vs := []) (xs := []) .nil
  refine lc_it wk (fun j H' => ∃ env' F' acc, Ex F1 F' ∧ Ok K g F' env' (wipe σ t.slots) H' ∧ ResOk K g F' env' (wipe σ t.slots) H' (.ref D) (.cel false acc) ∧ (∀ v ∈ t.slots, NoPar env' v) ∧
      decQ dec (same i0 fun s => qLc qb i0 (items.drop j) acc s fun acc s => bIf (t.slots.all (noPar (emb i0 s))) (P (.cel false acc) (again env1 t.slots (emb i0 s))) False) env')
    ⟨_, F1, [], Ex.refl F1, kn, rn, fun v hv => noPar_wipe (noPar_all np v hv) _, by unfold decQ; rw [d0]; exact ⟨rfl, p⟩⟩ (fun i H' _ ⟨env', F', acc, e2, k2, _⟩ => hG H' (e2.trans k2.fh)) (fun j x H' H2 hi ⟨env', F', acc, e2, k2, r2, n2, w2⟩ y => ?_) fun H' ⟨env', F', acc, e2, k2, r2, n2, w2⟩ => ?_
  · obtain ⟨i, s, de, rfl, w3⟩ := decQ_inv w2
    obtain rfl := hde _ _ _ de
    rw [List.drop_eq_getElem_cons hi] at w3
    have w2 := hq _ _ _ _ _ w3
    obtain ⟨D', vsA, eD, hF, hHD, rA, h0, hpr, nw⟩ := r2
    cases eD
    have kh := k2.hide hF hHD nw hpr
    obtain ⟨F3, e3, k3, r3⟩ := kh.yld e2 (hY j H' x H2 items[j] (e2.trans k2.fh) (by simp [hi]) y)
    refine CT.ok k3 n2 r3 w2 fun env4 σ4 p4 k4 ⟨us, hσ⟩ => ?_
    have hw : wipe σ4 t.slots = wipe σ t.slots := by rw [hσ, wipe_all (fun i hi => hi), wipe_wipe]
    refine ⟨hw, _, F3, env4, _, k4, p4, fun b env5 F5 H5 p5 e5 k5 => ?_⟩
    cases b with
    | false =>
      refine iteF ?_
      have p5 := bIf_and p5
      obtain ⟨k6, z1, z2, z3⟩ := Ok.bare hpr k5
      have k7 := k6.wiped (noPar_all p5.1)
      rw [hw] at k7
      refine ⟨_, F5, acc, (e2.trans e3).trans e5, k7, ?_, fun v hv => noPar_wipe (noPar_all p5.1 v hv) _, p5.2⟩
      refine ⟨D, vsA, rfl, z1, z2, rA.mono (e3.trans e5), h0, hpr, fun j p ys ej ez => ?_⟩
      rw [← hw] at ez
      exact wiped_cell z3 ej ez
    | true =>
      refine iteT ⟨_, F5, env5, _, k5, p5, fun d env6 v F6 H6 p6 e6 k6 r6 => ?_⟩
      obtain ⟨np6, p6⟩ := bIf_and p6
      obtain ⟨i6, s6, d6, hi6, p6⟩ := decQ_inv p6
      obtain ⟨k7, z1, z2, z3⟩ := Ok.bare hpr k6
      refine ⟨vsA, z2, by rw [rA.length]; exact Evl.sz_lt p6.1, ?_⟩
      have k8 := k7.wiped (noPar_all np6)
      have z4 : ∀ (j : Nat) (p : Bool) (ys : List PyData), (wipeD env6 t.slots)[j]? = some (.cel p ys) → (wipe σ4 t.slots)[j]? ≠ some (some (.ref D)) := fun j p ys ej ez => wiped_cell z3 ej ez
      have k9 := k8.writeP (o := .lst (vsA ++ [v])) z2 (fun _ z => by cases z) (fun _ z => by cases z) (fun _ z => codeO_lst z.symm) z1 h0 hpr z4
      rw [hw] at k9 z4
      exact ⟨_, F6, acc ++ [d], ((e2.trans e3).trans e5).trans e6, k9, ⟨D, vsA ++ [v], rfl, z1, upd_same, (rA.mono ((e3.trans e5).trans e6)).append (.one r6), h0, hpr, z4⟩, fun v hv => noPar_wipe (noPar_all np6 v hv) _, by unfold decQ; rw [d6]; exact ⟨hi6, p6.2⟩⟩
  · obtain ⟨i, s, de, rfl, w3⟩ := decQ_inv w2
    obtain rfl := hde _ _ _ de
    rw [List.drop_length] at w3
    have w2 := bIf_and w3
    have k3 := k2.unwiped
    have k4 := Ok.again k1 e2 k3 (noPar_all w2.1)
    obtain ⟨D', vsA, eD, hF, hHD, rA, h0, hpr, nw⟩ := r2
    cases eD
    refine q _ _ _ F' H' w2.2 (e1.trans e2) k4 ⟨D, vsA, rfl, hF, hHD, rA, h0, hpr, fun j p ys ej ez => ?_⟩
    have ej' := again_cell ej
    obtain ⟨a, _, b1, _⟩ := k3.cel j p ys ej'
    obtain ⟨a2, _, b2, _⟩ := k2.cel j p ys ej'
    have b3 := wipe_some b2
    rw [ez] at b1
    cases b1
    rw [ez] at b3
    cases b3.1
    exact nw j p ys ej' b2
where
  wiped_cell {env : List SD} {σ : L2.St} {D : Addr} {vs : List Nat} (z : ∀ (j : Nat) (p : Bool) (ys : List PyData), env[j]? = some (.cel p ys) → σ[j]? ≠ some (some (.ref D))) {j : Nat} {p : Bool} {ys : List PyData} (e : (wipeD env vs)[j]? = some (.cel p ys)) (e2 : (wipe σ vs)[j]? = some (some (.ref D))) : False := by
    have h1 := (wipe_some e2).1
    have : ∀ vs : List Nat, (wipeD env vs)[j]? = some (.cel p ys) → env[j]? = some (.cel p ys) := fun vs => by
      induction vs with
      | nil => exact id
      | cons v vs ih =>
        intro h
        rcases get_set h with ⟨_, q⟩ | ⟨_, q⟩
        · cases q
        · exact ih q
    exact z j p ys (this vs e) h1
  again_cell {env1 : List SD} {vs : List Nat} {env2 : List SD} {j : Nat} {p : Bool} {ys : List PyData} (e : (again env1 vs env2)[j]? = some (.cel p ys)) : env2[j]? = some (.cel p ys) := by
    induction vs generalizing env2 with
    | nil => exact e
    | cons v vs ih =>
      unfold again at e
      split at e
      · have := ih e
        rcases get_set this with ⟨_, q⟩ | ⟨_, q⟩
        · cases q
        · exact q
      · exact ih e
section
variable {X : Cx} {elt tg iter : Expr} {ifs : List Expr} {scope : Scope} {own : List (Str × Nat)} {pos : Pos} {wi : DI} {t : CT} {c : DT} {we : DE} {m : Nat} {I S : Type} {dec : List SD → Option (I × S)} {emb : I → S → List SD} {qb : PyData → I → S → (I → S → Prop) → (PyData → I → S → Prop) → Prop}
abbrev dYes (env : List SD) (P : Bool → List SD → Prop) : Prop := P true env
theorem tyes : PTs X [] (liftT X.K Z dYes) := ⟨fun pins s σ H Q I ⟨g, F, env, P, k, w, q⟩ => pts_nil.run pins s σ H Q I (q true env F H w (Ex.refl F) k)⟩
theorem tif1 {e : Expr} (h : PT X e (liftT X.K Z c)) : PTs X [e] (liftT X.K Z c) := pts_one h
/-- [elt for tg in iter if ..] -/
theorem dlc (own : List (Str × Nat)) (t : CT) (hde : ∀ env i s, dec env = some (i, s) → env = emb i s) (hc : X.calm = true) (hN : X.N.Nodup) (hi : PI X tg iter (liftI X.K Z t.isT wi)) (ok : BlkOk X.N X.env.scope scope own)
    (hg : ∀ (s : Shared) (H : Hp) (C : Addr) (cl : List (Str × Addr)) (fp : List Addr), PG (X.blk s H scope (compEnvC scope cl C X.env) fp) tg (t.g X.K)) (ht : ∀ (s : Shared) (H : Hp) (C : Addr) (cl : List (Str × Addr)) (fp : List Addr), PTs (X.blk s H scope (compEnvC scope cl C X.env) fp) ifs (liftT X.K Z c))
    (he : ∀ (s : Shared) (H : Hp) (C : Addr) (cl : List (Str × Addr)) (fp : List Addr), PE (X.blk s H scope (compEnvC scope cl C X.env) fp) elt (liftE X.K Z we)) (hq : LcHyp dec emb qb t c we) (hsl : t.slots = own.map (·.2) := by rfl) (hs : ∀ x, foldedSetIterable iter X.env x = pure x := by intro _; rfl) :
    PE X (.ListComp elt [⟨tg, iter, ifs, 0⟩] scope pos) (liftX X.K Z (dLcQ dec emb qb wi t)) := PE.of (pe_lc hc hN hi ok hg ht he hs) fun σ H Q h => by
  have h2 := lift_lc hde hq h
  rw [hsl] at h2
  exact h2
/-- name = [elt for tg in iter if ..] -/
theorem ssetLc (i : Nat) (own : List (Str × Nat)) (t : CT) (hde : ∀ env i s, dec env = some (i, s) → env = emb i s) {y : Str} {py spos : Pos} (hc : X.calm = true) (hN : X.N.Nodup) (hi : PI X tg iter (liftI X.K Z t.isT wi)) (ok : BlkOk X.N X.env.scope scope own)
    (hg : ∀ (s : Shared) (H : Hp) (C : Addr) (cl : List (Str × Addr)) (fp : List Addr), PG (X.blk s H scope (compEnvC scope cl C X.env) fp) tg (t.g X.K)) (ht : ∀ (s : Shared) (H : Hp) (C : Addr) (cl : List (Str × Addr)) (fp : List Addr), PTs (X.blk s H scope (compEnvC scope cl C X.env) fp) ifs (liftT X.K Z c))
    (he : ∀ (s : Shared) (H : Hp) (C : Addr) (cl : List (Str × Addr)) (fp : List Addr), PE (X.blk s H scope (compEnvC scope cl C X.env) fp) elt (liftE X.K Z we)) (hq : LcHyp dec emb qb t c we) (hsw : swapsWith (.ListComp elt [⟨tg, iter, ifs, 0⟩] scope pos) (some (.Name y py)) spos.line X.env = pure true)
    (hsl : t.slots = own.map (·.2) := by rfl) (hy : X.N[i]? = some y := by rfl) (hyl : X.env.scope.names.lookup y = some .local := by rfl) (hs : ∀ x, foldedSetIterable iter X.env x = pure x := by intro _; rfl) :
    PS X (.Assign [.Name y py] (.ListComp elt [⟨tg, iter, ifs, 0⟩] scope pos) spos) (liftS X.K Z m (dSet i (dLcQ dec emb qb wi t))) := PS.of (ps_setLc hc hN hy hyl hsw hi ok hg ht he hs) fun D σ H ⟨g, F, env, P, k, w, q⟩ => by
  have h2 : liftX X.K Z (dLcQ dec emb qb wi t) σ H fun v H1 => D.nx (σ.set i (some v)) H1 := ⟨g, F, env, _, k, w, fun r env1 v F1 H1 p e1 k1 r1 => q.nx _ _ F1 H1 (bIf_and p).2 e1 (k1.setR (bIf_and p).1 (res_own r1) own_ne)⟩
  have h3 := lift_lc hde hq h2
  rw [hsl] at h3
  exact h3
end
end DL

namespace DL
variable {T : List (PySem.Addr × PySem.Str)} {Z : Zx T}
open PySem PySem.Spec PyProof.Rows L2
open Evl (Ex)

section
variable {K : PySem.W.Frag} {F H : Hp} {vs : List V} {as : List SD}
/-- where the cells handed in stand -/
def cellsAt (vs : List V) (as : List SD) (i : Nat) : Option Addr := match as[i]?, vs[i]? with
  | some (.cel _ _), some (.ref a) => some a
  | _, _ => none
theorem cellsAt_of {i : Nat} {p : Bool} {xs : List PyData} {a : Addr} (h1 : as[i]? = some (.cel p xs)) (h2 : vs[i]? = some (.ref a)) : cellsAt vs as i = some a := by
  unfold cellsAt
  rw [h1, h2]
theorem cellsAt_inv {i : Nat} {a : Addr} (h : cellsAt vs as i = some a) : ∃ p xs, as[i]? = some (.cel p xs) ∧ vs[i]? = some (.ref a) := by
  unfold cellsAt at h
  split at h
  · rename_i p xs b h1 h2
    cases h
    exact ⟨p, xs, h1, h2⟩
  · cases h
def entryZ (T : List (Addr × Str)) (P : Program) (w : World) (F H : Hp) (vs : List V) (as : List SD) : Zx T := ⟨F, H, cellsAt vs as, fun _ => none, P, w⟩
def entryG (T : List (Addr × Str)) (P : Program) (w : World) (F H : Hp) (vs : List V) (as : List SD) : Gx (entryZ T P w F H vs as) := ⟨fun _ => none, fun _ _ h => h, fun _ _ h => by cases h⟩
theorem start_get {N : List Str} {i : Nat} {v : V} (h : vs[i]? = some v) : (start N vs)[i]? = some (some v) := by
  unfold L2.start
  have hi : i < vs.length := (List.getElem?_eq_some_iff.mp h).1
  rw [List.getElem?_append_left (by simpa using hi), List.getElem?_map, h]
  rfl
theorem args_get {m i : Nat} {r : SD} (h : (as ++ List.replicate m SD.un)[i]? = some r) (hr : r ≠ .un) : as[i]? = some r := by
  by_cases hi : i < as.length
  · rwa [List.getElem?_append_left hi] at h
  · rw [List.getElem?_append_right (by omega), List.getElem?_replicate] at h
    split at h
    · cases h
      exact absurd rfl hr
    · cases h
theorem entry_ok {N ps : List Str} (ha : ArgsOk T K F H vs as) (hl : as.length = ps.length) (hN : ps.length ≤ N.length) {P : Program} {w : World} : Ok K (entryG T P w F H vs as) F (as ++ List.replicate (N.length - ps.length) .un) (start N vs) H where
  len := by
    unfold L2.start
    have := ha.len
    simp
    omega
  fh := ha.fh
  dat := fun i d e => by
    obtain ⟨v, h1, h2⟩ := ha.dat i d (args_get e (fun z => by cases z))
    exact ⟨v, start_get h1, h2⟩
  cel := fun i p xs e => by
    have e := args_get e (fun z => by cases z)
    obtain ⟨rfl, a, us, h1, h2, h3, h4⟩ := ha.cel i p xs e
    exact ⟨a, us, start_get h1, h2, h3, h4, fun _ => cellsAt_of e h1, fun z => by cases z⟩
  sep := fun i j p q xs ys a e1 e2 h1 h2 => by
    have e1 := args_get e1 (fun z => by cases z)
    have e2 := args_get e2 (fun z => by cases z)
    obtain ⟨_, b, _, b1, _⟩ := ha.cel i p xs e1
    obtain ⟨_, c, _, c1, _⟩ := ha.cel j q ys e2
    rw [start_get b1] at h1
    rw [start_get c1] at h2
    cases h1
    cases h2
    exact ha.sep i j p q xs ys _ e1 e2 b1 c1
  pin := fun i a e => by
    obtain ⟨p, xs, h1, h2⟩ := cellsAt_inv e
    obtain ⟨rfl, _⟩ := ha.cel i p xs h1
    refine ⟨xs, ?_⟩
    rw [List.getElem?_append_left (List.getElem?_eq_some_iff.mp h1).1]
    exact h1
  frame := Frm.refl ha.tab
  newF := fun a o e => .inl e
  oldF := ⟨Ex.refl F, ha.nt⟩
  prot := fun a o e => by cases e
  dic := DicsOk.none fun i w e => ha.nod i w (args_get e (fun z => by cases z))
theorem post_of {P : Program} {w : World} {env : List SD} {σ : L2.St} {F' H' : Hp} {v : V} {r : SD} {n : Nat} (k : Ok K (entryG T P w F H vs as) F' env σ H') (hn : ∀ (i : Nat) (p : Bool) (xs : List PyData), as[i]? = some (.cel p xs) → i < n) (hr : ResOk K (entryG T P w F H vs as) F' env σ H' v r) : PostOk T K F H vs as F' H' (env.take n) v r where
  ex := k.oldF.1
  nt := k.oldF.2
  fh := k.fh
  newF := k.newF
  frame := k.frame.weak fun a o e n i z => by
    obtain ⟨p, xs, h1, h2⟩ := cellsAt_inv z
    exact n i p xs h1 h2
  cel := fun i p xs a h1 h2 => by
    have e : (entryG T P w F H vs as).A0 i = some a := cellsAt_of h1 h2
    obtain ⟨ys, h3⟩ := k.pin i a e
    obtain ⟨b, us, _, c2, c3, c4, c5, _⟩ := k.cel i true ys h3
    have c5 := c5 rfl
    rw [e] at c5
    cases c5
    refine ⟨ys, us, ?_, c2, c3, c4⟩
    rw [List.getElem?_take_of_lt (hn _ _ _ h1)]
    exact h3
  res := by
    cases r with
    | un => exact hr
    | dat d => exact hr
    | cel b xs =>
      obtain ⟨a, us, h1, h2, h3, h4, h5, _⟩ := hr
      exact ⟨a, us, h1, h2, h3, h4, h5⟩
    | dic kvs => exact hr.elim
end

section
variable {P : Program} {w : World} {K : PySem.W.Frag} {mg : Str → Option Value} {base : Heap}
/-- the ends of a def's body -/
def defEnds (m : Nat) (Q : SD → List SD → Prop) : DEnds := { nx := fun env => Q (.dat .none) (env.take m), rt := Q }
/-- cells stand ahead of place m alone -/
def CelsIn (m : Nat) (S : DSp) : Prop := ∀ as Q, S as Q → ∀ (i : Nat) (p : Bool) (xs : List PyData), as[i]? = some (.cel p xs) → i < m
/-- a def of the text, by its body read as data -/
theorem dfn (m : Nat) {x qual : Str} {st : Stmt} {f : Addr} {fd : FuncData} {N ps : List Str} {k : Nat} {S : DSp} (Fn : Fun K x qual st f fd) (sc : FnScope N ps (defScope st)) (len : ∀ as Q, S as Q → as.length = ps.length) (cels : CelsIn m S)
    (hbody : ∀ {Z : Zx T} (cdv : Value) (A : Around) (outer : List Env) (s : Shared) (H : Hp), Room k (A.deeper (envOfC qual (defScope st) s.heap.objs.size f cdv)) → (A.deeper (envOfC qual (defScope st) s.heap.objs.size f cdv)).guards = some [] →
      ∃ t : DS, PSs (cxOf CX0 P w K mg base N qual (defScope st) f cdv A outer s H E0).nox (defBody st) (liftS K Z m t) ∧
        ∀ as Q, S as Q → t (defEnds m Q) (as ++ List.replicate (N.length - ps.length) .un)) : FnG P w K mg base T (k + 1) f fd ps S := by
  obtain ⟨oc, od, kV, doc, pm, an, cdv, ct, osl, rfl, lk, hcd⟩ := Fn.ex
  refine ⟨len, fun A outer s H args us vs Q hr hg e0 hb rv ⟨F0, as, PP, ha, hS, hQ⟩ => ?_⟩
  have hl : vs.length = ps.length := ha.len.symm.trans (len as PP hS)
  have hpl : ps.length ≤ N.length := by
    have := congrArg List.length sc.pre
    rw [List.length_take] at this
    omega
  have KX : K.In s.heap := e0.mod.kin.keeps fun b o e => (e0.bs b o e).1
  refine codeAny_call_function hr.depth (KX _ _ lk) rfl sc.co sc.gen rfl (PySem.W.codeRec_of KX hcd) (hb _ _ _ _ (wpAny_newFunctionEnv_cells sc.kind (fun ⟨n, v⟩ hy => ?_) fun env he s1 x => ?_))
  · rcases sc.par n (List.of_mem_zip hy).1 with q | q
    · exact .inl q
    · exact .inr ⟨q, PySem.W.cellsFrom_some _ _ _ (.inl q)⟩
  · subst he
    obtain ⟨t, ht, hq⟩ := hbody (Z := entryZ T P w F0 H vs as) cdv A outer s H (hr.deeper _) hg
    have I : Inv (cxOf CX0 P w K mg base N qual (defScope st) f cdv A outer s H E0) [] (start N vs) H s1 := inv_start sc hr.hd e0 hl rv x
    refine ⟨(e0.mod.nolimit.keeps fun b o e => (e0.bs b o e).1).keeps x.toInCall.keep, codeAny_func (wpAny_mono (ht.nox.run [] s1 (start N vs) H { nx := fun _ H' => Q .non H', rt := Q } I ?_) (fun fl s' hs => ?_) fun e s' hs => hs)⟩
    · have al : as.length = ps.length := len as PP hS
      refine ⟨entryG T P w F0 H vs as, F0, _, _, entry_ok ha al hpl, hq as PP hS, ?_⟩
      exact .mk4 (.mk (fun env' σ' F' H' p _ k' => hQ _ _ _ _ _ p (post_of k' (cels _ _ hS) .non)) (fun _ _ _ _ p => p.elim) (fun _ _ _ _ p => p.elim) (fun r env' v σ' F' H' p _ k' r' => hQ _ _ _ _ _ p (post_of k' (cels _ _ hS) r'))) rfl
    · have fin : ∀ {σ' : L2.St} {H' : Hp} {v : V} {u : Value}, Inv (cxOf CX0 P w K mg base N qual (defScope st) f cdv A outer s H E0) [] σ' H' s' → RelV v u → Q v H' → CE outer P w H s Q u s' :=
        fun {σ' H' v u} J r q => ⟨v, H', J.os, J.bare, J.base, J.hok, r, q⟩
      match fl, hs with
      | .ret u, ⟨v, σ', H', J, r, q⟩ => exact fin J r q
      | .next, ⟨σ', H', J, q⟩ => exact fin (v := V.non) (u := Value.none) J rfl q
      | .brk, ⟨_, _, _, q⟩ => exact q.elim
      | .cont, ⟨_, _, _, q⟩ => exact q.elim
/-- what is asked of a law's def: of a list of the script's numbers it tells True -/
def lawS (n : Nat) : DSp := fun as Q => match as with
  | [.dat (.list ds)] => (∃ ns : List Int, ds = ns.map .int ∧ ns.length ≤ n) ∧ ∀ as', Q (.dat (.bool true)) as'
  | _ => False
theorem drs_ints {F : Hp} : ∀ ns : List Int, DRs K F (ns.map V.int) (ns.map PyData.int)
  | [] => .nil
  | n :: ns => .cons (.int n) (drs_ints ns)
/-- the modules' dict stands -/
def SysD (h : Heap) : Prop := ∃ o es ep, h.get? sysModules = some o ∧ o.data = .dict es ep
class SysB (base : Heap) : Prop where
  out : SysD base
end
end DL

namespace DL
variable {T : List (PySem.Addr × PySem.Str)} {Z : Zx T}
open PySem PySem.Spec PyProof.Rows L2
open Evl (Ex)

/-- a def of the top that keeps its promise -/
structure Dn (P : Program) (w : World) (K : PySem.W.Frag) (mg : Str → Option Value) (base : Heap) (T : List (Addr × Str)) (x : Str) (k : Nat) (ps : List Str) (S : DSp) : Prop where
  ex : ∃ fd, FnG P w K mg base T k (He.ga K x) fd ps S ∧ Binds K fd ps []
  glo : mg x = some (.ref (He.ga K x))
  kp : PySem.W.keepIn K (.ref (He.ga K x)) = true
/-- what the head says of the top -/
structure Top (fa : List He.Fa) (fn : List He.FnD) (K : PySem.W.Frag) (mg : Str → Option Value) : Prop where
  says : He.SaysE fa fn K
  ns : ∃ h, K.In h ∧ h.Ns mainGlobals mg
section
variable {fa : List He.Fa} {fn : List He.FnD} {K : PySem.W.Frag} {mg : Str → Option Value}
theorem Top.glo (T : Top fa fn K mg) (x : Str) (i : Nat) (h : fa[i]? = some (.glo x) := by rfl) : mg x = some (.ref (He.ga K x)) := by
  obtain ⟨hp, h1, h2⟩ := T.ns
  exact He.glo_ok h1 h2 (T.says.fact i h)
theorem Top.free (T : Top fa fn K mg) (x : Str) (i : Nat) (h : fa[i]? = some (.free x) := by rfl) : mg x = none := by
  obtain ⟨hp, h1, h2⟩ := T.ns
  exact He.free_ok h1 h2 (T.says.fact i h)
theorem Top.int (T : Top fa fn K mg) (x : Str) (n : Int) (i : Nat) (h : fa[i]? = some (.int x n) := by rfl) : ∃ t, mg x = some (.int n t) := by
  obtain ⟨hp, h1, h2⟩ := T.ns
  exact He.int_ok h1 h2 (T.says.fact i h)
theorem Top.keep (T : Top fa fn K mg) (x : Str) (i : Nat) (h : fa[i]? = some (.keep x) := by rfl) : PySem.W.keepIn K (.ref (He.ga K x)) = true := He.keep_ok (T.says.fact i h)
theorem Top.fun_ (T : Top fa fn K mg) (x : Str) (st : Stmt) (i j : Nat) (h : fn[i]? = some ⟨(x, none), x, x, defArgs st, defBody st, defScope st⟩ := by rfl) (hk : fa[j]? = some (.keep x) := by rfl) :
    ∃ kV doc pm an cdv ct, Fun K x x st (He.ga K x) (PySem.W.fnOf x x (defArgs st) (defBody st) (defScope st) .none kV doc pm an cdv ct) := by
  obtain ⟨oc, od, osl, kV, doc, pm, an, cdv, ct, h1, h2⟩ := T.says.def_ i h
  exact ⟨kV, doc, pm, an, cdv, ct, fun_mk h1 h2 (T.keep x j hk)⟩
/-- a module's whole number -/
theorem dnum {X : Cx} {x : Str} {n : Int} {pos : Pos} (hm : ∃ t, X.mg x = some (.int n t)) (hg : Gl X x := by rfl) (hdb : (x == ("__debug__" : Str)) = false := by decide) : PE X (.Name x pos) (liftE X.K Z (dC (.int n))) := by
  obtain ⟨t, h⟩ := hm
  exact dglob (v := .int n) h ⟨t, rfl⟩ (fun _ => .int n) hg hdb
end
section
variable {X : Cx} {k : Nat} {ps : List Str} {S : DSp} {x : Str} {p pos : Pos} {e : Expr} {es : List Expr} {was : DA}
theorem dcn (D : Dn X.prog X.w X.K X.mg X.base T x k ps S) (hr : Room k X.A) (hA : X.A.guards = some [])
    (ha : PA X (e :: es) (liftA X.K Z was)) (hg : Gl X x := by rfl) (hdb : (x == ("__debug__" : Str)) = false := by decide)
    (he : starEach (e :: es) X.env = (false, eval e X.env) :: starEach es X.env := by rfl) (hpl : (backTo pos (starEach es X.env)).any (·.1) = false := by rfl) : PE X (.Call (.Name x p) (e :: es) [] pos) (liftX X.K Z (dCall S was)) := by
  obtain ⟨fd, h1, h2⟩ := D.ex
  exact dcall h1 hr hA D.glo D.kp h2 ha hg hdb he hpl
theorem dcnC (i : Nat) {y : Str} {p0 : Pos} (D : Dn X.prog X.w X.K X.mg X.base T x k ps S) (hr : Room k X.A) (hA : X.A.guards = some [])
    (ha : PA X es (liftA X.K Z was)) (hN : X.N[i]? = some y := by rfl) (hv : Vis X.env.scope y := by first | exact Or.inl rfl | exact Or.inr (Or.inl rfl) | exact Or.inr (Or.inr rfl)) (hd : (y == ("__debug__" : Str)) = false := by decide)
    (hcd : (y == ("__classdict__" : Str)) = false := by decide) (hg : Gl X x := by rfl) (hdb : (x == ("__debug__" : Str)) = false := by decide)
    (he : starEach (.Name y p0 :: es) X.env = (false, eval (.Name y p0) X.env) :: starEach es X.env := by rfl) (hpl : (backTo pos (starEach es X.env)).any (·.1) = false := by rfl) :
    PE X (.Call (.Name x p) (.Name y p0 :: es) [] pos) (liftX X.K Z (dCallC S i was)) := by
  obtain ⟨fd, h1, h2⟩ := D.ex
  exact dcallC i h1 hr hA D.glo D.kp h2 ha hN hv hd hcd hg hdb he hpl
end
/-- the head's facts, and that the modules' dict stands -/
def sysB (g : Addr → Option Obj) : Bool := match g sysModules with
  | some ⟨_, _, .dict _ _, _⟩ => true
  | _ => false
theorem sysB_of {h : Heap} (e : sysB h.get? = true) : SysD h := by
  unfold sysB at e
  split at e
  · rename_i c di es ep sl z
    exact ⟨_, es, ep, z, rfl⟩
  · cases e
end DL

namespace DL
variable {T : List (PySem.Addr × PySem.Str)} {Z : Zx T}
open PySem PySem.Spec PyProof.Rows L2
open Evl (Ex)

mutual
/-- leaves that can be shown -/
def rp : PyData → Bool
  | .none => true
  | .bool _ => true
  | .int i => decide (i.natAbs < 10 ^ 250)
  | .str x => x.cps.toList.all fun c => decide (c < 16 ^ 8)
  | .list xs => rpAll xs
  | .tuple xs => rpAll xs
  | .dict kvs => kvs.isEmpty
def rpAll : List PyData → Bool
  | [] => true
  | x :: xs => rp x && rpAll xs
end
section
variable {X : Cx} {K : PySem.W.Frag} {e : Expr} {es : List Expr} {p pos : Pos} {was : DA} {k : Nat}
/-- sum of a list, of a tuple of whole numbers -/
def rSumD (K : PySem.W.Frag) : List V → Hp → VK → Prop := fun vs H Q => ∃ (a : Addr) (ns : List Int), vs = [.ref a] ∧ (SqL K H a (ns.map V.int) ∨ SqT K H a (ns.map V.int)) ∧ Q (.int ns.sum) H
theorem call_sumD (hc : X.calm = true) : CallR X (.builtin "sum") (rSumD X.K) := by
  intro pins s σ H xs us Q I r h
  obtain ⟨a, ns, rfl, h | h, q⟩ := h
  · exact cr_sum hc pins s σ H _ us Q I r ⟨a, ns, rfl, h, q⟩
  · cases r.ref1
    obtain ⟨its, rv, ht, hz⟩ := I.tuple h
    have hi := rv.ints
    obtain ⟨xs, hx⟩ := hi.allInts.items
    have hn : numsOf its.toArray.toList = ns := by rw [show its.toArray.toList = its from rfl, hi.numsOf]
    have ht2 : s.heap.IsTuple a its.toArray := ht
    rw [hx] at ht2 hn
    rw [nums_intItems] at hn
    refine PySem.W.ktm_sumG (I.ok.hd hc) ht2 fun h' tk t' hk => ?_
    rw [preSum_eq, List.take_of_length_le (by simp), hn]
    exact ⟨.int ns.sum, H, I.kept hk, ⟨_, rfl⟩, q⟩
def nSum (xs : List PyData) (P : PyData → Prop) : Prop := match xs with
  | [.list ds] => (match intsD ds with | some ns => P (.int ns.sum) | none => False)
  | [.tuple ds] => (match intsD ds with | some ns => P (.int ns.sum) | none => False)
  | _ => False
theorem dsum (hm : X.mg "sum" = none) (hc : X.calm = true) (ha : PA X (e :: es) (liftA X.K Z was)) (hg : Gl X "sum" := by rfl)
    (he : starEach (e :: es) X.env = (false, eval e X.env) :: starEach es X.env := by rfl) (hpl : (backTo pos (starEach es X.env)).any (·.1) = false := by rfl) : PE X (.Call (.Name "sum" p) (e :: es) [] pos) (liftE X.K Z (dB nSum was)) :=
  dcb (call_sumD hc) (fun _ _ g F env σ H vs ds P Q k r f q => by
    unfold nSum at f
    split at f
    · split at f
      · rename_i ns e
        obtain ⟨v, rfl, r0⟩ := r.inv1
        obtain ⟨a, us, rfl, h1, h2⟩ := r0.inv_lst
        cases ints_rel h2 e
        exact ⟨a, ns, rfl, .inl (h1.mono k.fh).sq, q _ _ F H f (Ex.refl F) k (.int _)⟩
      · exact f.elim
    · split at f
      · rename_i ns e
        obtain ⟨v, rfl, r0⟩ := r.inv1
        obtain ⟨a, us, rfl, h1, h2⟩ := r0.inv_tup
        cases ints_rel h2 e
        exact ⟨a, ns, rfl, .inr (Evl.ex_t k.fh h1), q _ _ F H f (Ex.refl F) k (.int _)⟩
      · exact f.elim
    · exact f.elim) hm (by decide +kernel) ha hg (by decide) (by decide) he hpl
end
end DL

namespace DL
variable {T : List (PySem.Addr × PySem.Str)} {Z : Zx T}
open PySem PySem.Spec PyProof.Rows L2

section
variable {I S : Type}
theorem qFor_go {b : PyData → I → S → (I → S → Prop) → (I → S → Prop) → Prop} {items : List PyData} {i : I} {K : S → Prop} (Inv : Nat → S → Prop)
    (step : ∀ (k : Nat) (d : PyData) (s : S) (nx : I → S → Prop), items[k]? = some d → Inv k s → (∀ s', Inv (k + 1) s' → nx i s') → b d i s nx (same i K))
    (fin : ∀ s, Inv items.length s → K s) : ∀ (m k : Nat) (s : S), k + m = items.length → Inv k s → qFor b i (items.drop k) s K
  | 0, k, s, hm, h => by
    have e : k = items.length := by omega
    subst e
    rw [List.drop_length]
    exact fin s h
  | m + 1, k, s, hm, h => by
    have hk : k < items.length := by omega
    rw [List.drop_eq_getElem_cons hk]
    exact step k _ s _ (by simp [hk]) h fun s' h' => ⟨rfl, qFor_go Inv step fin m (k + 1) s' (by omega) h'⟩
/-- a for, by what holds ahead of each turn -/
theorem qFor_ind {b : PyData → I → S → (I → S → Prop) → (I → S → Prop) → Prop} {items : List PyData} {i : I} {s : S} {K : S → Prop} (Inv : Nat → S → Prop) (h0 : Inv 0 s)
    (step : ∀ (k : Nat) (d : PyData) (s : S) (nx : I → S → Prop), items[k]? = some d → Inv k s → (∀ s', Inv (k + 1) s' → nx i s') → b d i s nx (same i K))
    (fin : ∀ s, Inv items.length s → K s) : qFor b i items s K := qFor_go Inv step fin items.length 0 s (by omega) h0
/-- a for over a range -/
theorem qFor_range {b : PyData → I → S → (I → S → Prop) → (I → S → Prop) → Prop} {lo : Int} {n : Nat} {i : I} {s : S} {K : S → Prop} (Inv : Nat → S → Prop) (h0 : Inv 0 s)
    (step : ∀ (k : Nat) (s : S) (nx : I → S → Prop), k < n → Inv k s → (∀ s', Inv (k + 1) s' → nx i s') → b (.int (lo + k)) i s nx (same i K))
    (fin : ∀ s, Inv n s → K s) : qFor b i (rangeD lo n) s K := by
  have hl : (rangeD lo n).length = n := by simp [rangeD]
  refine qFor_ind Inv h0 (fun k d s nx hd hi hn => ?_) fun s h => fin s (by rwa [hl] at h)
  unfold rangeD at hd
  rw [List.getElem?_map] at hd
  by_cases hk : k < n
  · rw [List.getElem?_range hk] at hd
    cases hd
    exact step k s nx hk hi hn
  · rw [List.getElem?_eq_none (by simp; omega)] at hd
    cases hd
/-- a for whose turns carry nothing -/
theorem qFor_all {b : PyData → I → S → (I → S → Prop) → (I → S → Prop) → Prop} {items : List PyData} {i : I} {s : S} {K : S → Prop} (Inv : S → Prop) (h0 : Inv s)
    (step : ∀ (d : PyData) (s : S) (nx : I → S → Prop), d ∈ items → Inv s → (∀ s', Inv s' → nx i s') → b d i s nx (same i K)) (fin : ∀ s, Inv s → K s) : qFor b i items s K :=
  qFor_ind (fun _ s => Inv s) h0 (fun _ d s nx hd hi hn => step d s nx (List.mem_of_getElem? hd) hi hn) fun s h => fin s h
theorem qWhile_go {b : I → S → (I → S → Prop) → (I → S → Prop) → Prop} {i : I} {K : S → Prop} (Inv : Nat → S → Prop)
    (step : ∀ (m : Nat) (s : S) (nx : I → S → Prop), Inv m s → (∀ m' s', m' < m → Inv m' s' → nx i s') → b i s nx (same i K)) : ∀ (n m : Nat) (s : S), m < n → Inv m s → qWhileN b i n s K
  | 0, _, _, h, _ => absurd h (Nat.not_lt_zero _)
  | n + 1, m, s, h, hi => step m s _ hi fun m' s' hm hi' => ⟨rfl, qWhile_go Inv step n m' s' (by omega) hi'⟩
/-- a while, by a measure that falls -/
theorem qWhile_ind {b : I → S → (I → S → Prop) → (I → S → Prop) → Prop} {i : I} {s : S} {K : S → Prop} (Inv : Nat → S → Prop) {m : Nat} (h0 : Inv m s)
    (step : ∀ (m : Nat) (s : S) (nx : I → S → Prop), Inv m s → (∀ m' s', m' < m → Inv m' s' → nx i s') → b i s nx (same i K)) : qWhile b i s K := ⟨m + 1, qWhile_go Inv step (m + 1) m s (Nat.lt_succ_self m) h0⟩
theorem qLc_go {b : PyData → I → S → (I → S → Prop) → (PyData → I → S → Prop) → Prop} {items : List PyData} {i : I} {K : List PyData → S → Prop} (Inv : Nat → List PyData → S → Prop)
    (step : ∀ (k : Nat) (d : PyData) (acc : List PyData) (s : S) (sk : I → S → Prop) (yd : PyData → I → S → Prop), items[k]? = some d → Inv k acc s → (∀ s', Inv (k + 1) acc s' → sk i s') →
      (∀ y s', acc.length < 100000 → Inv (k + 1) (acc ++ [y]) s' → yd y i s') → b d i s sk yd) (hz : ∀ k acc s, k < items.length → Inv k acc s → acc.length < 100000)
    (fin : ∀ acc s, Inv items.length acc s → K acc s) : ∀ (m k : Nat) (acc : List PyData) (s : S), k + m = items.length → Inv k acc s → qLc b i (items.drop k) acc s K
  | 0, k, acc, s, hm, h => by
    have e : k = items.length := by omega
    subst e
    rw [List.drop_length]
    exact fin acc s h
  | m + 1, k, acc, s, hm, h => by
    have hk : k < items.length := by omega
    rw [List.drop_eq_getElem_cons hk]
    exact step k _ acc s _ _ (by simp [hk]) h (fun s' h' => ⟨rfl, qLc_go Inv step hz fin m (k + 1) acc s' (by omega) h'⟩) fun y s' hl h' => ⟨rfl, hz k acc s hk h, qLc_go Inv step hz fin m (k + 1) (acc ++ [y]) s' (by omega) h'⟩
/-- a comprehension, by what holds ahead of each turn -/
theorem qLc_ind {b : PyData → I → S → (I → S → Prop) → (PyData → I → S → Prop) → Prop} {items : List PyData} {i : I} {s : S} {K : List PyData → S → Prop} (Inv : Nat → List PyData → S → Prop) (h0 : Inv 0 [] s)
    (hz : ∀ k acc s, k < items.length → Inv k acc s → acc.length < 100000)
    (step : ∀ (k : Nat) (d : PyData) (acc : List PyData) (s : S) (sk : I → S → Prop) (yd : PyData → I → S → Prop), items[k]? = some d → Inv k acc s → (∀ s', Inv (k + 1) acc s' → sk i s') →
      (∀ y s', Inv (k + 1) (acc ++ [y]) s' → yd y i s') → b d i s sk yd)
    (fin : ∀ acc s, Inv items.length acc s → K acc s) : qLc b i items [] s K :=
  qLc_go Inv (fun k d acc s sk yd hd hi h1 h2 => step k d acc s sk yd hd hi h1 fun y s' h => h2 y s' (hz k acc s (List.getElem?_eq_some_iff.mp hd).1 hi) h) hz fin items.length 0 [] s (by omega) h0
/-- each item gives one, a state is carried -/
theorem qLc_each {b : PyData → I → S → (I → S → Prop) → (PyData → I → S → Prop) → Prop} {items : List PyData} {i : I} {s : S} {K : List PyData → S → Prop} (T : PyData → Prop) (Inv : Nat → S → Prop) (h0 : Inv 0 s) (hz : items.length ≤ 100000)
    (step : ∀ (k : Nat) (d : PyData) (s : S) (sk : I → S → Prop) (yd : PyData → I → S → Prop), items[k]? = some d → Inv k s → (∀ y s', T y → Inv (k + 1) s' → yd y i s') → b d i s sk yd)
    (fin : ∀ acc s, acc.length = items.length → (∀ y ∈ acc, T y) → Inv items.length s → K acc s) : qLc b i items [] s K :=
  qLc_ind (fun k acc s => acc.length = k ∧ (∀ y ∈ acc, T y) ∧ Inv k s) ⟨rfl, by simp, h0⟩ (fun k acc s hk h => by have := h.1; omega) (fun k d acc s sk yd hd ⟨h1, h2, h3⟩ _ hy => step k d s sk yd hd h3 fun y s' ty h' => hy y s' ⟨by simp [h1], fun z hz => by
    rcases List.mem_append.mp hz with hz | hz
    · exact h2 z hz
    · rw [List.mem_singleton.mp hz]; exact ty, h'⟩) fun acc s ⟨h1, h2, h3⟩ => fin acc s h1 h2 h3
/-- [f x for x in items], nothing changed -/
theorem qLc_map {b : PyData → I → S → (I → S → Prop) → (PyData → I → S → Prop) → Prop} {items : List PyData} {i : I} {s : S} {K : List PyData → S → Prop} (f : PyData → PyData) (hz : items.length ≤ 100000)
    (step : ∀ d ∈ items, ∀ (sk : I → S → Prop) (yd : PyData → I → S → Prop), yd (f d) i s → b d i s sk yd) (fin : K (items.map f) s) : qLc b i items [] s K :=
  qLc_ind (fun k acc s' => acc = (items.take k).map f ∧ s' = s) ⟨by simp, rfl⟩ (fun k acc s' hk h => by rw [h.1]; simp; omega)
    (fun k d acc s' sk yd hd ⟨h1, h2⟩ _ hy => by
      subst h2
      refine step d (List.mem_of_getElem? hd) sk yd (hy _ _ ⟨?_, rfl⟩)
      rw [List.take_add_one, hd, h1]
      simp) fun acc s' ⟨h1, h2⟩ => by
      subst h1 h2
      rw [List.take_length]
      exact fin
end
theorem ixN_in {n : Nat} {k : Int} (h0 : 0 ≤ k) (h1 : k < n) : ixN n k = some k.toNat := by
  unfold ixN
  rw [if_pos h0, if_pos h1]
theorem atI_in {xs : List PyData} {k : Int} (h0 : 0 ≤ k) (h1 : k < xs.length) : ∃ d, atI xs k = some d ∧ d ∈ xs := by
  unfold atI
  rw [ixN_in h0 h1]
  have hk : k.toNat < xs.length := by omega
  exact ⟨xs[k.toNat], by simp [hk], List.getElem_mem hk⟩
theorem at_of {xs : List PyData} {k : Int} {P : PyData → Prop} (h0 : 0 ≤ k) (h1 : k < xs.length) (h : ∀ d ∈ xs, P d) : pick xs k P := by
  obtain ⟨d, e, m⟩ := atI_in h0 h1
  unfold pick
  rw [e]
  exact h d m
theorem pick_at {xs : List PyData} {k : Nat} {P : PyData → Prop} {d : PyData} (e : xs[k]? = some d) (h : P d) : pick xs (k : Int) P := by
  unfold pick atI
  rw [ixN_in (by omega) (by have := (List.getElem?_eq_some_iff.mp e).1; omega)]
  show match xs[(k : Int).toNat]? with | some d => P d | none => False
  rw [Int.toNat_natCast, e]
  exact h
theorem pick_eq {xs : List PyData} {k : Int} {P : PyData → Prop} {d : PyData} (e : atI xs k = some d) : pick xs k P = P d := by
  unfold pick
  rw [e]
theorem range_get {lo : Int} {n i : Nat} {d : PyData} (h : (rangeD lo n)[i]? = some d) : i < n ∧ d = .int (lo + i) := by
  unfold rangeD at h
  rw [List.getElem?_map] at h
  by_cases hi : i < n
  · rw [List.getElem?_range hi] at h
    cases h
    exact ⟨hi, rfl⟩
  · rw [List.getElem?_eq_none (by simp; omega)] at h
    cases h
theorem range_len {lo : Int} {n : Nat} : (rangeD lo n).length = n := by simp [rangeD]
end DL

namespace DL
variable {T : List (PySem.Addr × PySem.Str)} {Z : Zx T}
open PySem PySem.Spec PyProof.Rows L2
open Evl (Ex)

section
variable {X : Cx} {a b e : Expr} {es : List Expr} {we wa wb : DE} {was : DA} {pos p2 p : Pos} {K : PySem.W.Frag}
abbrev DO := List SD → (Option Int → List SD → Prop) → Prop
def liftO (K : PySem.W.Frag) (Z : Zx T) (w : DO) : TO := fun σ H Q => ∃ (g : Gx Z) (F : Hp) (env : List SD) (P : Option Int → List SD → Prop), Ok K g F env σ H ∧ w env P ∧
  ∀ o env' F' H', P o env' → Ex F F' → Ok K g F' env' σ H' → Q o H'
theorem PO.of {e : Option Expr} {t t' : TO} (h : PO X e t) (w : ∀ σ H Q, t' σ H Q → t σ H Q) : PO X e t' := ⟨fun pins s σ H Q I q => h.run pins s σ H Q I (w σ H Q q)⟩
abbrev dNo (env : List SD) (P : Option Int → List SD → Prop) : Prop := P none env
def soQ (x : PyData) (K : Option Int → Prop) : Prop := match x with
  | .int i => K (some i)
  | _ => False
abbrev dSo (w : DE) (env : List SD) (P : Option Int → List SD → Prop) : Prop := w env fun x env' => soQ x fun o => P o env'
theorem so_none : PO X none (liftO X.K Z dNo) := PO.of po_none fun σ H Q ⟨g, F, env, P, k, w, q⟩ => q none env F H w (Ex.refl F) k
theorem so_some (h : PE X e (liftE X.K Z we)) : PO X (some e) (liftO X.K Z (dSo we)) := PO.of (po_some h) fun σ H Q ⟨g, F, env, P, k, w, q⟩ =>
  ⟨g, F, env, _, k, w, fun d env1 v F1 H1 p e1 k1 r1 => by
    unfold soQ at p
    split at p
    · cases r1.inv_int
      exact ⟨_, rfl, q _ env1 F1 H1 p e1 k1⟩
    · exact p.elim⟩
/-- the items of ds[lo:hi] -/
def cutD (ds : List PyData) (lo hi : Option Int) : List PyData := (ds.drop (HT.sIx ds.length 0 lo)).take (HT.sIx ds.length ds.length hi - HT.sIx ds.length 0 lo)
theorem DRs.cut {H : Hp} {vs : List V} {ds : List PyData} (lo hi : Option Int) (h : DRs K H vs ds) : DRs K H (cutV vs lo hi) (cutD ds lo hi) := by
  unfold cutV cutD
  rw [h.length]
  exact (h.drop _).take _
def oSl (x : PyData) (lo hi : Option Int) (P : PyData → Prop) : Prop := match x with
  | .tuple ds => P (.tuple (cutD ds lo hi))
  | .list ds => P (.list (cutD ds lo hi))
  | .str z => z.length ≤ 100000 ∧ P (.str (cutS z lo hi))
  | _ => False
abbrev dSl (w : DE) (l h : DO) (env : List SD) (P : PyData → List SD → Prop) : Prop := w env fun x env1 => l env1 fun lo env2 => h env2 fun hi env3 => oSl x lo hi fun d => P d env3
theorem cutD_whole {xs : List PyData} {lo hi : Option Int} (h : HT.sIx xs.length 0 lo = 0 ∧ HT.sIx xs.length xs.length hi = xs.length) : cutD xs lo hi = xs := by
  unfold cutD
  rw [h.1, h.2]
  simp
theorem dsl {l u : Option Expr} {tl tu : DO} (he : PE X e (liftE X.K Z we)) (hl : PO X l (liftO X.K Z tl)) (hu : PO X u (liftO X.K Z tu)) : PE X (.Subscript e (.Slice l u none p2) pos) (liftE X.K Z (dSl we tl tu)) :=
  PE.of (pe_slice (SlR.or sl_tupZ (SlR.or sl_list sl_str)) he hl hu) fun σ H Q ⟨g, F, env, P, k, w, q⟩ =>
    ⟨g, F, env, _, k, w, fun d env1 v F1 H1 p e1 k1 r1 => ⟨g, F1, env1, _, k1, p, fun lo env2 F2 H2 p2 e2 k2 => ⟨g, F2, env2, _, k2, p2, fun hi env3 F3 H3 p3 e3 k3 => by
      have r3 := (r1.mono e2).mono e3
      have e13 := e1.trans (e2.trans e3)
      unfold oSl at p3
      split at p3
      · rename_i ds
        obtain ⟨a, us, rfl, h1, h2⟩ := r3.inv_tup
        refine .inl ⟨a, us, rfl, Evl.ex_t k3.fh h1, fun hw => ?_, fun _ x o hx ho => ?_⟩
        · rw [h2.length] at hw
          rw [cutD_whole hw] at p3
          exact q _ env3 _ F3 H3 p3 e13 k3 r3
        · obtain ⟨e4, k4, r4⟩ := k3.newTup hx ho (h2.cut lo hi)
          exact q _ env3 _ _ _ p3 (e13.trans e4) k4 r4
      · rename_i ds
        obtain ⟨a, us, rfl, h1, h2⟩ := r3.inv_lst
        refine .inr (.inl ⟨a, us, rfl, (h1.mono k3.fh).sq, fun x hx => ?_⟩)
        obtain ⟨e4, k4, r4⟩ := k3.newLst hx (h2.cut lo hi)
        exact q _ env3 _ _ _ p3 (e13.trans e4) k4 r4
      · cases r3.inv_str
        exact .inr (.inr ⟨_, rfl, sz2 p3.1, q _ env3 _ F3 H3 p3.2 e13 k3 (.str _)⟩)
      · exact p3.elim⟩⟩⟩
def lstQ (x : PyData) (K : List PyData → Prop) : Prop := match x with
  | .list ds => K ds
  | _ => False
def nInt (xs : List PyData) (P : PyData → Prop) : Prop := match xs with
  | [.int i] => P (.int i)
  | [.bool i] => P (.int (if i then 1 else 0))
  | _ => False
theorem dintOf (hm : X.mg "int" = none) (ha : PA X (e :: es) (liftA X.K Z was)) (hg : Gl X "int" := by rfl)
    (he : starEach (e :: es) X.env = (false, eval e X.env) :: starEach es X.env := by rfl) (hpl : (backTo pos (starEach es X.env)).any (·.1) = false := by rfl) : PE X (.Call (.Name "int" p) (e :: es) [] pos) (liftE X.K Z (dB nInt was)) :=
  dct call_int1 (fun _ _ g F env σ H vs ds P Q k r f q => by
    unfold nInt at f
    split at f
    · obtain ⟨v, rfl, r0⟩ := r.inv1
      cases r0.inv_int
      exact .inl ⟨_, rfl, q _ _ F H f (Ex.refl F) k (.int _)⟩
    · obtain ⟨v, rfl, r0⟩ := r.inv1
      cases r0.inv_bool
      exact .inr ⟨_, rfl, q _ _ F H f (Ex.refl F) k (.int _)⟩
    · exact f.elim) hm (by decide +kernel) ha hg (by decide) (by decide) he hpl
def nTuple (xs : List PyData) (P : PyData → Prop) : Prop := match xs with
  | [.list ds] => P (.tuple ds)
  | [.tuple ds] => P (.tuple ds)
  | [.dict [(.none, .list ds)]] => P (.tuple ds)
  | _ => False
theorem call_tupleR : CallR X (.type "tuple") (fun xs H Q => ∃ x, xs = [x] ∧ kTupZ X.K x H Q) := by
  intro pins s σ H xs us Q I r h
  obtain ⟨x, rfl, q⟩ := h
  cases r with
  | cons r rr =>
    cases rr
    exact rl_tupleZ pins s σ H x _ Q I r q
theorem dtupleOf (hm : X.mg "tuple" = none) (ha : PA X (e :: es) (liftA X.K Z was)) (hg : Gl X "tuple" := by rfl)
    (he : starEach (e :: es) X.env = (false, eval e X.env) :: starEach es X.env := by rfl) (hpl : (backTo pos (starEach es X.env)).any (·.1) = false := by rfl) : PE X (.Call (.Name "tuple" p) (e :: es) [] pos) (liftE X.K Z (dB nTuple was)) :=
  dct call_tupleR (fun _ _ g F env σ H vs ds P Q k r f q => by
    unfold nTuple at f
    split at f
    · obtain ⟨v, rfl, r0⟩ := r.inv1
      obtain ⟨a, us, rfl, h1, h2⟩ := r0.inv_lst
      refine ⟨_, rfl, .inl ⟨a, us, rfl, (h1.mono k.fh).sq, fun x o hx ho => ?_⟩⟩
      obtain ⟨e4, k4, r4⟩ := k.newTup hx ho h2
      exact q _ _ _ _ f e4 k4 r4
    · obtain ⟨v, rfl, r0⟩ := r.inv1
      obtain ⟨a, us, rfl, h1, h2⟩ := r0.inv_tup
      exact ⟨_, rfl, .inr ⟨a, us, rfl, Evl.ex_t k.fh h1, q _ _ F H f (Ex.refl F) k r0⟩⟩
    · obtain ⟨v, rfl, r0⟩ := r.inv1
      cases r0 with
      | dct _ m => cases m
      | row h1 h2 =>
        refine ⟨_, rfl, .inl ⟨_, _, rfl, SqL.of (k.fh _ _ h1), fun x o hx ho => ?_⟩⟩
        obtain ⟨e4, k4, r4⟩ := k.newTup hx ho h2
        exact q _ _ _ _ f e4 k4 r4
    · exact f.elim) hm (by decide +kernel) ha hg (by decide) (by decide) he hpl
/-- tuple(xs) of a name's own cell -/
abbrev dTupC (i : Nat) (env : List SD) (P : PyData → List SD → Prop) : Prop := match env[i]? with
  | some (.cel _ xs) => P (.tuple xs) env
  | _ => False
theorem dtupC (i : Nat) {x : Str} {p0 : Pos} (hm : X.mg "tuple" = none) (hN : X.N[i]? = some x := by rfl)
    (hv : Vis X.env.scope x := by first | exact Or.inl rfl | exact Or.inr (Or.inl rfl) | exact Or.inr (Or.inr rfl)) (hd : (x == ("__debug__" : Str)) = false := by decide) (hcd : (x == ("__classdict__" : Str)) = false := by decide) (hg : Gl X "tuple" := by rfl)
    (na : starEach [.Name x p0] X.env = (false, eval (.Name x p0) X.env) :: starEach [] X.env := by rfl) : PE X (.Call (.Name "tuple" p) [.Name x p0] [] pos) (liftE X.K Z (dTupC i)) :=
  PE.of (pe_tupleZ hg hm (pe_var hN hv hd hcd) na) fun σ H Q ⟨g, F, env, P, k, w, q⟩ => by
    unfold dTupC at w
    split at w
    · rename_i p xs e
      obtain ⟨a0, vs, h1, h2, h3, h4, h5⟩ := k.cel i p xs e
      refine ⟨_, h1, .inl ⟨a0, vs, rfl, SqL.of h3, fun x o hx ho => ?_⟩⟩
      obtain ⟨e4, k4, r4⟩ := k.newTup hx ho h4
      exact q _ _ _ _ _ w e4 k4 r4
    · exact w.elim
/-- len(xs) of a name's own cell -/
abbrev dLenC (i : Nat) (env : List SD) (P : PyData → List SD → Prop) : Prop := match env[i]? with
  | some (.cel _ xs) => P (.int (xs.length : Nat)) env
  | _ => False
theorem dlenC (i : Nat) {x : Str} {p0 : Pos} (hm : X.mg "len" = none) (hN : X.N[i]? = some x := by rfl)
    (hv : Vis X.env.scope x := by first | exact Or.inl rfl | exact Or.inr (Or.inl rfl) | exact Or.inr (Or.inr rfl)) (hd : (x == ("__debug__" : Str)) = false := by decide) (hcd : (x == ("__classdict__" : Str)) = false := by decide) (hg : Gl X "len" := by rfl)
    (na : starEach [.Name x p0] X.env = (false, eval (.Name x p0) X.env) :: starEach [] X.env := by rfl) (hpl : (backTo pos (starEach [] X.env)).any (·.1) = false := by rfl) : PE X (.Call (.Name "len" p) [.Name x p0] [] pos) (liftE X.K Z (dLenC i)) :=
  PE.of (pe_callB call_len hg hm PySem.boot_len (pa_cons (pe_var hN hv hd hcd) pa_nil na) (by decide) (by decide) na hpl) fun σ H Q ⟨g, F, env, P, k, w, q⟩ => by
    unfold dLenC at w
    split at w
    · rename_i p xs e
      obtain ⟨a0, vs, h1, h2, h3, h4, h5⟩ := k.cel i p xs e
      exact ⟨_, h1, _, vs.length, rfl, .inl ⟨vs, SqL.of h3, rfl⟩, by rw [h4.length]; exact q _ _ _ F H w (Ex.refl F) k (.int _)⟩
    · exact w.elim
def nList (xs : List PyData) (P : List PyData → Prop) : Prop := match xs with
  | [.list ds] => P ds
  | [.tuple ds] => P ds
  | _ => False
/-- list(..): a new cell -/
abbrev dListOf (wa : DA) (env : List SD) (P : SD → List SD → Prop) : Prop := wa env fun xs env' => nList xs fun ds => P (.cel false ds) env'
theorem dlistOf (hm : X.mg "list" = none) (ha : PA X (e :: es) (liftA X.K Z was)) (hg : Gl X "list" := by rfl)
    (he : starEach (e :: es) X.env = (false, eval e X.env) :: starEach es X.env := by rfl) (hpl : (backTo pos (starEach es X.env)).any (·.1) = false := by rfl) : PE X (.Call (.Name "list" p) (e :: es) [] pos) (liftX X.K Z (dListOf was)) :=
  PE.of (pe_callTy call_list_of hg hm (by decide +kernel) ha (by decide) (by decide) he hpl) fun σ H Q ⟨g, F, env, P, k, w, q⟩ =>
    ⟨g, F, env, _, k, w, fun ds env1 vs F1 H1 p e1 k1 r1 => by
      unfold nList at p
      split at p
      · obtain ⟨v, rfl, r0⟩ := r1.inv1
        obtain ⟨a, us, rfl, h1, h2⟩ := r0.inv_lst
        refine ⟨a, us, rfl, .inl (h1.mono k1.fh).sq, fun x hx => ?_⟩
        obtain ⟨k4, r4⟩ := k1.newCell hx h2
        exact q _ _ _ _ _ p e1 k4 r4
      · obtain ⟨v, rfl, r0⟩ := r1.inv1
        obtain ⟨a, us, rfl, h1, h2⟩ := r0.inv_tup
        refine ⟨a, us, rfl, .inr (Evl.ex_t k1.fh h1), fun x hx => ?_⟩
        obtain ⟨k4, r4⟩ := k1.newCell hx h2
        exact q _ _ _ _ _ p e1 k4 r4
      · exact p.elim⟩
/-- a name's own cell stays as it is from here on, or its datum -/
abbrev dFreeze2 (i : Nat) (w : DS) (E : DEnds) (env : List SD) : Prop := match env[i]? with
  | some (.cel false xs) => w E (env.set i (.dat (.list xs)))
  | some (.dat _) => w E env
  | _ => False
theorem ssfreeze2 {sts : List Stmt} {m : Nat} {w : DS} (i : Nat) (h : PSs X sts (liftS X.K Z m w)) : PSs X sts (liftS X.K Z m (dFreeze2 i w)) := PSs.of h fun D σ H ⟨g, F, env, P, k, w, q⟩ => by
  unfold dFreeze2 at w
  split at w
  · rename_i xs e
    obtain ⟨F', e1, k1⟩ := k.freeze e
    exact ⟨g, F', _, P, k1, w, q.ex e1⟩
  · exact ⟨g, F, env, P, k, w, q⟩
  · exact w.elim
end
end DL

namespace DL
variable {T : List (PySem.Addr × PySem.Str)} {Z : Zx T}
open PySem PySem.Spec PyProof.Rows L2
open Evl (Ex)

section
variable {X : Cx} {a b e : Expr} {es : List Expr} {we wa wb : DE} {was : DA} {pos p p1 p2 p3 : Pos} {K : PySem.W.Frag}
theorem DRs.snoc {H : Hp} {v : V} {d : PyData} : ∀ {vs : List V} {ds : List PyData}, DRs K H vs ds → DR K H v d → DRs K H (vs ++ [v]) (ds ++ [d])
  | _, _, .nil, r => .cons r .nil
  | _, _, .cons h t, r => .cons h (DRs.snoc t r)
theorem DRs.rev {H : Hp} : ∀ {vs : List V} {ds : List PyData}, DRs K H vs ds → DRs K H vs.reverse ds.reverse
  | _, _, .nil => .nil
  | _, _, .cons h t => by
    rw [List.reverse_cons, List.reverse_cons]
    exact DRs.snoc (DRs.rev t) h
end
end DL

namespace DL
variable {T : List (PySem.Addr × PySem.Str)} {Z : Zx T}
open PySem PySem.Spec PyProof.Rows L2
open Evl (Ex)

def jn {α : Type} (f : α → Prop) (k : α) : Prop := f k
def tAnd (b : Bool) (u : (Bool → Prop) → Prop) (K : Bool → Prop) : Prop := bIf b (u K) (K false)
def tOr (b : Bool) (u : (Bool → Prop) → Prop) (K : Bool → Prop) : Prop := bIf b (K true) (u K)
def vAnd (b : Bool) (u : (PyData → Prop) → Prop) (K : PyData → Prop) : Prop := bIf b (u K) (K (.bool false))
def vOr (b : Bool) (u : (PyData → Prop) → Prop) (K : PyData → Prop) : Prop := bIf b (K (.bool true)) (u K)
def vIf (b : Bool) (u v : (PyData → Prop) → Prop) (K : PyData → Prop) : Prop := bIf b (u K) (v K)
theorem at_env {t : DS} {E : DEnds} {a b : List SD} (e : a = b) (h : t E b) : t E a := e ▸ h
theorem cels1 {c : List PyData} {ds : List PyData} {i : Nat} {p : Bool} {xs : List PyData} (e : (SD.cel true c :: ds.map .dat)[i]? = some (.cel p xs)) : i < 1 := by
  cases i with
  | zero => exact Nat.zero_lt_one
  | succ i => exact absurd (by simpa using e) (no_cel (ds := ds) i p xs)
end DL

namespace DL
variable {T : List (PySem.Addr × PySem.Str)} {Z : Zx T}
open PySem PySem.Spec PyProof.Rows L2
open Evl (Ex)
section
variable {X : Cx} {a b e : Expr} {es : List Expr} {we wa wb : DE} {was : DA} {pos p p1 p2 p3 : Pos} {K : PySem.W.Frag} {m : Nat}
theorem DRs.flat {F : Hp} {vs : List V} {ds : List PyData} (r : DRs K F vs ds) : ∀ n : Nat, DRs K F (List.replicate n vs).flatten (List.replicate n ds).flatten
  | 0 => .nil
  | n + 1 => by
    rw [List.replicate_succ, List.replicate_succ, List.flatten_cons, List.flatten_cons]
    exact r.append (DRs.flat r n)
theorem tuple_mul1 (l : Addr) (items : Array Value) (n : Nat) (dd : Option Addr) (sl : Array (Option Value)) (u : Tok) :
    Meets (Builtin.«tuple.__mul__» ⟨[.ref l, .int 1 u], []⟩) (fun _ R s => s.heap.get? l = some { cls := .type "tuple", dict := dd, data := .seq items n, slots := sl } ∧ R (.ok (.ret (Value.ref l))) s) :=
  .of_wp fun prog w A R s h => by
    obtain ⟨hp, g, d, tk, os⟩ := s
    obtain ⟨hl, h⟩ := h
    have f1 := AutoSeq1.idx_int
    have c1 : (items.isEmpty || (1 : Int) == 1) = true := by simp
    wp_walk using wpAny_loadPart' hl
    repeat (first
      | (refine wpAny_ite_false (decide_eq_false (by decide)) ?_; wp_walk using wpAny_loadPart' hl)
      | (refine wpAny_ite_true (decide_eq_true c1) ?_; wp_walk using wpAny_loadPart' hl))
    exact ⟨_, rfl, h⟩
def rRepT1 (K : PySem.W.Frag) : R2 := fun x y H Q => ∃ l xs, x = .ref l ∧ y = .int 1 ∧ SqT K H l xs ∧ Q (.ref l) H
theorem op_repT1 {X : Cx} : OpR X (binaryOp .Mult) (rRepT1 X.K) := by
  intro pins s σ H x y v u Q I rx ry h
  obtain ⟨l, xs, rfl, rfl, hT, q⟩ := h
  cases rx
  obtain ⟨t, rfl⟩ := ry
  obtain ⟨its, r, ⟨⟨cls, dd, data, sl⟩, ho, hc, n, hd⟩, hs⟩ := I.tuple hT
  simp only at hc hd
  subst hc hd
  exact wpAny_binaryOp_repeat_ref (T := "tuple") (U := "int") (by decide) ⟨_, ho, rfl⟩ (fun s' => typeIs_int s' 1 t) noFill_tuple_mul F.fills_int_mul F.slot_int_rmul repeat_tuple F.slot_int_index.lookup
    (call_meets F.slot_int_rmul (typeIs_int s 1 t) F.entry_int_rmul (F.args_int_rmul_2 _ _) (int_rmul_tuple 1 t l its.toArray n dd sl)
      ⟨ho, rfl, ⟨_, ho, rfl⟩, call_meets F.slot_tuple_mul ⟨_, ho, rfl⟩ F.entry_tuple_mul (F.args_tuple_mul_2 _ _) (tuple_mul1 l its.toArray n dd sl t) ⟨ho, ⟨.ref l, H, I, rfl, q⟩⟩⟩)
def oMul (x y : PyData) (P : PyData → Prop) : Prop := match x, y with
  | .int i, .int j => (Sz i ∧ Sz j) ∧ P (.int (i * j))
  | .tuple xs, .int k => (xs ≠ [] ∧ 1 ≤ k ∧ k ≤ 1000 ∧ xs.length ≤ 1000) ∧ P (.tuple (List.replicate k.toNat xs).flatten)
  | _, _ => False
theorem opd_mul {r : R2} (h : OpD K r oMulI) : OpD K (fun x y H Q => r x y H Q ∨ (rRepT1 K x y H Q ∨ rRepZ K x y H Q)) oMul := by
  intro _ _ g F env σ H vx vy dx dy P Q k rx ry p q
  unfold oMul at p
  split at p
  · exact .inl (h _ _ g F env σ H vx vy _ _ P Q k rx ry p q)
  · rename_i xs n
    cases ry.inv_int
    obtain ⟨a, us, rfl, h1, h2⟩ := rx.inv_tup
    obtain ⟨⟨z1, z2, z3, z4⟩, p⟩ := p
    by_cases e1 : n = 1
    · subst e1
      have e : (List.replicate (Int.toNat 1) xs).flatten = xs := by
        show (List.replicate 1 xs).flatten = xs
        simp
      rw [e] at p
      exact .inr (.inl ⟨a, us, rfl, rfl, Evl.ex_t k.fh h1, q _ _ F H p (Ex.refl F) k rx⟩)
    refine .inr (.inr ⟨a, n, us, rfl, rfl, Evl.ex_t k.fh h1, fun e => z1 ?_, by omega, z3, by rw [h2.length]; exact z4, fun x o hx ho => ?_⟩)
    · subst e
      cases h2
      rfl
    · obtain ⟨e2, k2, r2⟩ := k.newTup hx ho (DRs.flat h2 n.toNat)
      exact q _ _ _ _ p e2 k2 r2
  · exact p.elim
theorem dmul (ha : PE X a (liftE X.K Z wa)) (hb : PE X b (liftE X.K Z wb)) : PE X (.BinOp a .Mult b pos) (liftE X.K Z (dOp oMul wa wb)) := dop (OpR.or op_mulW (OpR.or op_repT1 op_repZ)) (opd_mul (opd_I (fun _ _ h => by have h1 := h.1.log; have h2 := h.2.log; unfold CMulW; omega) fun _ _ _ => .int _)) ha hb
/-- xs[::-1] of a list, that stays -/
def oRev (x : PyData) (P : PyData → Prop) : Prop := lstQ x fun ds => P (.list ds.reverse)
end
end DL

namespace DL
variable {T : List (PySem.Addr × PySem.Str)} {Z : Zx T}
open PySem PySem.Spec PyProof.Rows L2
section
variable {P K : PyData → Prop} {a b c : Int} {x y : PyData} {xs ys : List PyData} {T : Bool → Prop}
theorem q_bT : bT (.bool t) T = T t := rfl
theorem q_add : oAdd (.int a) (.int b) P = P (.int (a + b)) := rfl
theorem q_addT : oAdd (.tuple xs) (.tuple ys) P = (xs.length + ys.length ≤ 100000 ∧ P (.tuple (xs ++ ys))) := rfl
theorem q_addL : oAdd (.list xs) (.list ys) P = (xs.length + ys.length ≤ 100000 ∧ P (.list (xs ++ ys))) := rfl
theorem q_addS {i j : Str} : oAdd (.str i) (.str j) P = (i.length + j.length ≤ 100000 ∧ P (.str (i ++ j))) := rfl
theorem q_sub : oSub (.int a) (.int b) P = P (.int (a - b)) := rfl
theorem q_mul : oMul (.int a) (.int b) P = ((Sz a ∧ Sz b) ∧ P (.int (a * b))) := rfl
theorem q_mulT : oMul (.tuple xs) (.int b) P = ((xs ≠ [] ∧ 1 ≤ b ∧ b ≤ 1000 ∧ xs.length ≤ 1000) ∧ P (.tuple (List.replicate b.toNat xs).flatten)) := rfl
theorem q_div : oDiv (.int a) (.int b) P = ((0 < b ∧ Sz b) ∧ P (.int (a / b))) := rfl
theorem q_mod : oMod (.int a) (.int b) P = (0 < b ∧ P (.int (a % b))) := rfl
theorem q_pow : oPow (.int a) (.int b) P = ((Sz a ∧ 0 ≤ b ∧ b ≤ 10000) ∧ P (.int (a ^ b.toNat))) := rfl
theorem q_neg : oNeg (.int a) P = P (.int (-a)) := rfl
theorem q_lt : oLt (.int a) (.int b) P = P (.bool (decide (a < b))) := rfl
theorem q_le : oLe (.int a) (.int b) P = P (.bool (decide (a ≤ b))) := rfl
theorem q_gt : oGt (.int a) (.int b) P = P (.bool (decide (b < a))) := rfl
theorem q_ge : oGe (.int a) (.int b) P = P (.bool (decide (b ≤ a))) := rfl
theorem q_oI {f : Int → Int → PyData} : oI f (.int a) (.int b) P = P (f a b) := rfl
theorem shaped_int : SeqAt.shaped (.int a) = true := by unfold SeqAt.shaped; rfl
theorem q_eq : oEq (.int a) (.int b) P = P (.bool (decide (a = b))) := by
  show ((SeqAt.shaped (.int a) = true ∧ SeqAt.shaped (.int b) = true) ∧ P (.bool (eqD (.int a) (.int b)))) = _
  rw [eqD_int]
  simp only [shaped_int, and_self, true_and]
theorem q_ne : oNe (.int a) (.int b) P = P (.bool (!decide (a = b))) := by
  show ((SeqAt.shaped (.int a) = true ∧ SeqAt.shaped (.int b) = true) ∧ P (.bool (!eqD (.int a) (.int b)))) = _
  rw [eqD_int]
  simp only [shaped_int, and_self, true_and]
theorem shaped_bool {t : Bool} : SeqAt.shaped (.bool t) = true := by unfold SeqAt.shaped; rfl
theorem eqD_bool {t u : Bool} : eqD (.bool t) (.bool u) = decide (t = u) := by
  rw [eqD_eq]
  cases t <;> cases u <;> simp [PyData.eqv]
theorem q_eqB {t u : Bool} : oEq (.bool t) (.bool u) P = P (.bool (decide (t = u))) := by
  show ((SeqAt.shaped (.bool t) = true ∧ SeqAt.shaped (.bool u) = true) ∧ P (.bool (eqD (.bool t) (.bool u)))) = _
  rw [eqD_bool]
  simp only [shaped_bool, and_self, true_and]
theorem q_neB {t u : Bool} : oNe (.bool t) (.bool u) P = P (.bool (!decide (t = u))) := by
  show ((SeqAt.shaped (.bool t) = true ∧ SeqAt.shaped (.bool u) = true) ∧ P (.bool (!eqD (.bool t) (.bool u)))) = _
  rw [eqD_bool]
  simp only [shaped_bool, and_self, true_and]
theorem q_eqS {i j : Str} : oEq (.str i) (.str j) P = P (.bool (decide (i = j))) := rfl
theorem q_neS {i j : Str} : oNe (.str i) (.str j) P = P (.bool (!decide (i = j))) := rfl
theorem eqD_self (x : PyData) (h : PyData.eqv x x = true) : eqD x x = true := by rw [eqD_eq]; exact h
theorem ne_same (h : x = y) (hs : SeqAt.shaped x = true) (he : PyData.eqv x x = true) (k : P (.bool false)) : oNe x y P := by
  subst h
  unfold oNe
  split
  · rw [decide_eq_true rfl]; exact k
  · exact ⟨⟨hs, hs⟩, by rw [eqD_self _ he]; exact k⟩
theorem q_isN : oIsN .none P = P (.bool true) := rfl
theorem q_isNi : oIsN (.int a) P = P (.bool false) := rfl
theorem q_isNt : oIsN (.tuple xs) P = P (.bool false) := rfl
theorem q_isNs {i : Str} : oIsN (.str i) P = P (.bool false) := rfl
theorem q_notN : oNotN .none P = P (.bool false) := rfl
theorem q_notNi : oNotN (.int a) P = P (.bool true) := rfl
theorem q_notNt : oNotN (.tuple xs) P = P (.bool true) := rfl
theorem q_ix : oIx (.tuple xs) (.int a) P = pick xs a P := rfl
theorem q_ixL : oIx (.list xs) (.int a) P = pick xs a P := rfl
theorem q_ixQ : ixQ xs (.int a) P = pick xs a P := rfl
theorem q_len : nLen [.list xs] P = P (.int (xs.length : Nat)) := rfl
theorem q_lenT : nLen [.tuple xs] P = P (.int (xs.length : Nat)) := rfl
theorem q_lenS {i : Str} : nLen [.str i] P = (i.length ≤ 100000 ∧ P (.int (i.length : Nat))) := rfl
theorem q_abs : nAbs [.int a] P = P (.int (if a < 0 then -a else a)) := rfl
theorem q_min : nMin2 [.int a, .int b] P = P (.int (if b < a then b else a)) := rfl
theorem q_max : nMax2 [.int a, .int b] P = P (.int (if b > a then b else a)) := rfl
theorem q_tupleOf : nTuple [.list xs] P = P (.tuple xs) := rfl
theorem q_tupleOfT : nTuple [.tuple xs] P = P (.tuple xs) := rfl
theorem q_int : nInt [.int a] P = P (.int a) := rfl
theorem q_intB {t : Bool} : nInt [.bool t] P = P (.int (if t then 1 else 0)) := rfl
theorem q_list {P : List PyData → Prop} : nList [.list xs] P = P xs := rfl
theorem q_listT {P : List PyData → Prop} : nList [.tuple xs] P = P xs := rfl
theorem q_tup {K : List PyData → Prop} : tupQ (.tuple xs) K = K xs := rfl
theorem q_cons {K : PyData → List PyData → Prop} : consQ (x :: xs) K = K x xs := rfl
theorem q_nil {p : Prop} : nilQ [] p = p := rfl
theorem q_so {K : Option Int → Prop} : soQ (.int a) K = K (some a) := rfl
theorem q_lst {K : List PyData → Prop} : lstQ (.list xs) K = K xs := rfl
theorem q_items {K : List PyData → Prop} : itemsQ (.list xs) K = K xs := At.eq
theorem q_itemsT {K : List PyData → Prop} : itemsQ (.tuple xs) K = K xs := At.eq
theorem q_slT {lo hi : Option Int} : oSl (.tuple xs) lo hi P = P (.tuple (DL.cutD xs lo hi)) := rfl
theorem q_slL {lo hi : Option Int} : oSl (.list xs) lo hi P = P (.list (DL.cutD xs lo hi)) := rfl
theorem q_rev : oRev (.list xs) P = P (.list xs.reverse) := rfl
theorem q_zip {K : List PyData → Prop} : zipQ [.list xs, .list ys] K = K (zipD xs ys) := At.eq
theorem q_zipT {K : List PyData → Prop} : zipQ [.tuple xs, .tuple ys] K = K (zipD xs ys) := At.eq
theorem q_rng1 {K : List PyData → Prop} : rng1 [.int a] K = ((-1000000 ≤ a ∧ a ≤ 1000000) ∧ K (rangeD 0 a.toNat)) := by
  show (_ ∧ At _ _) = _
  rw [At.eq]
theorem q_rng2 {K : List PyData → Prop} : rng2 [.int a, .int b] K = ((-1000000 ≤ a ∧ a ≤ 1000000 ∧ -1000000 ≤ b ∧ b ≤ 1000000) ∧ K (rangeD a (b - a).toNat)) := by
  show (_ ∧ At _ _) = _
  rw [At.eq]
theorem q_all : nAll [.list xs] P = (match boolsD xs with | some bs => P (.bool (bs.all id)) | none => False) := rfl
theorem q_any : nAny [.list xs] P = (match boolsD xs with | some bs => P (.bool (bs.any id)) | none => False) := rfl
theorem q_sum : nSum [.list xs] P = (match intsD xs with | some bs => P (.int bs.sum) | none => False) := rfl
theorem q_sumT : nSum [.tuple xs] P = (match intsD xs with | some bs => P (.int bs.sum) | none => False) := rfl
theorem q_ap {K : List PyData → Prop} : apQ xs x K = (xs.length < 100000 ∧ K (xs ++ [x])) := rfl
theorem bools_map (ds : List PyData) (f : PyData → Bool) : boolsD (ds.map fun d => .bool (f d)) = some (ds.map f) := by
  induction ds with
  | nil => rfl
  | cons d ds ih => simp [boolsD, ih]
theorem ints_map (ns : List Int) : intsD (ns.map .int) = some ns := by
  induction ns with
  | nil => rfl
  | cons d ds ih => simp [intsD, ih]
theorem q_sumI {ns : List Int} : nSum [.list (ns.map .int)] P = P (.int ns.sum) := by rw [q_sum, ints_map]
theorem q_sumTI {ns : List Int} : nSum [.tuple (ns.map .int)] P = P (.int ns.sum) := by rw [q_sumT, ints_map]
theorem q_allB {ds : List PyData} {f : PyData → Bool} : nAll [.list (ds.map fun d => .bool (f d))] P = P (.bool (ds.all f)) := by
  rw [q_all, bools_map]
  simp only [List.all_map]
  rfl
theorem q_anyB {ds : List PyData} {f : PyData → Bool} : nAny [.list (ds.map fun d => .bool (f d))] P = P (.bool (ds.any f)) := by
  rw [q_any, bools_map]
  simp only [List.any_map]
  rfl
theorem cut1 {a : PyData} {l : List PyData} : DL.cutD (a :: l) (some 1) none = l := by
  unfold DL.cutD HT.sIx
  simp
section
variable {S : Prop} {t : Bool} {u : (Bool → Prop) → Prop} {v : (PyData → Prop) → Prop} {K : Bool → Prop} {L : PyData → Prop}
theorem q_same {I S : Type} {i : I} {N : S → Prop} {s : S} : same i N i s = N s := propext ⟨fun h => h.2, fun h => ⟨rfl, h⟩⟩
theorem q_jn {α : Type} {f : α → Prop} {k : α} : jn f k = f k := rfl
theorem q_tAnd_k {b c : Bool} {K : Bool → Prop} : tAnd b (fun k => k c) K = K (b && c) := by cases b <;> rfl
theorem q_tOr_k {b c : Bool} {K : Bool → Prop} : tOr b (fun k => k c) K = K (b || c) := by cases b <;> rfl
theorem q_vAnd_k {b c : Bool} : vAnd b (fun k => k (.bool c)) L = L (.bool (b && c)) := by cases b <;> rfl
theorem q_vOr_k {b c : Bool} : vOr b (fun k => k (.bool c)) L = L (.bool (b || c)) := by cases b <;> rfl
theorem q_tAnd_s {b c : Bool} {K : Bool → Prop} {S : Prop} : tAnd b (fun k => S ∧ k c) K = ((b = true → S) ∧ K (b && c)) := by
  cases b
  · simp only [Bool.false_eq_true, false_imp_iff, true_and]; rfl
  · simp only [true_imp_iff, Bool.true_and]; rfl
theorem q_tOr_s {b c : Bool} {K : Bool → Prop} {S : Prop} : tOr b (fun k => S ∧ k c) K = ((b = false → S) ∧ K (b || c)) := by
  cases b
  · simp only [true_imp_iff, Bool.false_or]; rfl
  · simp only [Bool.true_eq_false, false_imp_iff, true_and]; rfl
theorem q_vAnd_s {b c : Bool} {S : Prop} : vAnd b (fun k => S ∧ k (.bool c)) L = ((b = true → S) ∧ L (.bool (b && c))) := by
  cases b
  · simp only [Bool.false_eq_true, false_imp_iff, true_and]; rfl
  · simp only [true_imp_iff, Bool.true_and]; rfl
theorem q_vOr_s {b c : Bool} {S : Prop} : vOr b (fun k => S ∧ k (.bool c)) L = ((b = false → S) ∧ L (.bool (b || c))) := by
  cases b
  · simp only [true_imp_iff, Bool.false_or]; rfl
  · simp only [Bool.true_eq_false, false_imp_iff, true_and]; rfl
theorem q_vIf_k {b : Bool} {x y : PyData} : vIf b (fun k => k x) (fun k => k y) L = L (if b then x else y) := by cases b <;> rfl
theorem q_tAnd_t {K : Bool → Prop} : tAnd true u K = u K := rfl
theorem q_tAnd_f {K : Bool → Prop} : tAnd false u K = K false := rfl
theorem q_tOr_t {K : Bool → Prop} : tOr true u K = K true := rfl
theorem q_tOr_f {K : Bool → Prop} : tOr false u K = u K := rfl
theorem q_vAnd_t : vAnd true v L = v L := rfl
theorem q_vAnd_f : vAnd false v L = L (.bool false) := rfl
theorem q_vOr_t : vOr true v L = L (.bool true) := rfl
theorem q_vOr_f : vOr false v L = v L := rfl
theorem q_vIf_t {v' : (PyData → Prop) → Prop} : vIf true v v' L = v L := rfl
theorem q_vIf_f {v' : (PyData → Prop) → Prop} : vIf false v v' L = v' L := rfl
theorem bIf_of {b : Bool} {p q : Prop} (h1 : b = true → p) (h2 : b = false → q) : bIf b p q := by
  cases b
  · exact h2 rfl
  · exact h1 rfl
theorem bIf_d {c : Prop} [Decidable c] {p q : Prop} (h1 : c → p) (h2 : ¬ c → q) : bIf (decide c) p q := by
  by_cases h : c
  · rw [decide_eq_true h]; exact h1 h
  · rw [decide_eq_false h]; exact h2 h
end
theorem pick_lit {xs : List PyData} (n : Nat) {d : PyData} (e : xs[n]? = some d) : pick xs (n : Int) P = P d := pick_eq (by
  unfold atI
  rw [ixN_in (by omega) (by have := (List.getElem?_eq_some_iff.mp e).1; omega)]
  exact e)
theorem at0 {a : PyData} {l : List PyData} : pick (a :: l) 0 P = P a := pick_lit 0 rfl
theorem at1 {a b : PyData} {l : List PyData} : pick (a :: b :: l) 1 P = P b := pick_lit 1 rfl
theorem at2 {a b c : PyData} {l : List PyData} : pick (a :: b :: c :: l) 2 P = P c := pick_lit 2 rfl
theorem at3 {a b c d : PyData} {l : List PyData} : pick (a :: b :: c :: d :: l) 3 P = P d := pick_lit 3 rfl
theorem at4 {a b c d e : PyData} {l : List PyData} : pick (a :: b :: c :: d :: e :: l) 4 P = P e := pick_lit 4 rfl
theorem at5 {a b c d e f : PyData} {l : List PyData} : pick (a :: b :: c :: d :: e :: f :: l) 5 P = P f := pick_lit 5 rfl
theorem at6 {a b c d e f g : PyData} {l : List PyData} : pick (a :: b :: c :: d :: e :: f :: g :: l) 6 P = P g := pick_lit 6 rfl
theorem atLast {xs : List PyData} {d : PyData} : pick (xs ++ [d]) (-1) P = P d := pick_eq (by
  unfold atI ixN
  rw [if_neg (by decide), if_pos (by simp; omega)]
  show (xs ++ [d])[((-1 : Int) + ((xs ++ [d]).length : Nat)).toNat]? = some d
  rw [show ((-1 : Int) + ((xs ++ [d]).length : Nat)).toNat = xs.length by simp; omega]
  simp)
/-- any item -/
theorem pick_mem {xs : List PyData} {k : Int} (h0 : 0 ≤ k) (h1 : k < xs.length) (h : ∀ d ∈ xs, P d) : pick xs k P := at_of h0 h1 h
theorem st0 {x a : PyData} {r : List PyData} {K : List PyData → Prop} : stQ (a :: r) (.int 0) x K = K (x :: r) := by
  show (match ixN (a :: r).length 0 with | some j => K ((a :: r).set j x) | none => False) = _
  rw [ixN_in (by decide) (by simp)]
  rfl
theorem st1 {x a b : PyData} {r : List PyData} {K : List PyData → Prop} : stQ (a :: b :: r) (.int 1) x K = K (a :: x :: r) := by
  show (match ixN (a :: b :: r).length 1 with | some j => K ((a :: b :: r).set j x) | none => False) = _
  rw [ixN_in (by decide) (by simp; omega)]
  rfl
theorem st2 {x a b c : PyData} {r : List PyData} {K : List PyData → Prop} : stQ (a :: b :: c :: r) (.int 2) x K = K (a :: b :: x :: r) := by
  show (match ixN (a :: b :: c :: r).length 2 with | some j => K ((a :: b :: c :: r).set j x) | none => False) = _
  rw [ixN_in (by decide) (by simp; omega)]
  rfl
theorem st3 {x a b c d : PyData} {r : List PyData} {K : List PyData → Prop} : stQ (a :: b :: c :: d :: r) (.int 3) x K = K (a :: b :: c :: x :: r) := by
  show (match ixN (a :: b :: c :: d :: r).length 3 with | some j => K ((a :: b :: c :: d :: r).set j x) | none => False) = _
  rw [ixN_in (by decide) (by simp; omega)]
  rfl
theorem st4 {x a b c d e : PyData} {r : List PyData} {K : List PyData → Prop} : stQ (a :: b :: c :: d :: e :: r) (.int 4) x K = K (a :: b :: c :: d :: x :: r) := by
  show (match ixN (a :: b :: c :: d :: e :: r).length 4 with | some j => K ((a :: b :: c :: d :: e :: r).set j x) | none => False) = _
  rw [ixN_in (by decide) (by simp; omega)]
  rfl
end
theorem isi_non_int : isiB .none "int" = false := rfl
theorem isi_non_bool : isiB .none "bool" = false := rfl
theorem isi_non_str : isiB .none "str" = false := rfl
theorem isi_non_list : isiB .none "list" = false := rfl
theorem isi_non_tuple : isiB .none "tuple" = false := rfl
theorem isi_non_dict : isiB .none "dict" = false := rfl
theorem isi_bl_int {t : Bool} : isiB (.bool t) "int" = true := rfl
theorem isi_bl_bool {t : Bool} : isiB (.bool t) "bool" = true := rfl
theorem isi_bl_str {t : Bool} : isiB (.bool t) "str" = false := rfl
theorem isi_bl_list {t : Bool} : isiB (.bool t) "list" = false := rfl
theorem isi_bl_tuple {t : Bool} : isiB (.bool t) "tuple" = false := rfl
theorem isi_bl_dict {t : Bool} : isiB (.bool t) "dict" = false := rfl
theorem isi_int_int {a : Int} : isiB (.int a) "int" = true := rfl
theorem isi_int_bool {a : Int} : isiB (.int a) "bool" = false := rfl
theorem isi_int_str {a : Int} : isiB (.int a) "str" = false := rfl
theorem isi_int_list {a : Int} : isiB (.int a) "list" = false := rfl
theorem isi_int_tuple {a : Int} : isiB (.int a) "tuple" = false := rfl
theorem isi_int_dict {a : Int} : isiB (.int a) "dict" = false := rfl
theorem isi_str_int {x : Str} : isiB (.str x) "int" = false := rfl
theorem isi_str_bool {x : Str} : isiB (.str x) "bool" = false := rfl
theorem isi_str_str {x : Str} : isiB (.str x) "str" = true := rfl
theorem isi_str_list {x : Str} : isiB (.str x) "list" = false := rfl
theorem isi_str_tuple {x : Str} : isiB (.str x) "tuple" = false := rfl
theorem isi_str_dict {x : Str} : isiB (.str x) "dict" = false := rfl
theorem isi_lst_int {xs : List PyData} : isiB (.list xs) "int" = false := rfl
theorem isi_lst_bool {xs : List PyData} : isiB (.list xs) "bool" = false := rfl
theorem isi_lst_str {xs : List PyData} : isiB (.list xs) "str" = false := rfl
theorem isi_lst_list {xs : List PyData} : isiB (.list xs) "list" = true := rfl
theorem isi_lst_tuple {xs : List PyData} : isiB (.list xs) "tuple" = false := rfl
theorem isi_lst_dict {xs : List PyData} : isiB (.list xs) "dict" = false := rfl
theorem isi_tup_int {xs : List PyData} : isiB (.tuple xs) "int" = false := rfl
theorem isi_tup_bool {xs : List PyData} : isiB (.tuple xs) "bool" = false := rfl
theorem isi_tup_str {xs : List PyData} : isiB (.tuple xs) "str" = false := rfl
theorem isi_tup_list {xs : List PyData} : isiB (.tuple xs) "list" = false := rfl
theorem isi_tup_tuple {xs : List PyData} : isiB (.tuple xs) "tuple" = true := rfl
theorem isi_tup_dict {xs : List PyData} : isiB (.tuple xs) "dict" = false := rfl
theorem isi_dct_int : isiB (.dict []) "int" = false := rfl
theorem isi_dct_bool : isiB (.dict []) "bool" = false := rfl
theorem isi_dct_str : isiB (.dict []) "str" = false := rfl
theorem isi_dct_list : isiB (.dict []) "list" = false := rfl
theorem isi_dct_tuple : isiB (.dict []) "tuple" = false := rfl
theorem isi_dct_dict : isiB (.dict []) "dict" = true := rfl
end DL

namespace DL
variable {T : List (PySem.Addr × PySem.Str)} {Z : Zx T}
open PySem PySem.Spec PyProof.Rows L2
open Evl (Ex)
section
variable {X : Cx} {a b e : Expr} {es : List Expr} {we wa wb : DE} {was : DA} {pos p p1 p2 p3 p0 : Pos} {K : PySem.W.Frag} {m : Nat}
def rEmp (K : PySem.W.Frag) (n : Bool) : R2 := fun x y H Q => ∃ a b xs, x = .ref a ∧ y = .ref b ∧ ((SqL K H a xs ∧ SqL K H b []) ∨ (SqT K H a xs ∧ SqT K H b [])) ∧ Q (.bl (xs.isEmpty != n)) H
theorem op_empE (hu : X.A.units + 64 < cLine) : OpR X (compareOp .Eq) (rEmp X.K false) := by
  intro pins s σ H x y v u Q I rx ry h
  obtain ⟨a, b, xs, rfl, rfl, h, q⟩ := h
  cases rx
  cases ry
  have hu2 : X.A.units < cLine := by omega
  rcases h with ⟨h1, h2⟩ | ⟨h1, h2⟩
  · obtain ⟨its, r1, t1, _⟩ := I.list h1
    obtain ⟨its2, r2, t2, _⟩ := I.list h2
    cases r2
    cases r1 with
    | nil => exact SeqAt.RcAt.lists (e := fun _ => true) t1.isList t2.isList rfl hu2 (fun j h1 => absurd h1 (by simp)) _ _ _ _ ⟨.bl true, H, I, rfl, q⟩
    | cons _ _ => exact SeqAt.RcAt.lists_lengths t1.isList t2.isList (by simp) hu2 _ _ _ _ ⟨.bl false, H, I, rfl, q⟩
  · obtain ⟨its, r1, t1, _⟩ := I.tuple h1
    obtain ⟨its2, r2, t2, _⟩ := I.tuple h2
    cases r2
    refine SeqAt.RcAt.tuples (e := fun _ => true) t1 t2 hu2 (fun j h1 h2 => absurd h2 (by simp)) _ _ _ _ ?_
    cases r1 with
    | nil => exact ⟨.bl true, H, I, rfl, q⟩
    | cons _ _ => exact ⟨.bl false, H, I, rfl, q⟩
/-- x == [] of a list, x == () of a tuple -/
def oEmp (n : Bool) (x y : PyData) (P : PyData → Prop) : Prop := match x, y with
  | .list xs, .list [] => P (.bool (xs.isEmpty != n))
  | .tuple xs, .tuple [] => P (.bool (xs.isEmpty != n))
  | _, _ => False
theorem drs_empty {F : Hp} {vs : List V} {ds : List PyData} (r : DRs K F vs ds) : vs.isEmpty = ds.isEmpty := by cases r <;> rfl
theorem opd_emp {n : Bool} : OpD K (rEmp K n) (oEmp n) := by
  intro _ _ g F env σ H vx vy dx dy P Q k rx ry p q
  unfold oEmp at p
  split at p
  · obtain ⟨a, us, rfl, h1, h2⟩ := rx.inv_lst
    obtain ⟨b, ws, rfl, h3, h4⟩ := ry.inv_lst
    cases h4
    exact ⟨a, b, us, rfl, rfl, .inl ⟨(h1.mono k.fh).sq, (h3.mono k.fh).sq⟩, q _ _ F H (by rw [drs_empty h2]; exact p) (Ex.refl F) k (.bl _)⟩
  · obtain ⟨a, us, rfl, h1, h2⟩ := rx.inv_tup
    obtain ⟨b, ws, rfl, h3, h4⟩ := ry.inv_tup
    cases h4
    exact ⟨a, b, us, rfl, rfl, .inr ⟨Evl.ex_t k.fh h1, Evl.ex_t k.fh h3⟩, q _ _ F H (by rw [drs_empty h2]; exact p) (Ex.refl F) k (.bl _)⟩
  · exact p.elim
theorem q_empL {n : Bool} {xs : List PyData} {P : PyData → Prop} : oEmp n (.list xs) (.list []) P = P (.bool (xs.isEmpty != n)) := rfl
theorem q_empT {n : Bool} {xs : List PyData} {P : PyData → Prop} : oEmp n (.tuple xs) (.tuple []) P = P (.bool (xs.isEmpty != n)) := rfl
variable {x : Str}
def oIsB (n t : Bool) (x : PyData) (P : PyData → Prop) : Prop := match x with
  | .bool b => P (.bool (decide (b = t) != n))
  | _ => False
theorem q_isB {n t b : Bool} {P : PyData → Prop} : oIsB n t (.bool b) P = P (.bool (decide (b = t) != n)) := rfl
/-- a new thing, its object known -/
theorem PE.known {t : TE} (h : PE X e t) : PE X e (fun σ H Q => t σ H fun v H1 => ∃ a u, v = .ref a ∧ H1 a = some u ∧ Mut (some u) ∧ ∀ od, Q v (upd H1 a (.frz od u))) := ⟨fun pins s σ H Q I hw => by
  refine thn (h.run pins s σ H _ I hw) fun v s1 ⟨x, H1, I1, r, a, u, ea, eu, mu, q⟩ => ?_
  obtain ⟨od, I2⟩ := I1.lock eu mu
  exact ⟨x, _, I2, r, q od⟩⟩
end

section
variable {prog : Program} {w : World} {A : Around} {E : Value → Shared → Prop} {s : Shared}
theorem sliceApplied_rev {sl : Addr} {t : Tok} {n : Nat} {Q : Int × Int × Nat → Shared → Prop} (hs : s.heap.IsSliceOf sl .none .none (.int (-1) t))
    (h : Q ((n : Int) - 1, -1, n) s) : wpAny (model prog w) A (Builtin.Slice.sliceApplied (.ref sl) (pure (n : Int))) Q E s := by
  obtain ⟨os, hos, hcs, hds⟩ := id hs
  unfold Builtin.Slice.sliceApplied Builtin.Slice.sliceFields
  refine wpAny_bind (wpAny_bind (wpAny_field hos hds (x := .none) rfl (wpAny_bind (wpAny_field hos hds (x := .none) rfl (wpAny_bind (wpAny_field hos hds (x := .int (-1) t) rfl (wpAny_pure ?_)))))))
  refine wpAny_bind (HT.slicePart_ (.int (-1) t) ?_)
  show wpAny _ _ (if ((-1 : Int) == 0) = true then _ else _) _ _ s
  rw [if_neg (by decide)]
  refine wpAny_bind (HT.slicePart_ .none (wpAny_bind (HT.slicePart_ .none (wpAny_bind (wpAny_pure ?_)))))
  show wpAny _ _ (match Builtin.Slice.sliceAdjust none none (-1) (n : Int) with | (lo, hi) => pure (lo, (-1 : Int), Builtin.Slice.slicePlaces lo hi (-1))) _ _ s
  have e1 : Builtin.Slice.sliceAdjust none none (-1) (n : Int) = ((n : Int) - 1, -1) := by
    unfold Builtin.Slice.sliceAdjust
    simp
  rw [e1]
  have e2 : Builtin.Slice.slicePlaces ((n : Int) - 1) (-1) (-1) = n := by
    unfold Builtin.Slice.slicePlaces
    have h1 : ¬ ((-1 : Int) > 0) := by decide
    simp only [h1, if_false, show (- -1 : Int) = 1 from by decide, Int.ediv_one]
    split <;> omega
  show wpAny _ _ (pure ((n : Int) - 1, (-1 : Int), Builtin.Slice.slicePlaces ((n : Int) - 1) (-1) (-1))) _ _ s
  rw [e2]
  exact wpAny_pure h
theorem fm_congr {α β : Type} {f g : α → Option β} : ∀ {l : List α}, (∀ m ∈ l, f m = g m) → l.filterMap f = l.filterMap g
  | [], _ => rfl
  | a :: l, h => by
    rw [List.filterMap_cons, List.filterMap_cons, h a List.mem_cons_self, fm_congr fun m hm => h m (List.mem_cons_of_mem _ hm)]
theorem pick_rev (xs : Array Value) : ((List.range xs.size).filterMap fun (m : Nat) => xs[(((xs.size : Int) - 1) + (m : Int) * (-1)).toNat]?).toArray = xs.toList.reverse.toArray := by
  have e : (List.range xs.size).filterMap (fun (m : Nat) => xs[(((xs.size : Int) - 1) + (m : Int) * (-1)).toNat]?) = ((List.range xs.size).map fun k => xs.size - 1 - k).filterMap (xs[·]?) := by
    rw [List.filterMap_map]
    refine fm_congr fun m hm => ?_
    have hm := List.mem_range.mp hm
    have : (((xs.size : Int) - 1) + (m : Int) * (-1)).toNat = xs.size - 1 - m := by omega
    show xs[(((xs.size : Int) - 1) + (m : Int) * (-1)).toNat]? = xs[xs.size - 1 - m]?
    rw [this]
  rw [e, PySem.W.krv_range, List.filterMap_reverse, PySem.W.krv_all]
theorem getItem_tuple_rev {t sl : Addr} {tk : Tok} {items : Array Value} {Q : Value → Shared → Prop} (ht : IsTup s.heap t items) (hs : s.heap.IsSliceOf sl .none .none (.int (-1) tk))
    (h : Q (.ref s.heap.objs.size) { s with heap := s.heap.push { cls := .type "tuple", data := .seq items.toList.reverse.toArray } })
    (hsz : items.size ≤ sizeLine) : wpAny (model prog w) A (getItem (.ref t) (.ref sl)) Q E s := by
  have htake : sizeOk (.seq items.toList.reverse.toArray) := by
    show items.toList.reverse.toArray.size ≤ sizeLine
    rw [List.size_toArray, List.length_reverse, Array.length_toList]
    exact hsz
  obtain ⟨os, hos, hcs, hds⟩ := id hs
  have hTs : s.TypeIs (.ref sl) "slice" := ⟨os, hos, hcs⟩
  unfold getItem
  try with_reducible refine wpAny_holding ?_
  first | refine wpAny_bind (wpAny_pure ?_) | skip
  refine wpAny_bind (wpAny_sequenceKey ht.typeIs (by decide) ?_)
  refine wpAny_bind (wpAny_callSpecial?_slot (name := Str.ofString "__getitem__") ht.typeIs PyProof.Rows.slot_tuple_getitem
    (wpAny_call_entry PyProof.Rows.slot_tuple_getitem ht.typeIs entry_tuple_getitem ?_ (args_tuple_getitem _ _)))
  show wpAny _ _ (Builtin.Tuple.tupleItemsOf (.ref t) >>= _) _ _ s
  refine wpAny_bind (tupleItemsOf_ ht ?_)
  refine wpAny_bind (wpAny_typeOf hTs ?_)
  rw [if_pos (by decide)]
  refine wpAny_bind (sliceApplied_rev hs ?_)
  have hno : ¬ ((((items.size : Int) - 1) == 0 && (-1 : Int) == 1 && items.size == items.size) = true) := by
    intro q
    rw [Bool.and_eq_true, Bool.and_eq_true] at q
    exact absurd q.1.2 (by decide)
  show wpAny _ _ (if (((items.size : Int) - 1) == 0 && (-1 : Int) == 1 && items.size == items.size) = true then _ else _) _ _ s
  rw [if_neg hno, pick_rev]
  first
    | exact wpAny_bind (m := Builtin.Tuple.tupleExact _) (wpAny_newObj_type (wpAny_pure ⟨_, rfl, wpAny_pure h⟩) htake)
    | exact wpAny_bind (m := Builtin.Tuple.tupleExact _) (wpAny_newObj_type (wpAny_bind (wpAny_pure (wpAny_pure ⟨_, rfl, wpAny_pure h⟩))) htake)
    | exact wpAny_bind (wpAny_bind (m := Builtin.Tuple.tupleExact _) (wpAny_newObj_type (wpAny_pure (wpAny_pure ⟨_, rfl, wpAny_pure h⟩)) htake))
    | exact wpAny_bind (wpAny_bind (m := Builtin.Tuple.tupleExact _) (wpAny_newObj_type (wpAny_pure ⟨_, rfl, wpAny_pure h⟩) htake))
end
end DL

namespace DL
variable {T : List (PySem.Addr × PySem.Str)} {Z : Zx T}
open PySem PySem.Spec PyProof.Rows L2
open Evl (Ex)
section
variable {X : Cx} {a b e : Expr} {es : List Expr} {we wa wb : DE} {was : DA} {pos p p1 p2 p3 p0 : Pos} {K : PySem.W.Frag} {m : Nat}
def tRevA (K : PySem.W.Frag) (te : TE) : TE := fun σ H Q => te σ H fun x H1 => (∃ a xs, x = .ref a ∧ SqL K H1 a xs ∧ ∀ p, H1 p = none → Q (.ref p) (upd H1 p (.lst xs.reverse))) ∨ ∃ a xs, x = .ref a ∧ SqT K H1 a xs ∧ NewZ H1 xs.reverse Q
theorem pe_revA {te : TE} {k : Nat} (he : PE X e te) : PE X (.Subscript e (.Slice none none (some (.UnaryOp .USub (.Constant (.int 1) k p1) p2)) p3) pos) (tRevA X.K te) := by
  refine ⟨fun pins s σ H Q I h => ?_⟩
  refine Subscript_ (thn (he.run pins s σ H _ I h) fun v s1 ⟨x, H1, I1, r1, q1⟩ => ?_)
  have hst : PO X (some (.UnaryOp .USub (.Constant (.int 1) k p1) p2)) (tPart (tUn (rU fun i => .int (-i)) (tC (.int 1)))) := po_some (pe_un un_neg pe_int)
  rcases q1 with ⟨a, xs, ex, hx, q⟩ | ⟨a, xs, ex, hx, q⟩
  · subst ex
    cases r1
    refine wpAny_Slice (thn (po_none.run pins s1 σ H1 (fun o H2 => o = none ∧ H2 = H1) I1 ⟨rfl, rfl⟩) fun vl s2 ⟨l, H2, I2, pl, el, e2⟩ => ?_)
    subst el e2
    refine thn (po_none.run pins s2 σ H2 (fun o H3 => o = none ∧ H3 = H2) I2 ⟨rfl, rfl⟩) fun vu s3 ⟨u, H3, I3, pu, eu, e3⟩ => ?_
    subst eu e3
    refine thn (hst.run pins s3 σ H3 (fun o H4 => o = some (-1) ∧ H4 = H3) I3 ⟨1, rfl, -1, rfl, rfl, rfl⟩) fun vs s4 ⟨o, H4, I4, ps, eo, e4⟩ => ?_
    subst eo e4
    have I5 : Inv X pins σ H4 { s4 with heap := s4.heap.push { cls := .type "slice", data := .fields #[vl, vu, vs] } } := I4.kept (t' := s4.toks) fun b ob q => Heap.get?_push_of_some _ q
    obtain ⟨its, r, ht, hz⟩ := I5.list hx
    have hlen := r.length
    show wpAny (model X.prog X.w) X.A (subscriptTail e (.Slice none none (some (.UnaryOp .USub (.Constant (.int 1) k p1) p2)) p3) (.ref a) (.ref s4.heap.objs.size)) (EP X pins σ Q) X.xe { s4 with heap := s4.heap.push { cls := .type "slice", data := .fields #[vl, vu, vs] } }
    refine tail_any (ops := [.ref a, .ref s4.heap.objs.size]) ht.isList.typeIs (PySem.slot_list_getitem.lookup) ?_ (by with_unfolding_all rfl)
    refine wpAny_getItem_list_slice ht.isList (Heap.IsSliceOf.new _ vl vu vs) pl pu ps (by decide) ?_ (by rw [List.size_toArray]; omega)
    rw [PySem.W.krv_pick]
    refine ⟨.ref _, _, I5.laid (t' := s4.toks) (o := .lst xs.reverse) (fun b ob q => Heap.get?_push_of_some _ q) (Nat.le_refl _) ?_, rfl, q _ (I5.hok.fresh (Nat.le_refl _))⟩
    exact ⟨by rw [List.length_reverse]; exact hz, _, 0, r.reverse, Heap.get?_push_size _ rfl⟩
  · subst ex
    cases r1
    refine wpAny_Slice (thn (po_none.run pins s1 σ H1 (fun o H2 => o = none ∧ H2 = H1) I1 ⟨rfl, rfl⟩) fun vl s2 ⟨l, H2, I2, pl, el, e2⟩ => ?_)
    subst el e2
    refine thn (po_none.run pins s2 σ H2 (fun o H3 => o = none ∧ H3 = H2) I2 ⟨rfl, rfl⟩) fun vu s3 ⟨u, H3, I3, pu, eu, e3⟩ => ?_
    subst eu e3
    refine thn (hst.run pins s3 σ H3 (fun o H4 => o = some (-1) ∧ H4 = H3) I3 ⟨1, rfl, -1, rfl, rfl, rfl⟩) fun vs s4 ⟨o, H4, I4, ps, eo, e4⟩ => ?_
    subst eo e4
    have I5 : Inv X pins σ H4 { s4 with heap := s4.heap.push { cls := .type "slice", data := .fields #[vl, vu, vs] } } := I4.kept (t' := s4.toks) fun b ob q => Heap.get?_push_of_some _ q
    obtain ⟨its, r, ht, hz⟩ := I5.tuple hx
    have hlen := r.length
    show wpAny (model X.prog X.w) X.A (subscriptTail e (.Slice none none (some (.UnaryOp .USub (.Constant (.int 1) k p1) p2)) p3) (.ref a) (.ref s4.heap.objs.size)) (EP X pins σ Q) X.xe { s4 with heap := s4.heap.push { cls := .type "slice", data := .fields #[vl, vu, vs] } }
    refine tail_any (ops := [.ref a, .ref s4.heap.objs.size]) ht.typeIs (PyProof.Rows.slot_tuple_getitem.lookup) ?_ (by with_unfolding_all rfl)
    cases pl
    cases pu
    cases ps with
    | int _ t =>
    refine getItem_tuple_rev (items := its.toArray) ht (Heap.IsSliceOf.new _ .none .none (.int (-1) t)) ?_ (by rw [List.size_toArray]; omega)
    exact endZ (tk := s4.toks) I5 r.reverse rfl (by rw [List.length_reverse]; exact hz) q
def oRevA (x : PyData) (P : PyData → Prop) : Prop := match x with
  | .list ds => P (.list ds.reverse)
  | .tuple ds => P (.tuple ds.reverse)
  | _ => False
theorem q_revL {ds : List PyData} {P : PyData → Prop} : oRevA (.list ds) P = P (.list ds.reverse) := rfl
theorem q_revT {ds : List PyData} {P : PyData → Prop} : oRevA (.tuple ds) P = P (.tuple ds.reverse) := rfl
theorem drevA {k : Nat} (he : PE X e (liftE X.K Z we)) : PE X (.Subscript e (.Slice none none (some (.UnaryOp .USub (.Constant (.int 1) k p1) p2)) p3) pos) (liftE X.K Z (dUn oRevA we)) :=
  PE.of (pe_revA he) fun σ H Q ⟨g, F, env, P, kk, w, q⟩ => ⟨g, F, env, _, kk, w, fun d env1 v F1 H1 p e1 k1 r1 => by
    unfold oRevA at p
    split at p
    · obtain ⟨a, us, rfl, h1, h2⟩ := r1.inv_lst
      refine .inl ⟨a, us, rfl, (h1.mono k1.fh).sq, fun x hx => ?_⟩
      obtain ⟨e4, k4, r4⟩ := k1.newLst hx h2.rev
      exact q _ env1 _ _ _ p (e1.trans e4) k4 r4
    · obtain ⟨a, us, rfl, h1, h2⟩ := r1.inv_tup
      refine .inr ⟨a, us, rfl, Evl.ex_t k1.fh h1, fun x o hx ho => ?_⟩
      obtain ⟨e4, k4, r4⟩ := k1.newTup hx ho h2.rev
      exact q _ env1 _ _ _ p (e1.trans e4) k4 r4
    · exact p.elim⟩
end
end DL

namespace DL
variable {T : List (PySem.Addr × PySem.Str)} {Z : Zx T}
open PySem PySem.Spec PyProof.Rows L2
open Evl (Ex)
section
variable {X : Cx} {a b e : Expr} {es : List Expr} {we wa wb : DE} {was : DA} {pos p p1 p2 p3 p0 : Pos} {K : PySem.W.Frag} {m : Nat}
/-- [e] * n, a new cell -/
def repQ (x y : PyData) (K : List PyData → Prop) : Prop := match y with
  | .int k => (-1000000 ≤ k ∧ k ≤ 100000) ∧ K (List.replicate k.toNat x)
  | _ => False
theorem q_rep {x : PyData} {k : Int} {K : List PyData → Prop} : repQ x (.int k) K = ((-1000000 ≤ k ∧ k ≤ 100000) ∧ K (List.replicate k.toNat x)) := rfl
abbrev dRep (wa wb : DE) (env : List SD) (P : SD → List SD → Prop) : Prop := wa env fun x env1 => wb env1 fun y env2 => repQ x y fun xs => P (.cel false xs) env2
theorem rep_flat {α : Type} (x : α) : ∀ n : Nat, (List.replicate n [x]).flatten = List.replicate n x
  | 0 => rfl
  | n + 1 => by rw [List.replicate_succ, List.flatten_cons, rep_flat x n, List.replicate_succ]; rfl
theorem DRs.rep {F : Hp} {v : V} {d : PyData} (r : DR K F v d) : ∀ n : Nat, DRs K F (List.replicate n v) (List.replicate n d)
  | 0 => .nil
  | n + 1 => by rw [List.replicate_succ, List.replicate_succ]; exact .cons r (DRs.rep r n)
theorem drep {lp : Pos} (ha : PE X a (liftE X.K Z wa)) (hb : PE X b (liftE X.K Z wb)) (hs : starEach [a] X.env = (false, eval a X.env) :: starEach [] X.env := by rfl) : PE X (.BinOp (.List [a] lp) .Mult b pos) (liftX X.K Z (dRep wa wb)) :=
  PE.of (pe_op op_rep (pe_lst (pa_cons ha pa_nil hs)) hb) fun σ H Q ⟨g, F, env, P, k, w, q⟩ =>
    ⟨g, F, env, _, k, w, fun x env1 v F1 H1 p1 e1 k1 r1 => ⟨by show 1 ≤ sizeLine; decide, fun D hD => by
      obtain ⟨k2, rc⟩ := k1.newCell hD (DRs.one r1)
      obtain ⟨D', vs, eD, hF, hH, rr, h0, hpr, nw⟩ := rc
      cases eD
      refine ⟨_, F1, env1, _, k2.hide hF hH nw hpr, p1, fun y env2 v2 F2 H2 p2 e2 k3 r2 => ?_⟩
      obtain ⟨n, rfl, ⟨h1, h2⟩, p2⟩ : ∃ n, y = .int n ∧ (-1000000 ≤ n ∧ n ≤ 100000) ∧ P (.cel false (List.replicate n.toNat x)) env2 := by
        cases y <;> first | exact ⟨_, rfl, p2⟩ | exact p2.elim
      cases r2.inv_int
      obtain ⟨k4, z1, z2, z3⟩ := Ok.bare hpr k3
      have hvs : vs = [v] := by
        rw [upd_same] at hH
        cases hH
        rfl
      subst hvs
      refine ⟨D, n, [v], rfl, rfl, z2, by omega, by omega, ?_, fun p hp => ?_⟩
      · show 1 * n.toNat ≤ sizeLine
        exact Evl.sz_of (by omega)
      · rw [rep_flat]
        obtain ⟨k5, r5⟩ := k4.newCell hp (DRs.rep (r1.mono e2) n.toNat)
        exact q _ env2 _ _ _ p2 (e1.trans e2) k5 r5⟩⟩
end
theorem Dn.imp {P : Program} {w : World} {K : PySem.W.Frag} {mg : Str → Option Value} {base : Heap} {x : Str} {k : Nat} {ps : List Str} {S S' : DSp} (D : Dn P w K mg base T x k ps S) (h : ∀ as Q, S' as Q → S as Q) : Dn P w K mg base T x k ps S' :=
  ⟨let ⟨fd, F, b⟩ := D.ex; ⟨fd, F.imp h, b⟩, D.glo, D.kp⟩
theorem FnG.never {P : Program} {w : World} {K : PySem.W.Frag} {mg : Str → Option Value} {base : Heap} {k : Nat} {f : Addr} {fd : FuncData} {ps : List Str} {S : DSp} (h : ∀ as Q, ¬ S as Q) : FnG P w K mg base T k f fd ps S :=
  ⟨fun as Q q => absurd q (h as Q), fun _ _ _ _ _ _ _ _ _ _ _ _ _ ⟨_, as, _, _, q, _⟩ => absurd q (h as _)⟩
end DL

namespace DL
variable {T : List (PySem.Addr × PySem.Str)} {Z : Zx T}
open PySem PySem.Spec PyProof.Rows L2
open Evl (Ex)
section
variable {X : Cx} {a b e : Expr} {wa wb : DE} {pos : Pos} {K : PySem.W.Frag}
abbrev oFd : D2 := oIc (fun _ j => j ≠ 0 ∧ Sz j) fun i j => .int (i.fdiv j)
theorem q_fd {i j : Int} {P : PyData → Prop} : oFd (.int i) (.int j) P = ((j ≠ 0 ∧ Sz j) ∧ P (.int (i.fdiv j))) := rfl
end
end DL

namespace DL
variable {T : List (PySem.Addr × PySem.Str)} {Z : Zx T}
open PySem PySem.Spec PyProof.Rows L2
open Evl (Ex)
section
variable {X : Cx} {a b e : Expr} {es : List Expr} {pos p : Pos} {was : DA} {wa wb we : DE} {K : PySem.W.Frag}
def max3 (i j k : Int) : Int := max (max i j) k
def min3 (i j k : Int) : Int := min (min i j) k
def nMax3 (xs : List PyData) (P : PyData → Prop) : Prop := match xs with
  | [.int i, .int j, .int k] => P (.int (max3 i j k))
  | _ => False
def nMin3 (xs : List PyData) (P : PyData → Prop) : Prop := match xs with
  | [.int i, .int j, .int k] => P (.int (min3 i j k))
  | _ => False
theorem q_max3 {i j k : Int} {P : PyData → Prop} : nMax3 [.int i, .int j, .int k] P = P (.int (max3 i j k)) := rfl
theorem q_min3 {i j k : Int} {P : PyData → Prop} : nMin3 [.int i, .int j, .int k] P = P (.int (min3 i j k)) := rfl
/-- the figures of a whole number -/
@[irreducible] def shInt (i : Int) : Str := toString i
def nStr (xs : List PyData) (P : PyData → Prop) : Prop := match xs with
  | [.int i] => i.natAbs < 10 ^ 250 ∧ P (.str (shInt i))
  | _ => False
theorem q_str {i : Int} {P : PyData → Prop} : nStr [.int i] P = (i.natAbs < 10 ^ 250 ∧ P (.str (shInt i))) := rfl
def catQ (xs : List PyData) (y : PyData) (K : List PyData → Prop) : Prop := match y with
  | .list ys => xs.length + ys.length ≤ 100000 ∧ K (xs ++ ys)
  | _ => False
theorem q_cat {xs ys : List PyData} {K : List PyData → Prop} : catQ xs (.list ys) K = (xs.length + ys.length ≤ 100000 ∧ K (xs ++ ys)) := rfl
/-- a list, as a row of items -/
def catN (x y : PyData) (K : List PyData → Prop) : Prop := match x with
  | .list xs => catQ xs y K
  | _ => False
theorem q_catN {xs ys : List PyData} {K : List PyData → Prop} : catN (.list xs) (.list ys) K = (xs.length + ys.length ≤ 100000 ∧ K (xs ++ ys)) := rfl
def scalQ (d : PyData) (p : Prop) : Prop := match d with
  | .none => p
  | .bool _ => p
  | .int _ => p
  | .str _ => p
  | _ => False
theorem q_scalN {p : Prop} : scalQ .none p = p := rfl
theorem q_scalB {b : Bool} {p : Prop} : scalQ (.bool b) p = p := rfl
theorem q_scalI {i : Int} {p : Prop} : scalQ (.int i) p = p := rfl
theorem q_scalS {x : Str} {p : Prop} : scalQ (.str x) p = p := rfl
def frz1 : SD → SD
  | .cel _ xs => .dat (.list xs)
  | .dic _ => .un
  | s => s
def frz (env : List SD) : List SD := env.map frz1
theorem Ok.later {g : Gx Z} {F : Hp} {env : List SD} {σ : L2.St} {H H' : Hp} (k : Ok K g F env σ H) (e : Frm T H (fun _ => True) H') (ef : Ex F H') : Ok K g F env σ H' where
  len := k.len
  fh := ef
  dat := k.dat
  cel := fun i q xs h => by
    obtain ⟨a, vs, h1, h2, h3, h4, h5⟩ := k.cel i q xs h
    exact ⟨a, vs, h1, h2, (e.stay _ _ h3 trivial).lst, h4, h5⟩
  sep := k.sep
  pin := k.pin
  frame := k.frame.trans e fun _ _ _ _ => trivial
  newF := k.newF
  oldF := k.oldF
  prot := fun a u h => by
    obtain ⟨z1, z2, z3⟩ := k.prot a u h
    exact ⟨(e.stay _ _ z1 trivial).same (g.pl a u h), z2, z3⟩
  dic := k.dic.keep (Ex.refl F) (fun _ _ _ z => z) fun a xs h n => ⟨n, (e.stay _ _ h trivial).ext.trans h.symm⟩
theorem Ok.lend {g : Gx Z} {F : Hp} {env : List SD} {σ : L2.St} {H : Hp} (k : Ok K g F env σ H) : ∃ (Z' : Zx T) (g' : Gx Z') (F' : Hp), Ok K g' F' (frz env) σ H ∧ Z'.H0 = H ∧ (∀ i, Z'.A0 i = none) ∧ Ex F F' := by
  classical
  let c : Addr → Prop := fun a => ∃ (i : Nat) (p : Bool) (xs : List PyData), env[i]? = some (.cel p xs) ∧ σ[i]? = some (some (.ref a))
  let F' : Hp := fun a => if c a then H a else F a
  have ex : Ex F F' := fun a o h => by
    show (if c a then H a else F a) = some o
    by_cases z : c a
    · rw [if_pos z]
      exact k.fh a o h
    · rw [if_neg z]
      exact h
  have fh : Ex F' H := fun a o h => by
    have h : (if c a then H a else F a) = some o := h
    by_cases z : c a
    · rw [if_pos z] at h
      exact h
    · rw [if_neg z] at h
      exact k.fh a o h
  have nt : ∀ a ps, F' a ≠ some (.tbl ps) := fun a ps h => by
    have h : (if c a then H a else F a) = some (.tbl ps) := h
    by_cases z : c a
    · rw [if_pos z] at h
      obtain ⟨i, p, xs, e, h1⟩ := z
      obtain ⟨b, vs, b1, _, b3, _⟩ := k.cel i p xs e
      rw [h1] at b1
      cases b1
      rw [b3] at h
      cases h
    · rw [if_neg z] at h
      exact k.oldF.2 a ps h
  refine ⟨⟨F', H, fun _ => none, fun _ => none, Z.P, Z.w⟩, ⟨fun _ => none, fun _ _ h => h, fun _ _ h => by cases h⟩, F', ⟨?_, fh, fun i d h => ?_, fun i p xs h => ?_, fun i j p q xs ys a h => ?_, fun i a h => ?_, Frm.refl k.frame.tab, fun a o h => .inl h, ⟨Ex.refl _, nt⟩, fun a o h => ?_, DicsOk.none fun i kvs h => ?_⟩, rfl, fun _ => rfl, ex⟩
  · unfold frz
    rw [List.length_map]
    exact k.len
  · unfold frz at h
    rw [List.getElem?_map] at h
    cases e : env[i]? with
    | none => rw [e] at h; cases h
    | some s =>
      rw [e] at h
      cases s with
      | un => cases h
      | dic _ => cases h
      | dat d' =>
        cases h
        obtain ⟨v, h1, h2⟩ := k.dat i _ e
        exact ⟨v, h1, h2.mono ex⟩
      | cel p xs =>
        cases h
        obtain ⟨a, vs, h1, h2, h3, h4, h5⟩ := k.cel i p xs e
        refine ⟨_, h1, .lst (RdL.of (xs := vs) ?_) (h4.mono ex)⟩
        show (if c a then H a else F a) = _
        rw [if_pos ⟨i, p, xs, e, h1⟩]
        exact h3
  · unfold frz at h
    rw [List.getElem?_map] at h
    cases e : env[i]? with
    | none => rw [e] at h; cases h
    | some s => rw [e] at h; cases s <;> cases h
  · unfold frz at h
    rw [List.getElem?_map] at h
    cases e : env[i]? with
    | none => rw [e] at h; cases h
    | some s => rw [e] at h; cases s <;> cases h
  · cases h
  · cases h
  · unfold frz at h
    rw [List.getElem?_map] at h
    cases e : env[i]? with
    | none => rw [e] at h; cases h
    | some s => rw [e] at h; cases s <;> cases h
theorem PE.anyZ {ι : Type} {t : ι → TE} (h : ∀ i, PE X e (t i)) : PE X e (fun σ H Q => ∃ i, t i σ H Q) := ⟨fun pins s σ H Q I ⟨i, w⟩ => (h i).run pins s σ H Q I w⟩
theorem PT.anyZ {ι : Type} {t : ι → TT} (h : ∀ i, PT X e (t i)) : PT X e (fun σ H Q => ∃ i, t i σ H Q) := ⟨fun pins s σ H Q I ⟨i, w⟩ => (h i).run pins s σ H Q I w⟩
/-- the tuple at a as it stands at each turn, each item in a new pair -/
def IteT (K : PySem.W.Frag) (a : Addr) : It :=
  ⟨fun i H => ∃ (xs : List V) (x : V), SqT K H a xs ∧ xs[i]? = some x, fun i H v H' => ∃ T x, v = .ref T ∧ H T = none ∧ H' = upd H T (.tup [.int (i : Nat), x]) ∧ ∀ xs, SqT K H a xs → xs[i]? = some x, fun i H => ∃ xs : List V, SqT K H a xs ∧ xs.length ≤ i⟩
theorem turn_enumT {P : Program} {w : World} {K : PySem.W.Frag} {elts : List Expr} {kk : Nat} {tpos : Pos} (a e it : Addr) (hai : a ≠ it) (hae : e ≠ a) :
    Turn P w K (.Tuple elts kk tpos) (IteT K a) [e, it] e (fun i h => (∃ old, IsEnum h e it ((i : Nat) : Int) old) ∧ h.IsTupleIter it a i ∧ e ≠ it) where
  mem := by simp
  obj := fun i h st b hb => by
    obtain ⟨⟨old, he⟩, ⟨o, ho, hc, hd⟩, _⟩ := st
    have e' : b = e ∨ b = it := by simpa using hb
    rcases e' with z | z
    · rw [z]; exact ⟨_, he, fun v q => nomatch q⟩
    · rw [z]; exact ⟨o, ho, fun v q => by rw [hd] at q; cases q⟩
  keep := fun i h h' st k => let ⟨⟨old, he⟩, hi, hne⟩ := st; ⟨⟨old, k e (by simp) _ he⟩, hi.at fun o q => k it (by simp) o q, hne⟩
  item := by
    intro X hP hw hK hc i pins s σ H E I hf st hg
    subst hP hw hK
    obtain ⟨⟨old, he⟩, hit, hne⟩ := st
    obtain ⟨xs, x, hq, hx⟩ := hg
    obtain ⟨its, rv, p, hz⟩ := I.tuple hq
    obtain ⟨u, hu, ru⟩ := rv.get hx
    have hel : e < s.heap.objs.size := Heap.lt_size he
    have hil : it < s.heap.objs.size := by obtain ⟨_, q, _⟩ := hit; exact Heap.lt_size q
    have hii : i < its.toArray.size := by
      rcases Nat.lt_or_ge i its.toArray.size with z | z
      · exact z
      · rw [List.getElem?_eq_none (by simpa using z)] at hu; cases hu
    refine wpAny_pyNext_enum_itemD (Draws.tuple (A := X.A.in1) (show X.A.in1.handled = none from I.ok.hd hc) it a hai its.toArray) he ⟨hit, p⟩ hii hne (by simp [hne, hae]) fun y h' tk hy ho hit' hT hsz hk => ?_
    have hyu : y = u := by
      have : its.toArray[i]? = some u := by simpa using hu
      rw [this] at hy
      exact (Option.some.inj hy).symm
    subst hyu
    refine ⟨_, rfl, wpAny_letOwnedTupleGo_enum (s := { s with heap := h', toks := tk + 1 }) ho fun h'' he' sb => ?_⟩
    have hT2 : h''.get? s.heap.objs.size = some { cls := .type "tuple", data := .seq #[.int i tk, y] } := (sb.2 _ (Nat.ne_of_gt hel)).trans hT
    have new : ObjOk X.prog X.w (upd H s.heap.objs.size (.tup [.int (i : Nat), x])) h'' s.heap.objs.size (.tup [.int (i : Nat), x]) :=
      ⟨by show 2 ≤ sizeLine; decide, [.int i tk, y], .cons ⟨_, rfl⟩ (.cons ru .nil), ⟨_, hT2, rfl, _, rfl⟩⟩
    have I1 : Inv X pins σ (upd H s.heap.objs.size (.tup [.int (i : Nat), x])) { s with heap := h'', toks := tk + 1 } :=
      I.turnedNew (ch := [e, it]) (fun b ob hb q => (sb.2 b (fun z => hb (by simp [z]))).trans (hk b ob (fun z => hb (by simp [z])) (fun z => hb (by simp [z])) q)) hf (Nat.le_refl _) new
    refine ⟨.ref s.heap.objs.size, _, I1, rfl, ⟨_, x, rfl, I.hok.fresh (Nat.le_refl _), rfl, fun ys hy => by rw [I.tuple_inj hy hq]; exact hx⟩, ⟨⟨y, ?_⟩, hit'.1.at fun o q => (sb.2 it (Ne.symm hne)).trans q, hne⟩, fun b hb => ?_⟩
    · have e1 : ((i + 1 : Nat) : Int) = (i : Int) + 1 := by omega
      rw [e1]; exact he'
    · have hb' : b < s.heap.objs.size := by
        have e' : b = e ∨ b = it := by simpa using hb
        rcases e' with z | z
        · rw [z]; exact hel
        · rw [z]; exact hil
      rw [upd_ne (Nat.ne_of_lt hb')]
      exact (hf b hb).1
  done := by
    intro X hP hw hK hc i pins s σ H E I hf st hg
    subst hP hw hK
    obtain ⟨⟨old, he⟩, hit, hne⟩ := st
    obtain ⟨xs, hq, hx⟩ := hg
    obtain ⟨its, rv, p, hz⟩ := I.tuple hq
    obtain ⟨f0, f1, f2, f3, f4, f5⟩ := hf it (by simp)
    have hl := rv.length
    have hd : X.A.handled = none := I.ok.hd hc
    have hT : s.TypeIs (.ref e) "enumerate" := ⟨_, he, rfl⟩
    unfold pyNext
    refine wpAny_bind (wpAny_attempt (wpAny_callSpecial?_slot (name := Str.ofString "__next__") hT F.slot_enumerate_next
      (wpAny_call_entry F.slot_enumerate_next hT F.entry_enumerate_next ?_ (F.args_enumerate_next_1 _))))
    show wpAny _ _ (field (.ref e) 2 >>= _) _ _ _
    refine wpAny_bind (wpAny_field he rfl (x := .ref it) rfl ?_)
    refine wpAny_bind (RZ.nextOf_tuple_end hd hit p (by simp; omega) fun h' x he' hx' => ?_)
    obtain ⟨o, ho, hc⟩ := hx'
    refine wpAny_bind (wpAny_isInstance (T := "StopIteration") (b := true) ⟨o, ho, hc⟩ isSubtype_stop ?_)
    exact wpAny_pure ⟨rfl, I.turned (t' := s.toks) (fun b o hb q => he' b o hb q) f0 f1 f3 f4 f5⟩
  self := fun A i s Q E st h => let ⟨⟨_, he⟩, _⟩ := st; wpAny_pyIter_enum he h
set_option maxHeartbeats 1000000 in
theorem meets_enumerate_new1 {v : Value} {o : Obj} {H : Heap → Prop} (B : Begins v o H) :
    Meets (Builtin.«enumerate.__new__» ⟨[.type "enumerate", v], []⟩) (fun _ R s => H s.heap ∧
      R (.ok (.ret (.ref (s.heap.push o).objs.size))) { s with heap := (s.heap.push o).push { cls := .type "enumerate", data := .fields #[.none, .bool false, .ref s.heap.objs.size, rawInt 0, .none, .none] } }) :=
  .of_wp fun prog w A R s h => by
    obtain ⟨hp, g, d, tk, os⟩ := s; obtain ⟨h1, h⟩ := h
    have hsub := sub_enumerate
    have q1 : ∀ {A' : Around} {E : Value → Shared → Prop} {Q : Value → Shared → Prop}, Q (.ref hp.objs.size) ⟨hp.push o, g, d, tk, os⟩ → wpAny (model prog w) A' (pyIter v) Q E ⟨hp, g, d, tk, os⟩ :=
      fun q => B.iter prog w _ _ ⟨hp, g, d, tk, os⟩ _ h1 q
    wp_walk using q1
    refine wpAny_stack_any fun st => wpAny_pure ?_
    split
    · rename_i c _ _ _ _ _
      cases (c == Value.type "enumerate")
      · wp_walk using q1
        exact ⟨_, rfl, h⟩
      · wp_walk using q1
        exact ⟨_, rfl, h⟩
    · wp_walk using q1
      exact ⟨_, rfl, h⟩
theorem enum_begins1 {prog : Program} {w : World} {A : Around} {E : Value → Shared → Prop} {s : Shared} {v : Value} {o : Obj} {H : Heap → Prop} {Q : Value → Shared → Prop} (B : Begins v o H) (h1 : H s.heap)
    (h : ∀ h', IsEnum h' (s.heap.objs.size + 1) s.heap.objs.size 0 .none → h'.get? s.heap.objs.size = some o → h'.objs.size = s.heap.objs.size + 2 →
      (∀ b o, s.heap.get? b = some o → h'.get? b = some o) → Q (.ref (s.heap.objs.size + 1)) { s with heap := h' }) :
    wpAny (model prog w) A (call (.type "enumerate") [v]) Q E s := by
  refine callType_new F.called_enumerate (by decide) (F.typeCall_enumerate_1 _) (F.newCall_enumerate_1 _) (fun obj => F.args_object_init_2 obj _) F.entry_enumerate_new
    (meets_enumerate_new1 B) ⟨h1, ?_⟩
  have hz : (s.heap.push o).objs.size = s.heap.objs.size + 1 := Heap.size_push ..
  show _ ∧ _
  rw [hz]
  have he : IsEnum ((s.heap.push o).push { cls := .type "enumerate", data := .fields #[.none, .bool false, .ref s.heap.objs.size, rawInt 0, .none, .none] }) (s.heap.objs.size + 1) s.heap.objs.size 0 .none := by
    have := Heap.get?_push_size (s.heap.push o) (o := { cls := .type "enumerate", data := .fields #[.none, .bool false, .ref s.heap.objs.size, rawInt 0, .none, .none] }) rfl
    rw [hz] at this; exact this
  refine ⟨⟨_, he, rfl⟩, h _ he (Heap.get?_push_of_some _ (Heap.get?_push_size _ B.free)) (by rw [Heap.size_push, hz]) fun b o x => Heap.get?_push_of_some _ (Heap.get?_push_of_some _ x)⟩
def iEnumA (K : PySem.W.Frag) (ta : TA) : TI := fun σ H R => ta σ H fun vs H1 => ∃ a xs, vs = [.ref a] ∧ ((SqL K H1 a xs ∧ R (Ite K a) H1) ∨ (SqT K H1 a xs ∧ R (IteT K a) H1))
theorem pi_enumA {ta : TA} {tpos : Pos} {elts : List Expr} {kk : Nat} (hg : Gl X "enumerate") (hm : X.mg "enumerate" = none) (ha : PA X [e] ta) (hs : starEach [e] X.env = [(false, eval e X.env)] := by rfl) :
    PI X (.Tuple elts kk tpos) (.Call (.Name "enumerate" p) [e] [] pos) (iEnumA X.K ta) := by
  refine ⟨fun pins s σ H R I h => ?_⟩
  refine Call_ (ld_blt I hg hm boot_enumerate (PyProof.Rows.callWith_type1 (thn (ha.run pos pins s σ H _ I h) fun us s1 ⟨vs, H1, I1, r1, q1⟩ => ?_) hs rfl))
  obtain ⟨a, xs, ex, q1⟩ := q1
  subst ex
  cases r1 with
  | cons r rr =>
    cases rr
    cases r
    rcases q1 with ⟨hq, q⟩ | ⟨hq, q⟩
    · obtain ⟨its, rv, p', hz⟩ := I1.list hq
      refine call_enumerate_list p'.isList fun h' he hit hsz hk => wpAny_pyIter_enum he ?_
      have I2 : Inv X pins σ H1 { s1 with heap := h' } := I1.kept (t' := s1.toks) hk
      refine ⟨s1.heap.objs.size + 1, [s1.heap.objs.size + 1, s1.heap.objs.size], _, _, H1, rfl, I2, turn_enum a (s1.heap.objs.size + 1) s1.heap.objs.size, ⟨⟨.none, he⟩, hit, Nat.succ_ne_self _⟩, fun b hb => ?_, q⟩
      have e' : b = s1.heap.objs.size + 1 ∨ b = s1.heap.objs.size := by simpa using hb
      have hle : s1.heap.objs.size ≤ b := by
        rcases e' with z | z
        · rw [z]; exact Nat.le_add_right _ _
        · rw [z]; exact Nat.le_refl _
      exact I1.fpOk hle (I1.hok.fresh hle)
    · obtain ⟨its, rv, p', hz⟩ := I1.tuple hq
      have hal : a < s1.heap.objs.size := by obtain ⟨_, z, _⟩ := p'; exact Heap.lt_size z
      refine enum_begins1 (begins_tuple a its.toArray) p' fun h' he hit hsz hk => wpAny_pyIter_enum he ?_
      have I2 : Inv X pins σ H1 { s1 with heap := h' } := I1.kept (t' := s1.toks) hk
      refine ⟨s1.heap.objs.size + 1, [s1.heap.objs.size + 1, s1.heap.objs.size], _, _, H1, rfl, I2, turn_enumT a (s1.heap.objs.size + 1) s1.heap.objs.size (Nat.ne_of_lt hal) (Nat.ne_of_gt (Nat.lt_succ_of_lt hal)), ⟨⟨.none, he⟩, ⟨_, hit, rfl, rfl⟩, Nat.succ_ne_self _⟩, fun b hb => ?_, q⟩
      have e' : b = s1.heap.objs.size + 1 ∨ b = s1.heap.objs.size := by simpa using hb
      have hle : s1.heap.objs.size ≤ b := by
        rcases e' with z | z
        · rw [z]; exact Nat.le_add_right _ _
        · rw [z]; exact Nat.le_refl _
      exact I1.fpOk hle (I1.hok.fresh hle)
/-- 0, 1, .. beside the items -/
def enumD : Nat → List PyData → List PyData
  | _, [] => []
  | n, x :: xs => .tuple [.int (n : Nat), x] :: enumD (n + 1) xs
theorem enumD_length : ∀ (xs : List PyData) (n : Nat), (enumD n xs).length = xs.length
  | [], _ => rfl
  | _ :: xs, n => congrArg (· + 1) (enumD_length xs (n + 1))
theorem enumD_get : ∀ {xs : List PyData} {n i : Nat} {d : PyData}, (enumD n xs)[i]? = some d → ∃ x, xs[i]? = some x ∧ d = .tuple [.int ((n + i : Nat) : Int), x]
  | [], _, _, _, h => by simp [enumD] at h
  | x :: xs, n, 0, d, h => by simp [enumD] at h; exact ⟨x, rfl, h.symm⟩
  | x :: xs, n, i + 1, d, h => by
    obtain ⟨u, h1, h2⟩ := enumD_get (xs := xs) (n := n + 1) (i := i) (d := d) (by simpa [enumD] using h)
    exact ⟨u, by simpa using h1, by rw [h2, show n + 1 + i = n + (i + 1) by omega]⟩
def enumQ (ds : List PyData) (K : List PyData → Prop) : Prop := match ds with
  | [.list xs] => At (enumD 0 xs) K
  | [.tuple xs] => At (enumD 0 xs) K
  | _ => False
theorem q_enumL {xs : List PyData} {K : List PyData → Prop} : enumQ [.list xs] K = K (enumD 0 xs) := At.eq
theorem q_enumT {xs : List PyData} {K : List PyData → Prop} : enumQ [.tuple xs] K = K (enumD 0 xs) := At.eq
theorem walkD_enumL {F : Hp} {a : Addr} {us : List V} {xs : List PyData} (h1 : RdL K F a us) (h2 : DRs K F us xs) : WalkD K true F (Ite K a) (enumD 0 xs) := by
  refine ⟨fun H => SqL K H a us, fun i H v H' => ∃ T x, v = .ref T ∧ H T = none ∧ H' = upd H T (.tup [.int (i : Nat), x]) ∧ us[i]? = some x, ⟨fun i H hi q => ?_, fun H q => ?_, fun i H x H' hi q y => ?_⟩, fun H e => (h1.mono e).sq, fun i H x H' d _ e y => ?_⟩
  · rw [enumD_length, ← h2.length] at hi
    exact ⟨us, us[i]'hi, q, by simp [hi]⟩
  · exact ⟨us, q, by rw [enumD_length, ← h2.length]; exact Nat.le_refl _⟩
  · obtain ⟨T, u, z1, z2, z3, z4⟩ := y
    exact ⟨T, u, z1, z2, z3, z4 us q⟩
  · obtain ⟨T, u, z1, z2, z3, z4⟩ := y
    obtain ⟨dx, e1, rfl⟩ := enumD_get e
    obtain ⟨u', y1, y2⟩ := h2.get e1
    rw [z4] at y1
    cases y1
    refine .inr ⟨rfl, T, _, _, z1, z2, z3, rfl, .cons ?_ (.one y2)⟩
    rw [Nat.zero_add]
    exact .int _
theorem walkD_enumT {F : Hp} {a : Addr} {us : List V} {xs : List PyData} (h1 : SqT K F a us) (h2 : DRs K F us xs) : WalkD K true F (IteT K a) (enumD 0 xs) := by
  refine ⟨fun H => SqT K H a us, fun i H v H' => ∃ T x, v = .ref T ∧ H T = none ∧ H' = upd H T (.tup [.int (i : Nat), x]) ∧ us[i]? = some x, ⟨fun i H hi q => ?_, fun H q => ?_, fun i H x H' hi q y => ?_⟩, fun H e => Evl.ex_t e h1, fun i H x H' d _ e y => ?_⟩
  · rw [enumD_length, ← h2.length] at hi
    exact ⟨us, us[i]'hi, q, by simp [hi]⟩
  · exact ⟨us, q, by rw [enumD_length, ← h2.length]; exact Nat.le_refl _⟩
  · obtain ⟨T, u, z1, z2, z3, z4⟩ := y
    exact ⟨T, u, z1, z2, z3, z4 us q⟩
  · obtain ⟨T, u, z1, z2, z3, z4⟩ := y
    obtain ⟨dx, e1, rfl⟩ := enumD_get e
    obtain ⟨u', y1, y2⟩ := h2.get e1
    rw [z4] at y1
    cases y1
    refine .inr ⟨rfl, T, _, _, z1, z2, z3, rfl, .cons ?_ (.one y2)⟩
    rw [Nat.zero_add]
    exact .int _
theorem ienum {elts : List Expr} {kk : Nat} {tpos : Pos} (hm : X.mg "enumerate" = none) (ha : PA X [a] (liftA X.K Z was)) (hg : Gl X "enumerate" := by rfl) (hs : starEach [a] X.env = [(false, eval a X.env)] := by rfl) :
    PI X (.Tuple elts kk tpos) (.Call (.Name "enumerate" p) [a] [] pos) (liftI X.K Z true (dIt enumQ was)) :=
  PI.of (pi_enumA hg hm ha hs) fun σ H R ⟨g, F, env, P, k, w, q⟩ => ⟨g, F, env, _, k, w, fun ds env1 vs F1 H1 p e1 k1 r1 => by
    unfold enumQ at p
    split at p
    · obtain ⟨v, rfl, r2⟩ := r1.inv1
      obtain ⟨a, us, rfl, h1, h2⟩ := r2.inv_lst
      exact ⟨a, us, rfl, .inl ⟨(h1.mono k1.fh).sq, q _ env1 _ F1 H1 p.out e1 k1 (walkD_enumL h1 h2)⟩⟩
    · obtain ⟨v, rfl, r2⟩ := r1.inv1
      obtain ⟨a, us, rfl, h1, h2⟩ := r2.inv_tup
      exact ⟨a, us, rfl, .inr ⟨Evl.ex_t k1.fh h1, q _ env1 _ F1 H1 p.out e1 k1 (walkD_enumT h1 h2)⟩⟩
    · exact p.elim⟩
end
end DL

namespace DL
variable {T : List (PySem.Addr × PySem.Str)} {Z : Zx T}
open PySem PySem.Spec PyProof.Rows L2
open Evl (Ex)
section
variable {X : Cx} {a b e : Expr} {es : List Expr} {pos p : Pos} {was : DA} {wa wb we : DE} {K : PySem.W.Frag}
theorem maxOf_int (x : Int) : ∀ xs : List Int, PySem.W.maxOf x xs ∈ x :: xs ∧ ∀ a ∈ x :: xs, a ≤ PySem.W.maxOf x xs := by
  intro xs
  unfold PySem.W.maxOf
  induction xs generalizing x with
  | nil => exact ⟨by simp, fun a h => by simp at h; subst h; exact Int.le_refl _⟩
  | cons y ys ih =>
    rw [List.foldl_cons]
    by_cases h : x < y
    · rw [if_pos (show PySem.W.DatumOrd.lt x y = true from decide_eq_true h)]
      obtain ⟨h1, h2⟩ := ih y
      refine ⟨List.mem_cons_of_mem _ h1, fun a ha => ?_⟩
      rcases List.mem_cons.mp ha with rfl | ha
      · have := h2 y (by simp)
        omega
      · exact h2 a ha
    · rw [if_neg (show ¬ PySem.W.DatumOrd.lt x y = true from fun z => h (of_decide_eq_true z))]
      obtain ⟨h1, h2⟩ := ih x
      refine ⟨?_, fun a ha => ?_⟩
      · rcases List.mem_cons.mp h1 with z | z
        · rw [z]; simp
        · exact List.mem_cons_of_mem _ (List.mem_cons_of_mem _ z)
      · rcases List.mem_cons.mp ha with rfl | ha
        · exact h2 _ (by simp)
        · rcases List.mem_cons.mp ha with rfl | ha
          · have := h2 x (by simp)
            omega
          · exact h2 a (List.mem_cons_of_mem _ ha)
theorem readsAll_ints {h : Heap} : ∀ {its : List Value} {ns : List Int}, Vals (ns.map V.int) its → ∃ as, PySem.ReadsAll h its (ns.map PySem.W.Datum.toD) as
  | its, [], r => by cases r; exact ⟨_, .nil⟩
  | its, n :: ns, r => by
    cases r with
    | cons r1 r2 =>
      obtain ⟨t, rfl⟩ := r1
      obtain ⟨as, q⟩ := readsAll_ints r2
      exact ⟨_, .cons (.int _ _) q⟩
def rMaxD (K : PySem.W.Frag) : List V → Hp → VK → Prop := fun vs H Q => ∃ (a : Addr) (ns : List Int), vs = [.ref a] ∧ (SqL K H a (ns.map V.int) ∨ SqT K H a (ns.map V.int)) ∧ 0 < ns.length ∧ ∀ m, m ∈ ns → (∀ a ∈ ns, a ≤ m) → Q (.int m) H
theorem call_maxD (hc : X.calm = true) (hu : X.A.units + 64 < cLine) : CallR X (.builtin "max") (rMaxD X.K) := by
  intro pins s σ H xs us Q I r h
  obtain ⟨a, ns, rfl, h | h, hn, q⟩ := h
  · exact cr_max hc pins s σ H _ us Q I r ⟨a, ns, rfl, h, hn, q⟩
  · cases r.ref1
    obtain ⟨its, rv, ht, hz⟩ := I.tuple h
    cases ns with
    | nil => simp at hn
    | cons n ns =>
      have ht2 : s.heap.IsTuple a its.toArray := ht
      refine PySem.W.max_tuple_datum (I.ok.hd hc) ht2 (x := n) (xs := ns) (readsAll_ints (ns := n :: ns) rv) (by show X.A.units + 1 + 0 < cLine; omega) fun i v h' tk hv hh hk => ?_
      obtain ⟨as, hh⟩ := hh
      have hh : PySem.Reads h' v (.int (PySem.W.maxOf n ns)) as := hh
      cases hh
      obtain ⟨h1, h2⟩ := maxOf_int n ns
      exact ⟨.int _, H, I.kept hk, ⟨_, rfl⟩, q _ h1 h2⟩
/-- what max tells of whole numbers -/
def maxQ (o : Option (List Int)) (P : PyData → Prop) : Prop := match o with
  | some ns => 0 < ns.length ∧ ∀ m, m ∈ ns → (∀ a ∈ ns, a ≤ m) → P (.int m)
  | none => False
def nMaxL (xs : List PyData) (P : PyData → Prop) : Prop := match xs with
  | [.list ds] => maxQ (intsD ds) P
  | [.tuple ds] => maxQ (intsD ds) P
  | _ => False
theorem dmaxL (hm : X.mg "max" = none) (hc : X.calm = true) (hu : X.A.units + 64 < cLine) (ha : PA X (e :: es) (liftA X.K Z was)) (hg : Gl X "max" := by rfl)
    (he : starEach (e :: es) X.env = (false, eval e X.env) :: starEach es X.env := by rfl) (hpl : (backTo pos (starEach es X.env)).any (·.1) = false := by rfl) : PE X (.Call (.Name "max" p) (e :: es) [] pos) (liftE X.K Z (dB nMaxL was)) :=
  dcb (call_maxD hc hu) (fun _ _ g F env σ H vs ds P Q k r f q => by
    unfold nMaxL at f
    split at f
    · obtain ⟨v, rfl, r0⟩ := r.inv1
      obtain ⟨a, us, rfl, h1, h2⟩ := r0.inv_lst
      unfold maxQ at f
      split at f
      · rename_i ns e
        cases ints_rel h2 e
        exact ⟨a, ns, rfl, .inl (h1.mono k.fh).sq, f.1, fun m z1 z2 => q _ _ F H (f.2 m z1 z2) (Ex.refl F) k (.int _)⟩
      · exact f.elim
    · obtain ⟨v, rfl, r0⟩ := r.inv1
      obtain ⟨a, us, rfl, h1, h2⟩ := r0.inv_tup
      unfold maxQ at f
      split at f
      · rename_i ns e
        cases ints_rel h2 e
        exact ⟨a, ns, rfl, .inr (Evl.ex_t k.fh h1), f.1, fun m z1 z2 => q _ _ F H (f.2 m z1 z2) (Ex.refl F) k (.int _)⟩
      · exact f.elim
    · exact f.elim) hm (by decide +kernel) ha hg (by decide) (by decide) he hpl
@[irreducible] def memD (x : PyData) (ds : List PyData) : Bool := ds.any fun z => PyData.eqv z x
theorem memD_raw {x : PyData} {ds : List PyData} : memD x ds = ds.any fun z => PyData.eqv z x := by
  unfold memD
  rfl
/-- a text within a text -/
@[irreducible] def inStr (a z : Str) : Bool := !(Builtin.Str.occurrences z a 0 z.length 1).isEmpty
def rIn2 (K : PySem.W.Frag) (n : Bool) : R2 := fun x y H Q => (∃ d ds, Dp K H x d ∧ (Dp K H y (.list ds) ∨ Dp K H y (.tuple ds)) ∧ SeqAt.shaped d = true ∧ SeqAt.shaped (.list ds) = true ∧ Q (.bl (memD d ds != n)) H)
theorem op_in2 (hu : X.A.units + 65 < cLine) : OpR X (compareOp .In) (rIn2 X.K false) := by
  intro pins s σ H x y v u Q I rx ry h
  obtain ⟨d, ds, hd, he, sd, se, q⟩ := h
  obtain ⟨as, r1⟩ := Dp.reads I d x v hd rx
  rw [memD_raw, show ∀ b : Bool, (b != false) = b by decide] at q
  rcases he with he | he
  · obtain ⟨bs, r2⟩ := Dp.reads I (.list ds) y u he ry
    exact SeqAt.in_list_reads r2 r1 (SeqAt.canLay_of_shaped se) (SeqAt.canLay_of_shaped sd) (room_in_shaped sd hu) ⟨.bl _, H, I, rfl, q⟩
  · obtain ⟨bs, r2⟩ := Dp.reads I (.tuple ds) y u he ry
    exact SeqAt.in_tuple_reads r2 r1 (SeqAt.canLay_of_shaped se) (SeqAt.canLay_of_shaped sd) (room_in_shaped sd hu) ⟨.bl _, H, I, rfl, q⟩
theorem op_nin2 (hu : X.A.units + 65 < cLine) : OpR X (compareOp .NotIn) (rIn2 X.K true) := by
  intro pins s σ H x y v u Q I rx ry h
  obtain ⟨d, ds, hd, he, sd, se, q⟩ := h
  obtain ⟨as, r1⟩ := Dp.reads I d x v hd rx
  rw [memD_raw, show ∀ b : Bool, (b != true) = !b by decide] at q
  rcases he with he | he
  · obtain ⟨bs, r2⟩ := Dp.reads I (.list ds) y u he ry
    exact SeqAt.notIn_list_reads r2 r1 (SeqAt.canLay_of_shaped se) (SeqAt.canLay_of_shaped sd) (room_in_shaped sd hu) ⟨.bl _, H, I, rfl, q⟩
  · obtain ⟨bs, r2⟩ := Dp.reads I (.tuple ds) y u he ry
    exact SeqAt.notIn_tuple_reads r2 r1 (SeqAt.canLay_of_shaped se) (SeqAt.canLay_of_shaped sd) (room_in_shaped sd hu) ⟨.bl _, H, I, rfl, q⟩
def rInA (K : PySem.W.Frag) : R2 := fun x y H Q => rIn2 K false x y H Q ∨ ∃ i j, x = .str i ∧ y = .str j ∧ Q (.bl (!(Builtin.Str.occurrences j i 0 j.length 1).isEmpty)) H
def rNinA (K : PySem.W.Frag) : R2 := fun x y H Q => rIn2 K true x y H Q ∨ ∃ i j, x = .str i ∧ y = .str j ∧ Q (.bl (!(!(Builtin.Str.occurrences j i 0 j.length 1).isEmpty))) H
theorem op_inA (hu : X.A.units + 65 < cLine) : OpR X (compareOp .In) (rInA X.K) := OpR.or (op_in2 hu) op_in_str
theorem op_ninA (hu : X.A.units + 65 < cLine) : OpR X (compareOp .NotIn) (rNinA X.K) := OpR.or (op_nin2 hu) op_notIn_str
/-- may be looked for -/
def shp (x : PyData) (ds : List PyData) : Prop := SeqAt.shaped x = true ∧ SeqAt.shaped (.list ds) = true
def oMem (n : Bool) (x y : PyData) (P : PyData → Prop) : Prop := match y with
  | .list ds => shp x ds ∧ P (.bool (memD x ds != n))
  | .tuple ds => shp x ds ∧ P (.bool (memD x ds != n))
  | .str z => (match x with
    | .str a => P (.bool (inStr a z != n))
    | _ => False)
  | _ => False
def oIn (x y : PyData) (P : PyData → Prop) : Prop := oMem false x y P
def oNin (x y : PyData) (P : PyData → Prop) : Prop := oMem true x y P
theorem q_inL {x : PyData} {ds : List PyData} {P : PyData → Prop} : oIn x (.list ds) P = (shp x ds ∧ P (.bool (memD x ds != false))) := rfl
theorem q_inT {x : PyData} {ds : List PyData} {P : PyData → Prop} : oIn x (.tuple ds) P = (shp x ds ∧ P (.bool (memD x ds != false))) := rfl
theorem q_inS {a z : Str} {P : PyData → Prop} : oIn (.str a) (.str z) P = P (.bool (inStr a z != false)) := rfl
theorem q_ninL {x : PyData} {ds : List PyData} {P : PyData → Prop} : oNin x (.list ds) P = (shp x ds ∧ P (.bool (memD x ds != true))) := rfl
theorem q_ninT {x : PyData} {ds : List PyData} {P : PyData → Prop} : oNin x (.tuple ds) P = (shp x ds ∧ P (.bool (memD x ds != true))) := rfl
theorem q_ninS {a z : Str} {P : PyData → Prop} : oNin (.str a) (.str z) P = P (.bool (inStr a z != true)) := rfl
theorem mem_reads {g : Gx Z} {F : Hp} {env : List SD} {σ : L2.St} {H : Hp} (k : Ok K g F env σ H) {vx vy : V} {x : PyData} {ds : List PyData} {n : Bool} {Q : VK} (rx : DR K F vx x) (ry : DR K F vy (.list ds) ∨ DR K F vy (.tuple ds)) (h : shp x ds) (q : Q (.bl (memD x ds != n)) H) :
    rIn2 K n vx vy H Q := by
  refine ⟨x, ds, DR.dp (drH k rx) (dict_of_shaped h.1), ?_, h.1, h.2, q⟩
  have z : PyData.hasDictAll ds = false := by simpa [PyData.hasDict] using dict_of_shaped h.2
  rcases ry with ry | ry
  · exact .inl (DR.dp (drH k ry) (by simpa [PyData.hasDict] using z))
  · exact .inr (DR.dp (drH k ry) (by simpa [PyData.hasDict] using z))
theorem opd_in : OpD K (rInA K) oIn := by
  intro _ _ g F env σ H vx vy dx dy P Q k rx ry p q
  unfold oIn oMem at p
  split at p
  · exact .inl (mem_reads k rx (.inl ry) p.1 (q _ _ F H p.2 (Ex.refl F) k (.bl _)))
  · exact .inl (mem_reads k rx (.inr ry) p.1 (q _ _ F H p.2 (Ex.refl F) k (.bl _)))
  · split at p
    · rename_i a
      cases rx.inv_str
      cases ry.inv_str
      refine .inr ⟨_, _, rfl, rfl, q _ _ F H p (Ex.refl F) k ?_⟩
      unfold inStr
      rw [show ∀ b : Bool, (b != false) = b by decide]
      exact .bl _
    · exact p.elim
  · exact p.elim
theorem opd_nin : OpD K (rNinA K) oNin := by
  intro _ _ g F env σ H vx vy dx dy P Q k rx ry p q
  unfold oNin oMem at p
  split at p
  · exact .inl (mem_reads k rx (.inl ry) p.1 (q _ _ F H p.2 (Ex.refl F) k (.bl _)))
  · exact .inl (mem_reads k rx (.inr ry) p.1 (q _ _ F H p.2 (Ex.refl F) k (.bl _)))
  · split at p
    · rename_i a
      cases rx.inv_str
      cases ry.inv_str
      refine .inr ⟨_, _, rfl, rfl, q _ _ F H p (Ex.refl F) k ?_⟩
      unfold inStr
      rw [show ∀ b : Bool, (b != true) = !b by decide]
      exact .bl _
    · exact p.elim
  · exact p.elim
theorem _root_.L2.Room.u65 {k : Nat} {A : Around} (r : Room k A) : A.units + 65 < cLine := by have := r.un; omega
theorem din {k : Nat} (hr : Room k X.A) (ha : PE X a (liftE X.K Z wa)) (hb : PE X b (liftE X.K Z wb)) (hm : behindInMarks .In b = false := by rfl) : PE X (.Compare a [.In] [b] pos) (liftE X.K Z (dOp oIn wa wb)) := dcmp (op_inA hr.u65) opd_in ha hb hm
theorem tin {k : Nat} (hr : Room k X.A) (ha : PE X a (liftE X.K Z wa)) (hb : PE X b (liftE X.K Z wb)) (hm : behindInMarks .In b = false := by rfl) : PT X (.Compare a [.In] [b] pos) (liftT X.K Z (dTest (dOp oIn wa wb))) := dcmpT (op_inA hr.u65) opd_in ha hb hm
end
end DL

namespace DL
variable {T : List (PySem.Addr × PySem.Str)} {Z : Zx T}
open PySem PySem.Spec PyProof.Rows L2
structure Sm (b k : Nat) (d : PyData) : Prop where
  rp : rp d = true
  bulk : d.bulk ≤ b
  depth : d.depth ≤ k
theorem Sm.mono {b k b' k' : Nat} {d : PyData} (h : Sm b k d) (hb : b ≤ b' := by omega) (hk : k ≤ k' := by omega) : Sm b' k' d := ⟨h.rp, Nat.le_trans h.bulk hb, Nat.le_trans h.depth hk⟩
theorem sm_all {b k : Nat} : ∀ {xs : List PyData}, (∀ x ∈ xs, Sm b k x) → rpAll xs = true ∧ PyData.bulkAll xs ≤ xs.length * (b + 1) ∧ PyData.depthAll xs ≤ k
  | [], _ => ⟨by simp [rpAll], by simp [PyData.bulkAll], by simp [PyData.depthAll]⟩
  | x :: xs, h => by
    obtain ⟨h1, h2, h3⟩ := sm_all (xs := xs) fun y hy => h y (List.mem_cons_of_mem _ hy)
    have hx := h x List.mem_cons_self
    refine ⟨?_, ?_, ?_⟩
    · rw [rpAll, hx.rp, h1]; rfl
    · rw [PyData.bulkAll, List.length_cons, Nat.add_mul]
      have := hx.bulk
      omega
    · rw [PyData.depthAll]
      have := hx.depth
      omega
theorem Sm.tup {n b k : Nat} {xs : List PyData} (hl : xs.length ≤ n) (h : ∀ x ∈ xs, Sm b k x) : Sm (n * (b + 1)) (k + 1) (.tuple xs) := by
  obtain ⟨h1, h2, h3⟩ := sm_all h
  refine ⟨by simpa only [DL.rp] using h1, ?_, ?_⟩
  · rw [PyData.bulk]
    exact Nat.le_trans h2 (Nat.mul_le_mul_right _ hl)
  · rw [PyData.depth]
    omega
theorem Sm.lst {n b k : Nat} {xs : List PyData} (hl : xs.length ≤ n) (h : ∀ x ∈ xs, Sm b k x) : Sm (n * (b + 1)) (k + 1) (.list xs) := by
  obtain ⟨h1, h2, h3⟩ := sm_all h
  refine ⟨by simpa only [DL.rp] using h1, ?_, ?_⟩
  · rw [PyData.bulk]
    exact Nat.le_trans h2 (Nat.mul_le_mul_right _ hl)
  · rw [PyData.depth]
    omega
theorem Sm.int {i : Int} (h : i.natAbs < 10 ^ 250) (b k : Nat) : Sm b k (.int i) := ⟨by simpa only [DL.rp, decide_eq_true_eq] using h, by rw [PyData.bulk]; omega, by rw [PyData.depth]; omega⟩
theorem Sm.int' {i : Int} {b k : Nat} (h0 : -(10 ^ 100) ≤ i) (h1 : i ≤ 10 ^ 100) : Sm b k (.int i) := Sm.int (lt_of h0 h1) b k
theorem Sm.bool {t : Bool} (b k : Nat) : Sm b k (.bool t) := ⟨rfl, by rw [PyData.bulk]; omega, by rw [PyData.depth]; omega⟩
theorem Sm.none (b k : Nat) : Sm b k .none := ⟨rfl, by rw [PyData.bulk]; omega, by rw [PyData.depth]; omega⟩
theorem rp_mem : ∀ {xs : List PyData}, rpAll xs = true → ∀ x ∈ xs, rp x = true
  | [], _, x, h => by simp at h
  | y :: ys, e, x, h => by
    simp only [rpAll, Bool.and_eq_true] at e
    rcases List.mem_cons.mp h with rfl | h
    · exact e.1
    · exact rp_mem e.2 x h
theorem bulk_mem : ∀ {xs : List PyData}, ∀ x ∈ xs, x.bulk ≤ PyData.bulkAll xs ∧ x.depth ≤ PyData.depthAll xs
  | [], x, h => by simp at h
  | y :: ys, x, h => by
    rw [PyData.bulkAll, PyData.depthAll]
    rcases List.mem_cons.mp h with rfl | h
    · omega
    · have := bulk_mem x h
      omega
/-- items of small data -/
theorem Sm.inT {b k : Nat} {xs : List PyData} (h : Sm b k (.tuple xs)) : ∀ x ∈ xs, Sm b k x := fun x hx => by
  have h1 := h.rp
  have h2 := h.bulk
  have h3 := h.depth
  rw [PyData.bulk] at h2
  rw [PyData.depth] at h3
  obtain ⟨z1, z2⟩ := bulk_mem x hx
  exact ⟨rp_mem (by simpa only [DL.rp] using h1) x hx, by omega, by omega⟩
theorem cut_mem {xs : List PyData} {lo hi : Option Int} {x : PyData} (h : x ∈ DL.cutD xs lo hi) : x ∈ xs := by
  unfold DL.cutD at h
  exact List.mem_of_mem_drop (List.mem_of_mem_take h)
end DL

namespace DL
variable {T : List (PySem.Addr × PySem.Str)} {Z : Zx T}
open PySem PySem.Spec PyProof.Rows L2
open Evl (Ex)

/-- a list that a def made and may still change -/
abbrev rowD (ds : List PyData) : PyData := .dict [(.none, .list ds)]
section
variable {K : PySem.W.Frag} {F H : Hp} {b : Addr} {us us' : List V}
end
section
variable {X : Cx} {e b b2 : Expr} {we wb wb2 : DE} {wx : DX} {m : Nat} {pos : Pos}
end
section
variable {K : PySem.W.Frag} {F H : Hp} {vs : List V} {as : List SD}
def atB : PyData → Bool
  | .none => true
  | .bool _ => true
  | .int _ => true
  | .str _ => true
  | _ => false
def atoms : List SD → Bool
  | [] => true
  | .un :: r => atoms r
  | .dat d :: r => atB d && atoms r
  | .cel _ xs :: r => xs.all atB && atoms r
  | .dic _ :: _ => false
theorem atoms_get : ∀ {env : List SD} {j : Nat} {s : SD}, atoms env = true → env[j]? = some s → match s with | .un => True | .dat d => atB d = true | .cel _ xs => xs.all atB = true | .dic _ => False
  | [], j, s, _, e => by simp at e
  | .un :: r, 0, s, h, e => by simp at e; subst e; trivial
  | .dat d :: r, 0, s, h, e => by simp only [atoms, Bool.and_eq_true] at h; simp at e; subst e; exact h.1
  | .cel p xs :: r, 0, s, h, e => by simp only [atoms, Bool.and_eq_true] at h; simp at e; subst e; exact h.1
  | .dic _ :: r, _, s, h, e => by simp [atoms] at h
  | .un :: r, j + 1, s, h, e => atoms_get (env := r) (j := j) h (by simpa using e)
  | .dat d :: r, j + 1, s, h, e => by simp only [atoms, Bool.and_eq_true] at h; exact atoms_get (env := r) (j := j) h.2 (by simpa using e)
  | .cel p xs :: r, j + 1, s, h, e => by simp only [atoms, Bool.and_eq_true] at h; exact atoms_get (env := r) (j := j) h.2 (by simpa using e)
theorem at_any {F' : Hp} {v : V} {d : PyData} (h : atB d = true) (r : DR K F v d) : DR K F' v d := by
  cases r with
  | non => exact .non
  | bl b => exact .bl b
  | int i => exact .int i
  | str x => exact .str x
  | lst _ _ => cases h
  | tup _ _ => cases h
  | dct _ _ => cases h
  | row _ _ => cases h
  | exc _ _ => cases h
theorem ats_any {F' : Hp} : ∀ {vs : List V} {ds : List PyData}, ds.all atB = true → DRs K F vs ds → DRs K F' vs ds
  | _, _, _, .nil => .nil
  | _, _, h, .cons x y => by
    simp only [List.all_cons, Bool.and_eq_true] at h
    exact .cons (at_any h.1 x) (ats_any h.2 y)
abbrev noH : Hp := fun _ => none
theorem ArgsOk.bare (ha : ArgsOk T K F H vs as) (h : atoms as = true) : ArgsOk T K noH H vs as where
  len := ha.len
  fh := fun a o e => by cases e
  dat := fun i d e => by
    obtain ⟨v, h1, h2⟩ := ha.dat i d e
    exact ⟨v, h1, at_any (atoms_get h e) h2⟩
  cel := fun i p xs e => by
    obtain ⟨rfl, a, us, h1, h2, h3, h4⟩ := ha.cel i p xs e
    exact ⟨rfl, a, us, h1, rfl, h3, ats_any (atoms_get h e) h4⟩
  sep := ha.sep
  nod := ha.nod
  tab := ha.tab
  nt := fun _ _ e => by cases e
/-- both -/
def joinH (F F' : Hp) : Hp := fun a => match F' a with
  | some o => some o
  | none => F a
theorem PostOk.back {F' H' : Hp} {as' : List SD} {v : V} {r : SD} (ha : ArgsOk T K F H vs as) (p : PostOk T K noH H vs as F' H' as' v r) : PostOk T K F H vs as (joinH F F') H' as' v r := by
  have e1 : Ex F (joinH F F') := fun a o e => by
    unfold joinH
    split
    · rename_i u z
      rcases p.newF a u z with y | y
      · cases y
      · have := ha.fh a o e
        rw [y] at this
        cases this
    · exact e
  have e2 : Ex F' (joinH F F') := fun a o e => by
    unfold joinH
    rw [e]
  have nn : ∀ {a : Addr}, F a = none → F' a = none → joinH F F' a = none := fun {a} h1 h2 => by
    unfold joinH
    rw [h2]
    exact h1
  have fr : ∀ (a : Addr) (o : HO), F a = some o → F' a = none → H' a = some o := fun a o e n => (p.frame.stay a o (ha.fh a o e) fun i q xs z y => by
    obtain ⟨_, b, us, y1, y2, _⟩ := ha.cel i q xs z
    rw [y] at y1
    cases y1
    rw [e] at y2
    cases y2).same fun ps z => ha.nt a ps (by rw [e, z])
  refine ⟨e1, fun a ps e => ?_, fun a o e => ?_, fun a o e => ?_, p.frame, fun i q xs a z y => ?_, ?_⟩
  · unfold joinH at e
    split at e
    · rename_i u z
      cases e
      exact p.nt a _ z
    · exact ha.nt a ps e
  · unfold joinH at e
    split at e
    · rename_i u z
      cases e
      exact p.fh a _ z
    · exact fr a o e ‹_›
  · unfold joinH at e
    split at e
    · rename_i u z
      exact .inr ((p.newF a u z).elim (fun w => by cases w) id)
    · exact .inl e
  · obtain ⟨ys, us, c1, c2, c3, c4⟩ := p.cel i q xs a z y
    obtain ⟨_, b, us0, y1, y2, _⟩ := ha.cel i q xs z
    rw [y] at y1
    cases y1
    exact ⟨ys, us, c1, nn y2 c2, c3, c4.mono e2⟩
  · have := p.res
    cases r with
    | un => exact this
    | dat d => exact DR.mono e2 this
    | dic _ => exact this.elim
    | cel b xs =>
      obtain ⟨a, us, h1, h2, h3, h4, h5⟩ := this
      refine ⟨a, us, h1, nn ?_ h2, h3, h4.mono e2, h5⟩
      cases z : F a with
      | none => rfl
      | some o =>
        have := ha.fh a o z
        rw [h5] at this
        cases this
end
section
variable {P : Program} {w : World} {K : PySem.W.Frag} {mg : Str → Option Value} {base : Heap}
end
end DL

namespace DL
variable {T : List (PySem.Addr × PySem.Str)} {Z : Zx T}
open PySem PySem.Spec PyProof.Rows L2
open Evl (Ex)
section
variable {X : Cx} {e : Expr} {wx : DX} {m : Nat} {pos : Pos}
def exQ (xs ys : List PyData) (K : List PyData → Prop) : Prop := xs.length + ys.length ≤ 100000 ∧ K (xs ++ ys)
theorem q_ex {xs ys : List PyData} {K : List PyData → Prop} : exQ xs ys K = (xs.length + ys.length ≤ 100000 ∧ K (xs ++ ys)) := rfl
abbrev dExt (i : Nat) (wx : DX) (E : DEnds) (env : List SD) : Prop := match env[i]? with
  | some (.cel _ _) => wx env fun r env1 => match r, env1[i]? with
    | .cel _ ys, some (.cel p xs) => exQ xs ys fun xs' => E.nx (env1.set i (.cel p xs'))
    | _, _ => False
  | _ => False
theorem sext (i : Nat) {x : Str} {p0 apos cpos : Pos} (he : PE X e (liftX X.K Z wx)) (hN : X.N[i]? = some x := by rfl) (hv : Vis X.env.scope x := by first | exact Or.inl rfl | exact Or.inr (Or.inl rfl) | exact Or.inr (Or.inr rfl)) (hd : (x == ("__debug__" : Str)) = false := by decide)
    (hcd : (x == ("__classdict__" : Str)) = false := by decide)
    (h1 : attributeBase (.Name x p0) "extend" X.env (eval (.Name x p0) X.env) = eval (.Name x p0) X.env := by rfl)
    (h2 : ((backTo cpos (starEach [e] X.env)).all (!·.1) && (backToKw cpos (keywordEach [] X.env)).all (·.1.isSome) && decide ([e].length + ([] : List Keyword).length + (if ([] : List Keyword).isEmpty then 0 else 1) < 30)) = true := by rfl)
    (h3 : (apos.endLine == cpos.line) = true := by rfl)
    (h4 : starEach [e] X.env = (false, eval e X.env) :: starEach [] X.env := by rfl) (h5 : (backTo cpos (starEach [] X.env)).any (·.1) = false := by rfl)
    (hs : swapsWith (.Call (.Attribute (.Name x p0) "extend" apos) [e] [] cpos) none pos.line X.env = pure false := by rfl) :
    PS X (.Expr (.Call (.Attribute (.Name x p0) "extend" apos) [e] [] cpos) pos) (liftS X.K Z m (dExt i wx)) :=
  PS.of (ps_expr (pe_bm PySem.F.plainAttrs_list PySem.F.slot_list_extend PySem.F.type_list_extend mt_extend (pe_var hN hv hd hcd) (pa_cons he pa_nil h4) h1 h2 h3 h4 h5) hs) fun D σ H ⟨g, F, env, P, k, w, q⟩ => by
    unfold dExt at w
    split at w
    · rename_i p' xs' ex
      obtain ⟨a0, us0, b1, _, b3, _⟩ := k.cel i p' xs' ex
      refine ⟨_, b1, .inl ⟨rfl, us0, SqL.of b3⟩, g, F, env, _, k, w, fun r env1 v F1 H1 p e1 k1 r1 => ?_⟩
      split at p
      · rename_i b2 ys p3 xs ex2
        obtain ⟨a1, us1, c1, c2, c3, c4, _⟩ := k1.cel i p3 xs ex2
        rw [b1] at c1
        cases c1
        obtain ⟨b, vs, rfl, hF, hH, r, h0, hpr, nw⟩ := r1
        exact ⟨a0, b, us1, vs, rfl, rfl, c3, hH, by rw [c4.length, r.length]; exact Evl.sz_of p.1, q.nx _ σ F1 _ p.2 e1 (k1.write ex2 b1 (c4.append r))⟩
      · exact p.elim
    · exact w.elim
end
end DL

namespace DL
variable {T : List (PySem.Addr × PySem.Str)} {Z : Zx T}
open PySem PySem.Spec PyProof.Rows L2
open Evl (Ex)
inductive Fx where
  | tup (x : Str) (ns : List Int)
  | exc (c : Str)
  | txt (x z : Str)
def intsB : List Value → List Int → Bool
  | [], [] => true
  | .int i _ :: r, n :: ns => decide (i = n) && intsB r ns
  | _, _ => false
def tupB (K : PySem.W.Frag) (a : Addr) (ns : List Int) : Bool := match K.lookup a with
  | some ⟨c, none, .seq its _, _⟩ => decide (c = .type "tuple") && (decide (its.size ≤ 1000) && intsB its.toList ns)
  | _ => false
def Fx.ok (K : PySem.W.Frag) : Fx → Bool
  | .tup x ns => He.eqO (PySem.W.nsIn K mainGlobals x) (some (some (.ref (He.ga K x)))) && tupB K (He.ga K x) ns
  | .exc c => He.eqO (PySem.W.nsIn K mainGlobals c) (some (some (.ref (He.ga K c)))) && xcB K c
  | .txt x z => (He.Fa.str x z).ok K
def FxSays (fx : List Fx) (K : PySem.W.Frag) : Prop := fx.all (fun f => f.ok K) = true
structure TopX (fa : List He.Fa) (fn : List He.FnD) (fx : List Fx) (K : PySem.W.Frag) (mg : Str → Option Value) : Prop extends Top fa fn K mg where
  more : FxSays fx K
theorem TopX.fact {fa : List He.Fa} {fn : List He.FnD} {fx : List Fx} {K : PySem.W.Frag} {mg : Str → Option Value} (T : TopX fa fn fx K mg) (i : Nat) {f : Fx} (h : fx[i]? = some f := by rfl) : f.ok K = true := List.all_eq_true.mp T.more f (List.mem_of_getElem? h)
/-- a tuple of whole numbers at the module's top -/
def CtT (K : PySem.W.Frag) (mg : Str → Option Value) (x : Str) (ns : List Int) : Prop := ∃ a, mg x = some (.ref a) ∧ tupB K a ns = true
theorem TopX.tup {fa : List He.Fa} {fn : List He.FnD} {fx : List Fx} {K : PySem.W.Frag} {mg : Str → Option Value} (T : TopX fa fn fx K mg) (x : Str) (ns : List Int) (i : Nat) (h : fx[i]? = some (.tup x ns) := by rfl) : CtT K mg x ns := by
  obtain ⟨hp, h1, h2⟩ := T.ns
  obtain ⟨c1, c2⟩ := He.ba (show (He.eqO (PySem.W.nsIn K mainGlobals x) (some (some (.ref (He.ga K x)))) && tupB K (He.ga K x) ns) = true from T.fact i h)
  exact ⟨_, PySem.W.mg_of h1 h2 (He.eqO_ok c1), c2⟩
/-- a class of refusals of the module -/
def CtE (K : PySem.W.Frag) (mg : Str → Option Value) (x : Str) : Prop := mg x = some (.ref (He.ga K x)) ∧ XcF K x
theorem TopX.exc {fa : List He.Fa} {fn : List He.FnD} {fx : List Fx} {K : PySem.W.Frag} {mg : Str → Option Value} (T : TopX fa fn fx K mg) (c : Str) (i : Nat) (h : fx[i]? = some (.exc c) := by rfl) : CtE K mg c := by
  obtain ⟨hp, h1, h2⟩ := T.ns
  obtain ⟨c1, c2⟩ := He.ba (show (He.eqO (PySem.W.nsIn K mainGlobals c) (some (some (.ref (He.ga K c)))) && xcB K c) = true from T.fact i h)
  exact ⟨PySem.W.mg_of h1 h2 (He.eqO_ok c1), xcB_ok c2⟩
/-- a text at the module's top -/
theorem TopX.txt {fa : List He.Fa} {fn : List He.FnD} {fx : List Fx} {K : PySem.W.Frag} {mg : Str → Option Value} (T : TopX fa fn fx K mg) (x z : Str) (i : Nat) (h : fx[i]? = some (.txt x z) := by rfl) : ∃ t, mg x = some (.str z t) := by
  obtain ⟨hp, h1, h2⟩ := T.ns
  exact He.str_ok h1 h2 (T.fact i h)
section
variable {X : Cx} {a b e : Expr} {we wa wb : DE} {pos : Pos}
theorem dtxt {x z : Str} (hm : ∃ t, X.mg x = some (.str z t)) (hg : Gl X x := by rfl) (hdb : (x == ("__debug__" : Str)) = false := by decide) : PE X (.Name x pos) (liftE X.K Z (dC (.str z))) := by
  obtain ⟨t, h⟩ := hm
  exact dglob (v := .str z) h ⟨t, rfl⟩ (fun _ => .str z) hg hdb
def popQ (xs : List PyData) (y : PyData) (K : PyData → List PyData → Prop) : Prop := match y with
  | .int k => match ixN xs.length k with
    | some j => match xs[j]? with
      | some d => xs.length ≤ 100000 ∧ K d (xs.eraseIdx j)
      | none => False
    | none => False
  | _ => False
abbrev dPop (i : Nat) (we : DE) (env : List SD) (P : PyData → List SD → Prop) : Prop := match env[i]? with
  | some (.cel _ _) => we env fun y env1 => match env1[i]? with
    | some (.cel p xs) => popQ xs y fun d xs' => P d (env1.set i (.cel p xs'))
    | _ => False
  | _ => False
theorem DRs.erase {K : PySem.W.Frag} {F : Hp} : ∀ {vs : List V} {ds : List PyData} (n : Nat), DRs K F vs ds → DRs K F (vs.eraseIdx n) (ds.eraseIdx n)
  | _, _, _, .nil => .nil
  | _, _, 0, .cons a b => b
  | _, _, n + 1, .cons a b => .cons a (b.erase n)
theorem ix_seq {n j : Nat} {k : Int} (hn : n ≤ 100000) (h : ixN n k = some j) : -(2 ^ 63) ≤ k ∧ k < 2 ^ 63 ∧ seqIndex? k n = some j := by
  unfold ixN at h
  split at h
  · rename_i h0
    split at h
    · rename_i h1
      cases h
      refine ⟨by omega, by omega, ?_⟩
      exact seqIndex_of h0 h1
    · cases h
  · rename_i h0
    split at h
    · rename_i h1
      cases h
      refine ⟨by omega, by omega, ?_⟩
      rw [seqIndex_neg (by omega) (by omega)]
    · cases h
theorem dpop (i : Nat) {x : Str} {p0 apos cpos : Pos} (he : PE X e (liftE X.K Z we)) (hN : X.N[i]? = some x := by rfl) (hv : Vis X.env.scope x := by first | exact Or.inl rfl | exact Or.inr (Or.inl rfl) | exact Or.inr (Or.inr rfl)) (hd : (x == ("__debug__" : Str)) = false := by decide)
    (hcd : (x == ("__classdict__" : Str)) = false := by decide)
    (h1 : attributeBase (.Name x p0) "pop" X.env (eval (.Name x p0) X.env) = eval (.Name x p0) X.env := by rfl)
    (h2 : ((backTo cpos (starEach [e] X.env)).all (!·.1) && (backToKw cpos (keywordEach [] X.env)).all (·.1.isSome) && decide ([e].length + ([] : List Keyword).length + (if ([] : List Keyword).isEmpty then 0 else 1) < 30)) = true := by rfl)
    (h3 : (apos.endLine == cpos.line) = true := by rfl)
    (h4 : starEach [e] X.env = (false, eval e X.env) :: starEach [] X.env := by rfl) (h5 : (backTo cpos (starEach [] X.env)).any (·.1) = false := by rfl) :
    PE X (.Call (.Attribute (.Name x p0) "pop" apos) [e] [] cpos) (liftE X.K Z (dPop i we)) :=
  PE.of (pe_bm PySem.F.plainAttrs_list PySem.F.slot_list_pop PySem.F.type_list_pop mt_popAt (pe_var hN hv hd hcd) (pa_cons he pa_nil h4) h1 h2 h3 h4 h5) fun σ H Q ⟨g, F, env, P, k, w, q⟩ => by
    unfold dPop at w
    split at w
    · rename_i p' xs' ex
      obtain ⟨a0, us0, b1, _, b3, _⟩ := k.cel i p' xs' ex
      refine ⟨_, b1, .inl ⟨rfl, us0, SqL.of b3⟩, g, F, env, _, k, w, fun y env1 v F1 H1 p e1 k1 r1 => ?_⟩
      split at p
      · rename_i p3 xs ex2
        obtain ⟨a1, us1, c1, c2, c3, c4, _⟩ := k1.cel i p3 xs ex2
        rw [b1] at c1
        cases c1
        unfold popQ at p
        split at p
        · rename_i n
          cases r1.inv_int
          split at p
          · rename_i j ej
            split at p
            · rename_i d ed
              obtain ⟨u, hu, ru⟩ := c4.get ed
              obtain ⟨z1, z2, z3⟩ := ix_seq p.1 ej
              exact ⟨a0, us1, n, j, u, rfl, rfl, c3, z1, z2, by rw [c4.length]; exact z3, hu, q _ _ _ F1 _ p.2 e1 (k1.write ex2 b1 (c4.erase j)) ru⟩
            · exact p.elim
          · exact p.elim
        · exact p.elim
      · exact p.elim
    · exact w.elim
end
end DL

namespace DL
variable {T : List (PySem.Addr × PySem.Str)} {Z : Zx T}
open PySem PySem.Spec PyProof.Rows L2
open Evl (Ex)
section
variable {X : Cx} {a b e : Expr} {we wa wb : DE} {pos : Pos}
end
end DL

namespace DL
variable {T : List (PySem.Addr × PySem.Str)} {Z : Zx T}
open PySem PySem.Spec PyProof.Rows L2
open Evl (Ex)
/-- set() as it is laid -/
def nset (w : World) : Obj := { cls := .type "set", dict := none, data := .set #[] 0 (.fresh 0 0 (!w.params.followText "set-order")) }
section
variable {P : Program} {w : World} {A : Around} {E : Value → Shared → Prop} {s : Shared}
/-- what is left of set.__init__: from an empty set at S on -/
theorem set_fill {S l : Addr} {its : List Value} {ns : List Int} {R : Value → Shared → Prop} (hh : A.handled = none) (hS : s.heap.get? S = some (nset w)) (hl : s.heap.IsList l its.toArray) (hi : IntsAre its ns) (hb : ns.length + 1 < scanBound) (hne : l ≠ S)
    (h : ∀ (h' : Heap) (tk c : Nat), SetR w h' S (fun j => decide (j ∈ ns)) c → c ≤ ns.length → (∀ b o, b ≠ S → s.heap.get? b = some o → h'.get? b = some o) → R .none { s with heap := h', toks := tk }) :
    codeAny (model P w) A (.call (.builtin "set.__init__") ⟨[.ref S, .ref l], []⟩) (wants R E) s := by
  have ty : s.TypeIs (.ref S) "set" := ⟨_, hS, rfl⟩
  have lenI : its.length = ns.length := IntsAre.length hi
  have ltS : S < s.heap.objs.size := Heap.lt_size hS
  refine codeAny_call_builtin F.called_set.init.plain F.entry_set_init (check_set_init_1 ty ?_)
  obtain ⟨lo, elo, elc, ln, eld⟩ := id hl
  have ltl : l < s.heap.objs.size := Heap.lt_size elo
  obtain ⟨c0, d0, dt0, sl0⟩ := lo
  dsimp only at elc eld
  subst elc eld
  have n1 := F.sub_list_set
  have n2 := F.sub_list_frozenset
  have n3 : (Value.type "list" == Value.type "dict") = false := by decide
  unfold Builtin.«set.__init__» noKeywords Builtin.Frozenset.updateFrom
  generalize eP : pyIter = PI
  wp_walk
  subst eP
  refine wpAny_pyIter_list hl (wpAny_bind (wpAny_runValue ?_))
  have h3 : A.in1.in1.handled = none := by simp [hh]
  have nI : l ≠ s.heap.objs.size := Nat.ne_of_lt ltl
  have nf : S ∉ [s.heap.objs.size, l] := by
    simp only [List.mem_cons, List.not_mem_nil, or_false, not_or]
    exact ⟨Nat.ne_of_lt ltS, Ne.symm hne⟩
  have vals : ∀ (i : Nat) (v : Value), its.toArray[i]? = some v → ∃ k t, ns[i]? = some k ∧ v = .int k t := fun i v hv => by
    have hv2 : its[i]? = some v := by simpa using hv
    obtain ⟨t, e⟩ := PyProof.Rows.IntsAre.int_at hi i v hv2
    have hil : i < ns.length := by rw [← lenI]; exact (List.getElem?_eq_some_iff.mp hv2).1
    exact ⟨ns[i], t, List.getElem?_eq_getElem hil, by rw [e, List.getD_eq_getElem?_getD, List.getElem?_eq_getElem hil] <;> rfl⟩
  refine set_update_ints ((Walks.list h3 _ l nI its.toArray).toS) S nf ns (by simpa using lenI) hb vals (its.toArray.size - 0) 0 _ (by omega) (Nat.zero_le _) ⟨⟨_, Heap.get?_push_size _ rfl, rfl, rfl⟩, (hl.push _)⟩ ⟨0, Nat.le_refl 0, ?_⟩ ?_
  · exact setR_new_at (Heap.get?_push_of_some _ hS)
  · intro s' c hm hc hR
    obtain ⟨h', g2, d', tk', os'⟩ := s'
    have e1 : g2 = s.gens := hm.gens
    have e2 : d' = s.drawn := hm.drawn
    have e3 : os' = s.os := hm.os
    subst e1 e2 e3
    refine wpAny_pure (wpAny_pure ?_)
    refine h h' tk' c hR (by simpa [lenI] using hc) fun b o nb e => ?_
    exact hm.heap b o (by simp only [List.mem_cons, List.not_mem_nil, or_false, not_or]; exact ⟨nb, Nat.ne_of_lt (Heap.lt_size e)⟩) (Heap.get?_push_of_some _ e)
/-- set(xs) -/
theorem call_set_ints {l : Addr} {its : List Value} {ns : List Int} {Q : Value → Shared → Prop} (hh : A.handled = none) (hl : s.heap.IsList l its.toArray) (hi : IntsAre its ns) (hb : ns.length + 1 < scanBound)
    (h : ∀ (h' : Heap) (tk c : Nat), SetR w h' s.heap.objs.size (fun j => decide (j ∈ ns)) c → c ≤ ns.length → (∀ b o, s.heap.get? b = some o → h'.get? b = some o) → Q (.ref s.heap.objs.size) { s with heap := h', toks := tk }) :
    wpAny (model P w) A (call (.type "set") [.ref l]) Q E s := by
  have ll : l < s.heap.objs.size := by obtain ⟨_, e, _⟩ := id hl; exact Heap.lt_size e
  obtain ⟨mc, mt, q1⟩ := F.called_set.mro
  have q2 := F.called_set.made
  have q3 := F.called_set.sub
  have q4 := F.called_set.notType
  have q5 := F.called_set.canCreate
  have q6 := F.typeCall_set_1 (.ref l)
  apply wpAny_call
  apply codeAny_of_tree
  show wpAny _ _ (callAny (.type "set") _) _ _ _
  apply wpAny_pure
  refine ⟨Code.quiet_builtin _ (by decide +kernel), codeAny_builtin F.entry_type_call ?_⟩
  rw [show A.under _ = _ from Around.under_plain (weight_type_call_type "set" [.ref l] []) rfl]
  repeat any_goals first | assumption | wp_step
  refine codeAny_mono (code_set_led1 (.ref l) (E := E) (Q₁ := fun o z => o = .ref s.heap.objs.size ∧ z = { s with heap := s.heap.push (nset w) }) ⟨rfl, rfl⟩) fun r z hr => ?_
  match r, hr with
  | .error e, hr => exact hr
  | .ok (.ret o), hr =>
    obtain ⟨rfl, rfl⟩ := hr
    have w1 := F.called_set.init.lookup
    have w2 := F.called_set.init.bind (.ref s.heap.objs.size)
    have w3 : Shared.TypeIs { s with heap := s.heap.push (nset w) } (.ref s.heap.objs.size) "set" := ⟨_, Heap.get?_push_size _ rfl, rfl⟩
    repeat any_goals first | assumption | wp_step
    refine codeAny_mono (set_fill (E := E) (R := fun r z => r = .none ∧ ∃ h' tk c, z = { s with heap := h', toks := tk } ∧ SetR w h' s.heap.objs.size (fun j => decide (j ∈ ns)) c ∧ c ≤ ns.length ∧ ∀ b o, s.heap.get? b = some o → h'.get? b = some o) (by simp [hh]) (Heap.get?_push_size _ rfl) (hl.push _) hi hb (Nat.ne_of_lt ll) fun h' tk c a1 a2 a3 => ⟨rfl, h', tk, c, rfl, a1, a2, fun b o e => a3 b o (Nat.ne_of_lt (Heap.lt_size e)) (Heap.get?_push_of_some _ e)⟩) fun r2 z2 hz => ?_
    match r2, hz with
    | .error e, hz => exact hz
    | .ok (.ret u), hz =>
      obtain ⟨rfl, h', tk, c, rfl, a1, a2, a3⟩ := hz
      repeat any_goals first | assumption | wp_step
      exact h _ _ _ a1 a2 a3
    | .ok .next, hz => exact hz.elim
    | .ok .brk, hz => exact hz.elim
    | .ok .cont, hz => exact hz.elim
  | .ok .next, hr => exact hr.elim
  | .ok .brk, hr => exact hr.elim
  | .ok .cont, hr => exact hr.elim
end
def rSetI (w : World) (K : PySem.W.Frag) : List V → Hp → VK → Prop := fun xs H Q => ∃ (l : Addr) (ns : List Int), xs = [V.ref l] ∧ SqL K H l (ns.map V.int) ∧ ns.length + 1 < scanBound ∧ ∀ p c, H p = none → c ≤ ns.length → Q (.ref p) (upd H p (SetO w p (fun j => decide (j ∈ ns)) c))
theorem call_setI {X : Cx} (hc : X.calm = true) : CallR X (.type "set") (rSetI X.w X.K) := by
  intro pins s σ H xs us Q I r h
  obtain ⟨l, ns, rfl, hl, hb, q⟩ := h
  rw [Vals.ref1 r]
  obtain ⟨its, rv, pl, hz⟩ := I.list hl
  refine call_set_ints (I.ok.hd hc) pl.isList (ints_of_vals rv) hb fun h' tk c R hcn k => ?_
  exact ⟨.ref s.heap.objs.size, upd H s.heap.objs.size (SetO X.w s.heap.objs.size (fun j => decide (j ∈ ns)) c), I.laid (t' := tk) k (Nat.le_refl _) (setO_new R), rfl, q _ _ (I.hok.fresh (Nat.le_refl _)) hcn⟩
end DL

namespace DL
variable {T : List (PySem.Addr × PySem.Str)} {Z : Zx T}
open PySem PySem.Spec PyProof.Rows L2
open Evl (Ex)
/-- the members once each, rising -/
def sortSetQ (d : PyData) (K : List PyData → Prop) : Prop := match d with
  | .list ds => match intsD ds with
    | some ns => ns.length < 63 ∧ ∀ ms : List Int, ms.Pairwise (· < ·) → (∀ k, k ∈ ms ↔ k ∈ ns) → K (ms.map .int)
    | none => False
  | _ => False
section
variable {X : Cx} {a : Expr} {wa : DE} {p p2 pos pos2 : Pos}
end
/-- such a row is one alone -/
theorem rise_uniq : ∀ {l m : List Int}, l.Pairwise (· < ·) → m.Pairwise (· < ·) → (∀ k, k ∈ l ↔ k ∈ m) → l = m
  | [], [], _, _, _ => rfl
  | [], b :: m, _, _, h => by have := (h b).mpr (List.mem_cons_self ..); simp at this
  | a :: l, [], _, _, h => by have := (h a).mp (List.mem_cons_self ..); simp at this
  | a :: l, b :: m, hl, hm, h => by
    obtain ⟨l1, l2⟩ := List.pairwise_cons.mp hl
    obtain ⟨m1, m2⟩ := List.pairwise_cons.mp hm
    have e : a = b := by
      rcases List.mem_cons.mp ((h a).mp (List.mem_cons_self ..)) with z | z
      · exact z
      · rcases List.mem_cons.mp ((h b).mpr (List.mem_cons_self ..)) with y | y
        · exact y.symm
        · have := m1 a z
          have := l1 b y
          omega
    subst e
    congr 1
    refine rise_uniq l2 m2 fun k => ⟨fun z => ?_, fun z => ?_⟩
    · rcases List.mem_cons.mp ((h k).mp (List.mem_cons_of_mem _ z)) with y | y
      · have := l1 k z; omega
      · exact y
    · rcases List.mem_cons.mp ((h k).mpr (List.mem_cons_of_mem _ z)) with y | y
      · have := m1 k z; omega
      · exact y
end DL

namespace DL
variable {T : List (PySem.Addr × PySem.Str)} {Z : Zx T}
open PySem PySem.Spec PyProof.Rows L2
open Evl (Ex)
/-- what is told of a refusal: its class and the names' data -/
abbrev RD := Str → List SD → Prop
abbrev DSpX := List SD → (SD → List SD → Prop) → (Str → Prop) → Prop
abbrev XWish := Value → Option Addr → Hp → Prop
def spDX (T : List (Addr × Str)) (K : PySem.W.Frag) (S : DSpX) (vs : List V) (H : Hp) (Q : VK) (E : XWish) : Prop := ∃ (F : Hp) (as : List SD) (P : SD → List SD → Prop) (Ec : Str → Prop), ArgsOk T K F H vs as ∧ S as P Ec ∧
  (∀ r as' v F' H', P r as' → PostOk T K F H vs as F' H' as' v r → Q v H') ∧ ∀ c F' H', Ec c → XcF K c → PostOk T K F H vs as F' H' [] .non (.dat .none) → E (.ref (He.ga K c)) none H'
/-- no cell is handed in -/
def NoCel (as : List SD) : Prop := ∀ (i : Nat) (p : Bool) (xs : List PyData), as[i]? ≠ some (.cel p xs)
/-- as FnG, for a def that may refuse -/
structure FnX (P : Program) (w : World) (K : PySem.W.Frag) (mg : Str → Option Value) (base : Heap) (T : List (Addr × Str)) (k : Nat) (f : Addr) (fd : FuncData) (ps : List Str) (S : DSpX) : Prop where
  len : ∀ as Q E, S as Q E → as.length = ps.length
  nc : ∀ as Q E, S as Q E → NoCel as
  go : ∀ (A : Around) (outer : List Env) (s : Shared) (H : Hp) (args : Args) (us : List Value) (vs : List V) (Q : VK) (E : XWish), Room k A → A.guards = some [] → Env0 P w K mg base A outer s H →
    BindsTo s fd args (ps.zip us) → Vals vs us → spDX T K S vs H Q E → codeAny (model P w) A (.call (.ref f) args) (CR (L2.CX P w) outer P w H s Q E) s
structure DnX (P : Program) (w : World) (K : PySem.W.Frag) (mg : Str → Option Value) (base : Heap) (T : List (Addr × Str)) (x : Str) (k : Nat) (ps : List Str) (S : DSpX) : Prop where
  ex : ∃ fd, FnX P w K mg base T k (He.ga K x) fd ps S ∧ Binds K fd ps []
  glo : mg x = some (.ref (He.ga K x))
  kp : PySem.W.keepIn K (.ref (He.ga K x)) = true
section
variable {X : Cx} {k : Nat} {f : Addr} {fd : FuncData} {ps : List Str} {S : DSpX} {x : Str} {p pos : Pos} {e : Expr} {es : List Expr} {was : DA} {Ed : RD}
end
section
variable {X : Cx} {m : Nat} {pos : Pos} {Ed : RD}
end
section
variable {X : Cx} {pins : List (Addr × Obj)} {σ : L2.St} {H : Hp} {s : Shared} {a C : Addr} {oe : Obj} {vs : Array Value}
theorem excAt_new (e : s.heap.get? a = some oe) (hz : Zc (.ref C) none oe) (hd : oe.data = .fields vs) {P : Program} {w : World} {H : Hp} : ObjOk P w H s.heap a (.ext (ExcAt C a)) :=
  ⟨⟨oe, vs, e, hz.1, hz.2, hd⟩, ⟨oe, e⟩, fun h1 h2 ⟨o, us, q1, q2, q3, q4⟩ kp => ⟨o, us, kp o q1, q2, q3, q4⟩⟩
theorem Inv.caught (I : Inv X pins σ H s) (hex : X.ex = []) (h0 : X.s_0.heap.get? a = none) (hp : ∀ q ∈ X.pn ++ pins, q.1 ≠ a) (e : s.heap.get? a = some oe) (hz : Zc (.ref C) none oe) (hd : oe.data = .fields vs) (na : H a = none)
    (nL : a ≠ X.env.locals) : Inv (X.suite a (X.pn ++ pins)) [] σ (upd H a (.ext (ExcAt C a))) s where
  ok := I.ok.suite _ _
  os := I.os
  bare := I.bare
  base := by
    have hxx : ∀ b : Addr, b ∉ X.ex := fun b hb => by rw [hex] at hb; cases hb
    refine ⟨I.base.keep, I.base.slot, fun b o q n z => ?_, I.base.there, fun b xs q => ?_, fun b o u q => ?_, fun b ps q => ?_⟩
    · have ne : b ≠ a := fun y => by
        subst y
        have q' : X.s_0.heap.get? b = some o := q
        rw [h0] at q'
        cases q'
      rw [upd_ne ne]
      exact I.base.free b o q n z
    · have r := I.base.tups b xs q
      rw [upd_ne (ne_of_none r na)]
      exact r
    · have r := I.base.frzs b o u q
      rw [upd_ne (ne_of_none r na)]
      exact r
    · obtain ⟨more, r⟩ := I.base.tbls b ps q
      exact ⟨more, by rw [upd_ne (ne_of_none r na)]; exact r⟩
  loc := I.loc
  cell := I.cell
  free := by
    show upd H a (.ext (ExcAt C a)) X.env.locals = none
    rw [upd_ne (Ne.symm nL)]
    exact I.free
  freeC := fun x c q => by
    obtain ⟨v, hv⟩ := I.cell x c q
    have ne : c ≠ a := fun y => by
      subst y
      obtain ⟨o, h1, h2⟩ := hv
      rw [e] at h1
      cases h1
      rw [hd] at h2
      cases h2
    rw [upd_ne ne]
    exact I.freeC x c q
  pin := fun q hq => by
    rw [List.append_nil] at hq
    obtain ⟨z1, z2, z3, z4, z5⟩ := I.pin q hq
    exact ⟨z1, by rw [upd_ne (hp q hq)]; exact z2, z3, z4, z5⟩
  hok := fun b o q => by
    by_cases hb : b = a
    · subst hb
      rw [upd_same] at q
      cases q
      exact excAt_new e hz hd
    · rw [upd_ne hb] at q
      exact (I.hok b o q).stay (fun c u _ z => z) (fun c z => by rw [upd_ne (ne_of_none z na)]; exact z) fun c xs z => by rw [upd_ne (ne_of_none z na)]; exact z
  len := I.len
end
end DL

namespace DL
variable {T : List (PySem.Addr × PySem.Str)} {Z : Zx T}
open PySem PySem.Spec PyProof.Rows L2
open Evl (Ex)
section
variable {K : PySem.W.Frag} {g : Gx Z} {F : Hp} {env : List SD} {σ : L2.St} {H : Hp}
end
section
variable {X : Cx} {m i : Nat} {pos pos' np : Pos} {n : Str} {body suite : List Stmt} {b₀ : Stmt} {wb : RD → DS} {ws : DS}
end
end DL

namespace DL
variable {T : List (PySem.Addr × PySem.Str)} {Z : Zx T}
open PySem PySem.Spec PyProof.Rows L2
open Evl (Ex)
section
variable {P : Program} {w : World} {K : PySem.W.Frag} {mg : Str → Option Value} {base : Heap}
end
/-- where nothing is refused, such a def is a plain one -/
theorem DnX.calm {P : Program} {w : World} {K : PySem.W.Frag} {mg : Str → Option Value} {base : Heap} {x : Str} {k : Nat} {ps : List Str} {S : DSpX} (D : DnX P w K mg base T x k ps S) : Dn P w K mg base T x k ps (fun as Q => S as Q fun _ => False) := by
  obtain ⟨⟨fd, G, hb⟩, h1, h2⟩ := D
  refine ⟨⟨fd, ⟨fun as Q h => G.len as Q _ h, fun A outer s H args us vs Q hr hA e0 bt rv ⟨F, as, P, a1, a2, a3⟩ => ?_⟩, hb⟩, h1, h2⟩
  refine codeAny_mono (G.go A outer s H args us vs Q (fun _ _ _ => False) hr hA e0 bt rv ⟨F, as, P, _, a1, a2, a3, fun _ _ _ z _ _ => z⟩) fun r s' h => ?_
  match r, h with
  | .error e, h =>
    obtain ⟨_, _, _, _, _, _, _, _, _, _, _, _, z⟩ := h
    exact z.elim
  | .ok (.ret u), h => exact h
  | .ok .next, h => exact h
  | .ok .brk, h => exact h
  | .ok .cont, h => exact h
theorem DnX.imp {P : Program} {w : World} {K : PySem.W.Frag} {mg : Str → Option Value} {base : Heap} {x : Str} {k : Nat} {ps : List Str} {S S' : DSpX} (D : DnX P w K mg base T x k ps S) (h : ∀ as Q E, S' as Q E → S as Q E) : DnX P w K mg base T x k ps S' := by
  obtain ⟨⟨fd, G, hb⟩, h1, h2⟩ := D
  exact ⟨⟨fd, ⟨fun as Q E q => G.len as Q E (h _ _ _ q), fun as Q E q => G.nc as Q E (h _ _ _ q), fun A outer s H args us vs Q E hr hA e0 bt rv ⟨F, as, P, Ec, a1, a2, a3⟩ => G.go A outer s H args us vs Q E hr hA e0 bt rv ⟨F, as, P, Ec, a1, h _ _ _ a2, a3⟩⟩, hb⟩, h1, h2⟩
section
variable {X : Cx} {a : Expr} {wa : DE} {p q2 pos : Pos} {es : List Expr} {ds : List Str}
end
end DL

namespace DL
variable {T : List (PySem.Addr × PySem.Str)} {Z : Zx T}
open PySem PySem.Spec PyProof.Rows L2
open Evl (Ex)
section
variable {K : PySem.W.Frag} {g : Gx Z} {F : Hp} {env : List SD} {σ : L2.St} {H : Hp}
/-- no name's cell is at D -/
def NoNm (env : List SD) (σ : L2.St) (D : Addr) : Prop := ∀ (j : Nat) (p : Bool) (ys : List PyData), env[j]? = some (.cel p ys) → σ[j]? ≠ some (some (.ref D))
end
abbrev KB := List (Key × V)
def KeysAre (kvs : KB) (ks : List Int) : Prop := kvs.map (·.1) = ks.map Sum.inl ∧ ks.Nodup
def intQ (d : PyData) (P : Prop) : Prop := match d with
  | .int _ => P
  | _ => False
def dsetN {I : Type} (f : I → PyData → (I → PyData → Prop) → (I → Prop) → Prop) (i : I) : List PyData → List PyData → (List PyData → Prop) → Prop
  | [], acc, K => sortSetQ (.list acc) K
  | d :: r, acc, K => f i d (fun i' k => i' = i ∧ intQ k (acc.length ≤ 1000 ∧ dsetN f i r (acc ++ [k]) K)) fun i' => i' = i ∧ dsetN f i r acc K
/-- sealed: the items aren't walked by the kernel -/
inductive dsetQ {I : Type} (f : I → PyData → (I → PyData → Prop) → (I → Prop) → Prop) (i : I) (items acc : List PyData) (K : List PyData → Prop) : Prop
  | mk : dsetN f i items acc K → dsetQ f i items acc K
theorem dsetQ.out {I : Type} {f : I → PyData → (I → PyData → Prop) → (I → Prop) → Prop} {i : I} {items acc : List PyData} {K : List PyData → Prop} (h : dsetQ f i items acc K) : dsetN f i items acc K := by
  cases h with
  | mk h => exact h
section
variable {X : Cx} {tg iter test key a b : Expr} {wa wb wk : DE} {wi : DI} {wt : DT} {D r : Str}
/-- what stands of the dict in the course of the walk -/
structure Dst (K : PySem.W.Frag) (g : Gx Z) (F : Hp) (env : List SD) (σ : L2.St) (H : Hp) (iD : Nat) (A : Addr) (acc : List PyData) (kvs : KB) : Prop where
  ok : Ok K g F env σ H
  slot : σ[iD]? = some (some (.ref A))
  hF : F A = none
  hH : H A = some (.dK kvs)
  keys : ∃ (ks ns : List Int), KeysAre kvs ks ∧ acc = ns.map PyData.int ∧ (∀ m, m ∈ ks ↔ m ∈ ns) ∧ ks.length ≤ ns.length
  nw : NoNm env σ A
end
end DL

namespace DL
variable {T : List (PySem.Addr × PySem.Str)} {Z : Zx T}
open PySem PySem.Spec PyProof.Rows L2
open Evl (Ex)
section
variable {X : Cx}
end
section
variable {X : Cx} {a e : Expr} {wa we : DE} {apos cpos : Pos}
end
def strsD : List PyData → Option (List Str)
  | [] => some []
  | .str i :: r => (strsD r).map (i :: ·)
  | _ :: _ => none
theorem strs_rel {K : PySem.W.Frag} {F : Hp} : ∀ {ds : List PyData} {vs : List V} {ns : List Str}, DRs K F vs ds → strsD ds = some ns → vs = ns.map V.str
  | [], _, _, h, e => by cases h; cases e; rfl
  | .str i :: r, _, ns, h, e => by
    cases h with
    | cons a b =>
      cases q : strsD r with
      | none => simp [strsD, q] at e
      | some ms =>
        simp only [strsD, q, Option.map_some, Option.some.injEq] at e
        subst e
        cases a.inv_str
        rw [strs_rel b q]
        rfl
  | .none :: _, _, _, _, e => by simp [strsD] at e
  | .bool _ :: _, _, _, _, e => by simp [strsD] at e
  | .int _ :: _, _, _, _, e => by simp [strsD] at e
  | .list _ :: _, _, _, _, e => by simp [strsD] at e
  | .tuple _ :: _, _, _, _, e => by simp [strsD] at e
  | .dict _ :: _, _, _, _, e => by simp [strsD] at e
def joinOk (a : Str) (ys : List Str) : Prop := (ys.map (·.length)).sum + ys.length * a.length ≤ 16777216
def joinQ (a : Str) (ys : Option (List Str)) (P : PyData → Prop) : Prop := match ys with
  | some ys => joinOk a ys ∧ P (.str (Txt.join a ys))
  | none => False
def nJoin (a : Str) (y : PyData) (P : PyData → Prop) : Prop := match y with
  | .list ds => joinQ a (strsD ds) P
  | .tuple ds => joinQ a (strsD ds) P
  | _ => False
abbrev dJoin (a : Str) (we : DE) (env : List SD) (P : PyData → List SD → Prop) : Prop := we env fun y env1 => nJoin a y fun z => P z env1
section
variable {X : Cx} {e : Expr} {we : DE} {apos pos p0 : Pos} {j0 : Nat}
theorem djoin {a : Str} (he : PE X e (liftE X.K Z we)) (hs : starEach [e] X.env = [(false, eval e X.env)] := by rfl)
    (hbase : attributeBase (.Constant (.str a) j0 p0) "join" X.env (eval (.Constant (.str a) j0 p0) X.env) = eval (.Constant (.str a) j0 p0) X.env := by rfl) (hline : (apos.endLine == pos.line) = true := by rfl) :
    PE X (.Call (.Attribute (.Constant (.str a) j0 p0) "join" apos) [e] [] pos) (liftE X.K Z (dJoin a we)) :=
  PE.of (pe_join (ds (Z := Z)) he hs hbase hline) fun σ H Q ⟨g, F, env, P, k, w, q⟩ => by
    refine ⟨g, F, env, fun d env' => d = .str a ∧ dJoin a we env' P, k, ⟨rfl, w⟩, fun d env1 v F1 H1 ⟨ed, w⟩ e1 k1 r1 => ?_⟩
    subst ed
    cases r1.inv_str
    refine ⟨⟨a, rfl⟩, g, F1, env1, _, k1, w, fun y env2 v2 F2 H2 p2 e2 k2 r2 => ?_⟩
    unfold nJoin at p2
    split at p2
    · obtain ⟨b, xs, rfl, h1, h2⟩ := r2.inv_lst
      unfold joinQ at p2
      split at p2
      · rename_i ys ey
        cases strs_rel h2 ey
        exact ⟨a, b, ys, rfl, rfl, .inl (h1.mono k2.fh).sq, p2.1, q _ env2 _ F2 H2 p2.2 (e1.trans e2) k2 (.str _)⟩
      · exact p2.elim
    · obtain ⟨b, xs, rfl, h1, h2⟩ := r2.inv_tup
      unfold joinQ at p2
      split at p2
      · rename_i ys ey
        cases strs_rel h2 ey
        exact ⟨a, b, ys, rfl, rfl, .inr (Evl.ex_t k2.fh h1), p2.1, q _ env2 _ F2 H2 p2.2 (e1.trans e2) k2 (.str _)⟩
      · exact p2.elim
    · exact p2.elim
end
end DL

namespace DL
variable {T : List (PySem.Addr × PySem.Str)} {Z : Zx T}
open PySem PySem.Spec PyProof.Rows L2
open Evl (Ex)
theorem _root_.L2H.RoomH.units {k : Nat} {A : Around} (r : L2H.RoomH k A) : A.units + 64 < cLine := by have := r.un; omega
theorem _root_.L2H.RoomH.u65 {k : Nat} {A : Around} (r : L2H.RoomH k A) : A.units + 65 < cLine := by have := r.un; omega
/-- as FnG, whatever is handled -/
structure FnB (P : Program) (w : World) (K : PySem.W.Frag) (mg : Str → Option Value) (base : Heap) (T : List (Addr × Str)) (k : Nat) (f : Addr) (fd : FuncData) (ps : List Str) (S : DSp) : Prop where
  len : ∀ as Q, S as Q → as.length = ps.length
  go : ∀ (A : Around) (outer : List Env) (s : Shared) (H : Hp) (args : Args) (us : List Value) (vs : List V) (Q : VK), L2H.RoomH k A → A.guards = some [] → Env0 P w K mg base A outer s H →
    BindsTo s fd args (ps.zip us) → Vals vs us → spD T K S vs H Q → codeAny (model P w) A (.call (.ref f) args) (CR CX0 outer P w H s Q E0) s
structure DnB (P : Program) (w : World) (K : PySem.W.Frag) (mg : Str → Option Value) (base : Heap) (T : List (Addr × Str)) (x : Str) (k : Nat) (ps : List Str) (S : DSp) : Prop where
  ex : ∃ fd, FnB P w K mg base T k (He.ga K x) fd ps S ∧ Binds K fd ps []
  glo : mg x = some (.ref (He.ga K x))
  kp : PySem.W.keepIn K (.ref (He.ga K x)) = true
section
variable {P : Program} {w : World} {K : PySem.W.Frag} {mg : Str → Option Value} {base : Heap}
end
section
variable {X : Cx} {k : Nat} {f : Addr} {fd : FuncData} {ps : List Str} {S : DSp} {x : Str} {p pos : Pos} {e : Expr} {es : List Expr} {was : DA}
end
end DL

namespace DL
variable {T : List (PySem.Addr × PySem.Str)} {Z : Zx T}
open PySem PySem.Spec PyProof.Rows L2
open Evl (Ex)
def keyS (e : Int × Value) : Str := match e.2 with | .str k _ => k | _ => Str.empty
def GoodS (w : World) (e : Int × Value) : Prop := ∃ k t, e.2 = Value.str k t ∧ e.1 = hashStr w k
/-- a set of the texts ys, each once -/
def SetS (w : World) (h : Heap) (a : Addr) (ys : List Str) : Prop :=
  ∃ ob es ep tb, h.get? a = some ob ∧ ob.ExactSet ∧ ob.data = .set es ep tb ∧ (∀ e ∈ es.toList, GoodS w e) ∧ (es.toList.map keyS).Perm ys ∧ ys.Nodup ∧
    es.size < scanBound ∧ tb.fits es.size = true ∧ Ris tb.place.toList ∧ (w.params.followText "set-order" = true ∨ tb.led = true)
section
variable {P : Program} {w : World} {h h' : Heap} {a : Addr} {ys : List Str}
theorem SetS.at (R : SetS w h a ys) (k : ∀ o, h.get? a = some o → h'.get? a = some o) : SetS w h' a ys := by
  obtain ⟨ob, es, ep, tb, ho, r⟩ := R
  exact ⟨ob, es, ep, tb, k ob ho, r⟩
theorem SetS.size (R : SetS w h a ys) : ys.length < scanBound := by
  obtain ⟨ob, es, ep, tb, _, _, _, _, pm, _, hb, _⟩ := R
  rw [← pm.length_eq, List.length_map, Array.length_toList]
  exact hb
theorem goodS_is {e : Int × Value} (g : GoodS w e) (k : Str) : (strKind P w).is k e.2 = true ↔ keyS e = k := by
  obtain ⟨j, t, h1, _⟩ := g
  unfold keyS
  rw [h1]
  constructor
  · intro z
    obtain ⟨u, hu⟩ := Value.isStrOf_shape (show Value.isStrOf k (.str j t) = true from z)
    injection hu with hx
  · intro z
    have z : j = k := z
    subst z
    show Value.isStrOf j (.str j t) = true
    unfold Value.isStrOf
    simp
theorem goodS_elems {l : List (Int × Value)} (g : ∀ e ∈ l, GoodS w e) : ElemsOf (strKind P w) l := fun e he => by
  obtain ⟨k, t, h1, h2⟩ := g e he
  exact ⟨⟨k, (goodS_is (P := P) (g e he) k).mpr (by unfold keyS; rw [h1]), h2⟩, by rw [h1]; rfl⟩
end
section
variable {P : Program} {w : World} {A : Around} {E : Value → Shared → Prop} {s : Shared} {a : Addr} {ys : List Str}
theorem setS_tail {g : Bool → Sem Unit} (hg : ∀ (b : Bool) (s₁ : Shared) (Q' : Unit → Shared → Prop), Q' () s₁ → wpAny (model P w) A (g b) Q' E s₁)
    {ob : Obj} {es : Array (Int × Value)} {ep : Nat} {tb : SetTable} (ho : s.heap.get? a = some ob) (hx : ob.ExactSet) (hd : ob.data = .set es ep tb)
    {fs : Array (Int × Value)} {t2 : SetTable} (g1 : ∀ e ∈ fs.toList, GoodS w e) (pm : (fs.toList.map keyS).Perm ys) (nd : ys.Nodup) (hb : fs.size < scanBound) (hf : t2.fits fs.size = true) (hr : Ris t2.place.toList)
    (hl : w.params.followText "set-order" = true ∨ t2.led = true) {dum : Bool} {R : Option Bool → Shared → Prop} (hR : ∀ h', Heap.SameBut a s.heap h' → SetS w h' a ys → R (some true) { s with heap := h' }) :
    wpAny (model P w) A (do
        storeSet a fs t2
        if (!dum && t2.tooFull) = true then do
            g (relayAll t2 fs (SetTable.grown fs.size)).2.2
            storeSet a (relayAll t2 fs (SetTable.grown fs.size)).1 (relayAll t2 fs (SetTable.grown fs.size)).2.1
            pure (some true)
          else pure (some true)) R E s := by
  refine wpAny_bind (wpAny_storeSet_of ho hd ?_ (fits_of_scanBound hb))
  have o1 := store_at (es' := fs) (t' := t2) ho hd
  have b1 := Heap.SameBut.update s.heap a (Obj.putSet fs t2)
  split
  · have q1 := relayAll_perm t2 fs (SetTable.grown fs.size)
    have q2 := relayAll_fits t2 fs (SetTable.grown fs.size)
    have q3 := relayAll_ris t2 fs (SetTable.grown fs.size)
    have q4 := relayAll_led t2 fs (SetTable.grown fs.size)
    generalize relayAll t2 fs (SetTable.grown fs.size) = W at q1 q2 q3 q4 ⊢
    obtain ⟨gs, t3, gv⟩ := W
    dsimp only at q1 q2 q3 q4 ⊢
    have sz : gs.size = fs.size := by rw [← Array.length_toList, q1.length_eq, Array.length_toList]
    have b2 : gs.size < scanBound := by rw [sz]; exact hb
    refine wpAny_bind (hg _ _ _ ?_)
    refine wpAny_bind (wpAny_storeSet_of o1 rfl ?_ (fits_of_scanBound b2))
    have o2 := store_at (es' := gs) (t' := t3) o1 rfl
    refine wpAny_pure (hR _ (b1.trans (Heap.SameBut.update _ a _)) ⟨_, gs, _, t3, o2, hx, rfl, fun e he => g1 e (q1.mem_iff.mp he), (q1.map keyS).trans pm, nd, b2, q2, q3, hl.imp id fun z => by rw [q4]; exact z⟩)
  · exact wpAny_pure (hR _ b1 ⟨_, fs, _, t2, o1, hx, rfl, g1, pm, nd, hb, hf, hr, hl⟩)
/-- a text goes into the set -/
theorem setS_add {k : Str} {tk : Tok} {Q : Bool → Shared → Prop} (R : SetS w s.heap a ys) (room : ys.length + 1 < scanBound)
    (hQ : ∀ h' b, Heap.SameBut a s.heap h' → SetS w h' a (if k ∈ ys then ys else k :: ys) → Q b { s with heap := h' }) :
    wpAny (model P w) A (setAddHashed a (.str k tk) ((strKind P w).hash k)) Q E s := by
  obtain ⟨ob, es, ep, tb, ho, hx, hd, g, pm, nd, hb, hf, hr, hl⟩ := R
  have hkey : (strKind P w).is k (.str k tk) = true := (goodS_is (P := P) (e := (hashStr w k, .str k tk)) ⟨k, tk, rfl, rfl⟩ k).mpr rfl
  have hsc : (Value.str k tk).scannable = true := rfl
  have hel : ElemsOf (strKind P w) es.toList := goodS_elems g
  (unfold setAddHashed; unfold setAddHashedIn)
  refine wpAny_holding (wpAny_bind (wpAny_setState_of ho hd hf ?_))
  dsimp only
  rw [byScan_of hsc hb hel]
  simp only [↓reduceIte]
  (unfold setAddByScan; refine wpAny_bind ?_)
  refine wpAny_bind (wpAny_rule ?_)
  refine wpAny_bind (wpAny_setScan_of hkey ho hd hf hel ?_)
  cases hfi : List.findIdx? (fun e => (strKind P w).is k e.2) es.toList with
  | some j =>
    dsimp only
    obtain ⟨hj, pj, _⟩ := List.findIdx?_eq_some_iff_getElem.mp hfi
    have hk : k ∈ ys := by
      rw [← pm.mem_iff, List.mem_map]
      exact ⟨es.toList[j], List.getElem_mem hj, (goodS_is (P := P) (g _ (List.getElem_mem hj)) k).mp pj⟩
    refine wpAny_pure (wpAny_pure (hQ s.heap _ (Heap.SameBut.refl a s.heap) ?_))
    rw [if_pos hk]
    exact ⟨ob, es, ep, tb, ho, hx, hd, g, pm, nd, hb, hf, hr, hl⟩
  | none =>
    dsimp only
    have hk : k ∉ ys := fun z => by
      rw [← pm.mem_iff, List.mem_map] at z
      obtain ⟨e, he, q⟩ := z
      have c := List.findIdx?_eq_none_iff.mp hfi e he
      rw [(goodS_is (P := P) (g e he) k).mpr q] at c
      cases c
    have hgw : ∀ (b : Bool) {s₁ : Shared} {Q' : Unit → Shared → Prop}, Q' () s₁ → wpAny (model P w) A (match b with | true => rule "set.scan.the-table-gave-way" | false => pure ()) Q' E s₁ := fun b s₁ Q' q => by
      cases b
      · exact wpAny_pure q
      · exact wpAny_rule q
    have p1 := layNew_perm tb es ((strKind P w).hash k) (.str k tk)
    have f1 := layNew_fits tb es ((strKind P w).hash k) (.str k tk)
    have r1 := layNew_ris tb es ((strKind P w).hash k) (.str k tk) hr
    have l1 := layNew_led tb es ((strKind P w).hash k) (.str k tk)
    generalize layNew tb es ((strKind P w).hash k) (.str k tk) = W at p1 f1 r1 l1 ⊢
    obtain ⟨fs, t1, dum, gv⟩ := W
    dsimp only at p1 f1 r1 l1 ⊢
    rw [Array.toList_push] at p1
    have pc : fs.toList.Perm (((strKind P w).hash k, Value.str k tk) :: es.toList) := p1.trans (List.perm_append_singleton _ _)
    have pk : (fs.toList.map keyS).Perm (k :: ys) := (pc.map keyS).trans (pm.cons k)
    have g1 : ∀ e ∈ fs.toList, GoodS w e := fun e he => by
      rcases List.mem_cons.mp (pc.mem_iff.mp he) with z | z
      · rw [z]; exact ⟨k, tk, rfl, rfl⟩
      · exact g e z
    have nd1 : (k :: ys).Nodup := List.nodup_cons.mpr ⟨hk, nd⟩
    have sz : fs.size = ys.length + 1 := by rw [← Array.length_toList, ← List.length_map (f := keyS), pk.length_eq, List.length_cons]
    have hb1 : fs.size < scanBound := by rw [sz]; exact room
    have hled : w.params.followText "set-order" = true ∨ t1.led = true := hl.imp id fun z => by rw [l1]; exact z
    have fin : ∀ b h', Heap.SameBut a s.heap h' → SetS w h' a (k :: ys) → Q b { s with heap := h' } := fun b h' sb r => hQ h' b sb (by rw [if_neg hk]; exact r)
    refine wpAny_bind (hgw _ ?_)
    split
    · refine wpAny_bind ?_
      rw [hashByValue_scannable 8 hsc]
      refine wpAny_pure ?_
      refine setS_tail ?_ ho hx hd g1 pk nd1 hb1 ?_ ?_ ?_ ?_
      · intro b s₁ Q' q
        cases b
        · exact wpAny_pure q
        · exact wpAny_rule q
      · first | (split <;> first | exact f1 | exact SetTable.fits_plain_off f1) | exact f1
      · first | (split <;> exact r1) | exact r1
      · first | (split <;> exact hled) | exact hled
      · intro h' sb r
        dsimp only
        exact wpAny_pure (fin _ h' sb r)
    · refine wpAny_bind (wpAny_pure ?_)
      simp only [↓reduceIte]
      refine setS_tail ?_ ho hx hd g1 pk nd1 hb1 f1 r1 hled ?_
      · intro b s₁ Q' q
        cases b
        · exact wpAny_pure q
        · exact wpAny_rule q
      · intro h' sb r
        dsimp only
        exact wpAny_pure (fin _ h' sb r)
end
end DL

namespace DL
variable {T : List (PySem.Addr × PySem.Str)} {Z : Zx T}
open PySem PySem.Spec PyProof.Rows L2
open Evl (Ex)
/-- each once -/
def dd : List Str → List Str → List Str
  | acc, [] => acc
  | acc, k :: r => dd (if k ∈ acc then acc else k :: acc) r
theorem dd_mem : ∀ (r acc : List Str) (k : Str), k ∈ dd acc r ↔ k ∈ acc ∨ k ∈ r
  | [], acc, k => by simp [dd]
  | x :: r, acc, k => by
    rw [dd, dd_mem r]
    by_cases h : x ∈ acc
    · rw [if_pos h, List.mem_cons]
      refine ⟨fun z => z.elim .inl fun z => .inr (.inr z), fun z => z.elim .inl fun z => z.elim (fun e => .inl (e ▸ h)) .inr⟩
    · rw [if_neg h, List.mem_cons, List.mem_cons]
      refine ⟨fun z => z.elim (fun z => z.elim (fun e => .inr (.inl e)) .inl) fun z => .inr (.inr z), fun z => z.elim (fun z => .inl (.inr z)) fun z => z.elim (fun e => .inl (.inl e)) .inr⟩
theorem dd_nodup : ∀ (r acc : List Str), acc.Nodup → (dd acc r).Nodup
  | [], acc, h => h
  | x :: r, acc, h => by
    rw [dd]
    refine dd_nodup r _ ?_
    by_cases c : x ∈ acc
    · rw [if_pos c]; exact h
    · rw [if_neg c]; exact List.nodup_cons.mpr ⟨c, h⟩
theorem dd_len : ∀ (r acc : List Str), (dd acc r).length ≤ acc.length + r.length
  | [], acc => by simp [dd]
  | x :: r, acc => by
    rw [dd]
    have := dd_len r (if x ∈ acc then acc else x :: acc)
    have : (if x ∈ acc then acc else x :: acc).length ≤ acc.length + 1 := by split <;> simp
    simp only [List.length_cons]
    omega
section
variable {P : Program} {w : World} {A : Around} {E : Value → Shared → Prop} {s : Shared}
theorem set_texts {I : Addr} {fp wr : List Addr} {G : Array GenState → Array GenState → Prop} {n : Nat} {Pv : Nat → Value → Prop} {St : Nat → Shared → Prop} {R : Result → Shared → Prop}
    (W : WalksS P w A.in1 I fp wr G n Pv St) (D : Addr) (hD : D ∉ fp) (xs : List Str) (hn : n = xs.length) (hb : xs.length + 1 < scanBound) (hv : ∀ i v, Pv i v → ∃ k t, xs[i]? = some k ∧ v = .str k t) :
    ∀ (m i : Nat) (acc : List Str) (s : Shared), n - i = m → i ≤ n → acc.length ≤ i → St i s → SetS w s.heap D acc →
      (∀ s', Moved (D :: wr) G s s' → SetS w s'.heap D (dd acc (xs.drop i)) → R (.ok (.ret .none)) s') →
      codeAny (model P w) A (.builtin "set.update.loop" ⟨[.ref D, .ref I], []⟩) R s := by
  have hw : D ∉ wr := fun z => hD (W.sub _ z)
  have sub : ∀ b ∈ wr, b ∈ D :: wr := fun b hb => List.mem_cons_of_mem _ hb
  intro m
  induction m with
  | zero =>
    intro i acc s hm hi _ hst hS hR
    obtain rfl : i = n := by omega
    refine codeAny_builtin F.entry_set_update_loop ?_
    rw [(Around.under_plainId F.plain_set_update_loop _)]
    show wpAny _ A.in1 ((pyNext (.ref I)) >>= _) _ _ s
    refine wpAny_bind (W.done s _ _ hst fun s' mv => ?_)
    show wpAny _ A.in1 (ret .none) _ _ s'
    rw [hn, List.drop_length] at hR
    exact wpAny_pure (hR s' (mv.mono sub) (hS.at fun o e => mv.heap D o hw e))
  | succ m ih =>
    intro i acc s hm hi ha hst hS hR
    have lt : i < n := by omega
    refine codeAny_builtin F.entry_set_update_loop ?_
    rw [(Around.under_plainId F.plain_set_update_loop _)]
    show wpAny _ A.in1 ((pyNext (.ref I)) >>= _) _ _ s
    refine wpAny_bind (W.item i s _ _ lt hst fun v s' hP st2 mv => ?_)
    obtain ⟨z, t, hz, rfl⟩ := hv i v hP
    have hS' : SetS w s'.heap D acc := hS.at fun o e => mv.heap D o hw e
    show wpAny _ A.in1 (holding [Value.str z t] (setAdd D (.str z t)) >>= _) _ _ s'
    refine wpAny_bind (wpAny_holding ?_)
    (unfold setAdd; refine wpAny_holding ?_)
    have hkey : (strKind P w).is z (.str z t) = true := (goodS_is (P := P) (w := w) (e := (hashStr w z, .str z t)) ⟨z, t, rfl, rfl⟩ z).mpr rfl
    refine wpAny_bind ((strKind P w).pyHash (k := z) hkey ?_)
    refine setS_add (s := { s' with toks := s'.toks + 1 }) hS' (by omega) fun h' b sb hS2 => ?_
    have hdr : xs.drop i = z :: xs.drop (i + 1) := by
      obtain ⟨q1, q2⟩ := List.getElem?_eq_some_iff.mp hz
      rw [List.drop_eq_getElem_cons q1, q2]
    rw [hdr, dd] at hR
    have ha2 : (if z ∈ acc then acc else z :: acc).length ≤ i + 1 := by
      split
      · omega
      · rw [List.length_cons]; omega
    refine wpAny_pure ⟨plainId_quiet F.plain_set_update_loop _, ih (i + 1) _ _ (by omega) lt ha2 (W.frame _ s' _ _ st2 (Nat.le_succ _) fun b hb o e => ?_) hS2 fun s'' m2 hS3 => ?_⟩
    · rw [sb.2 b (fun z : b = D => hD (by rw [← z]; exact hb))]; exact e
    · refine hR s'' (Moved.trans W.gtrans ((mv.mono sub).then_heap (Nat.le_succ _) fun b o hb e => ?_) m2) hS3
      rw [sb.2 b (fun z : b = D => hb (by rw [z]; exact List.mem_cons_self))]; exact e
theorem setS_new {h : Heap} {a : Addr} (ho : h.get? a = some (nset w)) : SetS w h a [] :=
  ⟨_, #[], 0, _, ho, ⟨rfl, rfl, rfl⟩, rfl, (fun e he => by simp at he), .nil, List.nodup_nil, (by decide), (by rfl), List.Pairwise.nil, by
    show _ ∨ (!w.params.followText "set-order") = true
    cases w.params.followText "set-order"
    · exact .inr rfl
    · exact .inl rfl⟩
theorem setS_fill {S l : Addr} {its : List Value} {xs : List Str} {R : Value → Shared → Prop} (hh : A.handled = none) (hS : s.heap.get? S = some (nset w)) (hl : s.heap.IsList l its.toArray) (hi : StrsAre its xs) (hb : xs.length + 1 < scanBound) (hne : l ≠ S)
    (h : ∀ (h' : Heap) (tk : Nat), SetS w h' S (dd [] xs) → (∀ b o, b ≠ S → s.heap.get? b = some o → h'.get? b = some o) → R .none { s with heap := h', toks := tk }) :
    codeAny (model P w) A (.call (.builtin "set.__init__") ⟨[.ref S, .ref l], []⟩) (wants R E) s := by
  have ty : s.TypeIs (.ref S) "set" := ⟨_, hS, rfl⟩
  have lenI : its.length = xs.length := hi.length
  have ltS : S < s.heap.objs.size := Heap.lt_size hS
  refine codeAny_call_builtin F.called_set.init.plain F.entry_set_init (check_set_init_1 ty ?_)
  obtain ⟨lo, elo, elc, ln, eld⟩ := id hl
  have ltl : l < s.heap.objs.size := Heap.lt_size elo
  obtain ⟨c0, d0, dt0, sl0⟩ := lo
  dsimp only at elc eld
  subst elc eld
  have n1 := F.sub_list_set
  have n2 := F.sub_list_frozenset
  have n3 : (Value.type "list" == Value.type "dict") = false := by decide
  unfold Builtin.«set.__init__» noKeywords Builtin.Frozenset.updateFrom
  generalize eP : pyIter = PI
  wp_walk
  subst eP
  refine wpAny_pyIter_list hl (wpAny_bind (wpAny_runValue ?_))
  have h3 : A.in1.in1.handled = none := by simp [hh]
  have nI : l ≠ s.heap.objs.size := Nat.ne_of_lt ltl
  have nf : S ∉ [s.heap.objs.size, l] := by
    simp only [List.mem_cons, List.not_mem_nil, or_false, not_or]
    exact ⟨Nat.ne_of_lt ltS, Ne.symm hne⟩
  have vals : ∀ (i : Nat) (v : Value), its.toArray[i]? = some v → ∃ k t, xs[i]? = some k ∧ v = .str k t := fun i v hv => by
    have hv2 : its[i]? = some v := by simpa using hv
    obtain ⟨t, e⟩ := SS.strs_at hi i v hv2
    have hil : i < xs.length := by rw [← lenI]; exact (List.getElem?_eq_some_iff.mp hv2).1
    exact ⟨xs[i], t, List.getElem?_eq_getElem hil, by rw [e, List.getD_eq_getElem?_getD, List.getElem?_eq_getElem hil] <;> rfl⟩
  refine set_texts ((Walks.list h3 _ l nI its.toArray).toS) S nf xs (by simpa using lenI) hb vals (its.toArray.size - 0) 0 [] _ (by omega) (Nat.zero_le _) (by simp) ⟨⟨_, Heap.get?_push_size _ rfl, rfl, rfl⟩, (hl.push _)⟩ (setS_new (Heap.get?_push_of_some _ hS)) ?_
  intro s' hm hR
  obtain ⟨h', g2, d', tk', os'⟩ := s'
  have e1 : g2 = s.gens := hm.gens
  have e2 : d' = s.drawn := hm.drawn
  have e3 : os' = s.os := hm.os
  subst e1 e2 e3
  refine wpAny_pure (wpAny_pure ?_)
  refine h h' tk' hR fun b o nb e => ?_
  exact hm.heap b o (by simp only [List.mem_cons, List.not_mem_nil, or_false, not_or]; exact ⟨nb, Nat.ne_of_lt (Heap.lt_size e)⟩) (Heap.get?_push_of_some _ e)
/-- set(xs) -/
theorem call_set_texts {l : Addr} {its : List Value} {xs : List Str} {Q : Value → Shared → Prop} (hh : A.handled = none) (hl : s.heap.IsList l its.toArray) (hi : StrsAre its xs) (hb : xs.length + 1 < scanBound)
    (h : ∀ (h' : Heap) (tk : Nat), SetS w h' s.heap.objs.size (dd [] xs) → (∀ b o, s.heap.get? b = some o → h'.get? b = some o) → Q (.ref s.heap.objs.size) { s with heap := h', toks := tk }) :
    wpAny (model P w) A (call (.type "set") [.ref l]) Q E s := by
  have ll : l < s.heap.objs.size := by obtain ⟨_, e, _⟩ := id hl; exact Heap.lt_size e
  obtain ⟨mc, mt, q1⟩ := F.called_set.mro
  have q2 := F.called_set.made
  have q3 := F.called_set.sub
  have q4 := F.called_set.notType
  have q5 := F.called_set.canCreate
  have q6 := F.typeCall_set_1 (.ref l)
  apply wpAny_call
  apply codeAny_of_tree
  show wpAny _ _ (callAny (.type "set") _) _ _ _
  apply wpAny_pure
  refine ⟨Code.quiet_builtin _ (by decide +kernel), codeAny_builtin F.entry_type_call ?_⟩
  rw [show A.under _ = _ from Around.under_plain (weight_type_call_type "set" [.ref l] []) rfl]
  repeat any_goals first | assumption | wp_step
  refine codeAny_mono (code_set_led1 (.ref l) (E := E) (Q₁ := fun o z => o = .ref s.heap.objs.size ∧ z = { s with heap := s.heap.push (nset w) }) ⟨rfl, rfl⟩) fun r z hr => ?_
  match r, hr with
  | .error e, hr => exact hr
  | .ok (.ret o), hr =>
    obtain ⟨rfl, rfl⟩ := hr
    have w1 := F.called_set.init.lookup
    have w2 := F.called_set.init.bind (.ref s.heap.objs.size)
    have w3 : Shared.TypeIs { s with heap := s.heap.push (nset w) } (.ref s.heap.objs.size) "set" := ⟨_, Heap.get?_push_size _ rfl, rfl⟩
    repeat any_goals first | assumption | wp_step
    refine codeAny_mono (setS_fill (E := E) (R := fun r z => r = .none ∧ ∃ h' tk, z = { s with heap := h', toks := tk } ∧ SetS w h' s.heap.objs.size (dd [] xs) ∧ ∀ b o, s.heap.get? b = some o → h'.get? b = some o) (by simp [hh]) (Heap.get?_push_size _ rfl) (hl.push _) hi hb (Nat.ne_of_lt ll) fun h' tk a1 a3 => ⟨rfl, h', tk, rfl, a1, fun b o e => a3 b o (Nat.ne_of_lt (Heap.lt_size e)) (Heap.get?_push_of_some _ e)⟩) fun r2 z2 hz => ?_
    match r2, hz with
    | .error e, hz => exact hz
    | .ok (.ret u), hz =>
      obtain ⟨rfl, h', tk, rfl, a1, a3⟩ := hz
      repeat any_goals first | assumption | wp_step
      exact h _ _ a1 a3
    | .ok .next, hz => exact hz.elim
    | .ok .brk, hz => exact hz.elim
    | .ok .cont, hz => exact hz.elim
  | .ok .next, hr => exact hr.elim
  | .ok .brk, hr => exact hr.elim
  | .ok .cont, hr => exact hr.elim
/-- sorted(a set of texts) -/
theorem sorted_setS {a : Addr} {ys : List Str} {Q : Value → Shared → Prop} (R : SetS w s.heap a ys) (hh : A.handled = none) (h64 : ys.length < 64)
    (hQ : ∀ s' p (out : Array Value) (c : Nat) (zs : List Str), (∀ b o, s.heap.get? b = some o → s'.heap.get? b = some o) → s'.gens = s.gens → s'.os = s.os → s.heap.objs.size ≤ p →
      s'.heap.get? p = some (seqObj "list" out c) → StrsAre out.toList zs → zs.Perm ys → sortedS zs = true → Q (.ref p) s') :
    wpAny (model P w) A (call (.builtin "sorted") [.ref a]) Q E s := by
  obtain ⟨ob, es, ep, tb, ho, hx, hd, g, pm, nd, hb, hf, hr, hl⟩ := R
  refine Calls.call_function_entry kind_sorted plain_sorted entry_sorted (args_sorted1 _) ?_
  (unfold Builtin.«sorted»; refine wpAny_bind (m := checkCount "sorted" 1 1 _) (wpAny_pure ?_))
  refine wpAny_bind (collect_set (A := A.in1) hh ⟨ob, ho, hx.1, hd⟩ hf hb hr hl fun s1 vs k1 hz g1 o1 p1 => ?_)
  have vl : vs.length = ys.length := by rw [p1.length_eq, List.length_map, ← pm.length_eq, List.length_map]
  have hI : ∃ us, StrsAre vs us ∧ us.Perm ys := by
    have go : ∀ l : List Value, (∀ v ∈ l, ∃ k t, v = Value.str k t) → ∃ us, StrsAre l us ∧ us = l.map fun v => match v with | .str k _ => k | _ => Str.empty := fun l => by
      induction l with
      | nil => exact fun _ => ⟨[], .nil, rfl⟩
      | cons v l ih =>
        intro hv
        obtain ⟨k, t, rfl⟩ := hv _ List.mem_cons_self
        obtain ⟨us, e1, e2⟩ := ih fun u hu => hv u (List.mem_cons_of_mem _ hu)
        exact ⟨k :: us, .cons k t e1, by rw [List.map_cons, e2]⟩
    obtain ⟨us, e1, e2⟩ := go vs fun v hv => by
      obtain ⟨e, he, q⟩ := List.mem_map.mp (p1.mem_iff.mp hv)
      obtain ⟨k, t, h1, _⟩ := g e he
      exact ⟨k, t, by rw [← q]; exact h1⟩
    refine ⟨us, e1, ?_⟩
    rw [e2]
    refine (p1.map _).trans ?_
    rw [List.map_map]
    exact pm
  obtain ⟨us, hI, hp⟩ := hI
  refine wpAny_bind (wpAny_newList ?_ (by rw [vl, sizeLine_eq]; omega))
  have hoL : (s1.heap.push (seqObj "list" vs.toArray 0)).get? s1.heap.objs.size = some (seqObj "list" vs.toArray 0) := Heap.get?_push_size _ rfl
  refine wpAny_bind (wpAny_holding (wpAny_call_entry slot_list_sort ⟨_, hoL, rfl⟩ entry_list_sort (list_sort_treeK strKind_oneLt hoL hI.keysOf (fun v₁ v₂ rest e => keyKind_strs (by rw [← e]; exact hI)) (by rw [vl]; exact h64) fun st' q1 q2 => ⟨_, rfl, ?_⟩) (args_list_sort _)))
  obtain ⟨zs, r1, r2, r3⟩ := sorted_out_str hI q1 q2
  obtain ⟨c, hc⟩ := sortedHeap_at (vs := vs) (out := (arrOf st').map (·.2)) hoL
  refine wpAny_pure ⟨_, rfl, hQ _ s1.heap.objs.size _ c zs (fun b u e => ?_) g1 o1 hz hc r1 (r2.trans hp) r3⟩
  have q := k1 b u e
  have lt := Heap.lt_size q
  show (sortedHeap (s1.heap.push (seqObj "list" vs.toArray 0)) s1.heap.objs.size vs _).get? b = some u
  rw [sortedHeap_old (Nat.ne_of_lt lt) (by rw [size_push']; exact Nat.lt_succ_of_lt lt)]
  exact Heap.get?_push_of_some _ q
end
end DL

namespace DL
variable {T : List (PySem.Addr × PySem.Str)} {Z : Zx T}
open PySem PySem.Spec PyProof.Rows L2
open Evl (Ex)
theorem strLt_eq {a b : Str} : strLt a b = decide (a.cps.toList < b.cps.toList) := by unfold strLt; rfl
theorem strLt_trans {a b c : Str} (h : strLt a b = true) (h' : strLt b c = true) : strLt a c = true := by
  rw [strLt_eq, decide_eq_true_eq] at h h' ⊢
  exact List.lt_trans h h'
theorem strLt_irr {a : Str} : strLt a a = false := by
  rw [strLt_eq, decide_eq_false_iff_not]
  exact List.lt_irrefl _
theorem str_ext {a b : Str} (h : a.cps.toList = b.cps.toList) : a = b := by
  cases a with
  | mk u =>
    cases b with
    | mk v =>
      congr
      exact Array.toList_inj.mp h
theorem strLt_or {a b : Str} (h : strLt b a = false) (ne : a ≠ b) : strLt a b = true := by
  rw [strLt_eq, decide_eq_false_iff_not] at h
  rw [strLt_eq, decide_eq_true_eq]
  rcases List.le_iff_lt_or_eq.mp (List.not_lt.mp h) with z | z
  · exact z
  · exact absurd (str_ext z) ne
theorem rising_strict : ∀ (l : List Str) (p : Str), risingS p l = true → (p :: l).Nodup → (∀ x ∈ l, strLt p x = true) ∧ l.Pairwise fun a b => strLt a b = true
  | [], _, _, _ => ⟨by simp, List.Pairwise.nil⟩
  | x :: r, p, h, nd => by
    have h : (!ltCps x.cps.toList p.cps.toList && risingS x r) = true := h
    rw [Bool.and_eq_true] at h
    obtain ⟨n1, n2⟩ := List.nodup_cons.mp nd
    obtain ⟨i1, i2⟩ := rising_strict r x h.2 n2
    have hp : strLt p x = true := strLt_or (by
      rw [strLt_eq, ← ltCps_eq]
      simpa using h.1) fun e => n1 (by rw [e]; exact List.mem_cons_self)
    refine ⟨fun y hy => ?_, List.pairwise_cons.mpr ⟨i1, i2⟩⟩
    rcases List.mem_cons.mp hy with rfl | hy
    · exact hp
    · exact strLt_trans hp (i1 y hy)
theorem sorted_strict : ∀ l : List Str, sortedS l = true → l.Nodup → l.Pairwise fun a b => strLt a b = true
  | [], _, _ => List.Pairwise.nil
  | x :: r, h, nd => by
    obtain ⟨h1, h2⟩ := rising_strict r x h nd
    exact List.pairwise_cons.mpr ⟨h1, h2⟩
def SetSO (w : World) (a : Addr) (ys : List Str) : HO := .ext fun h => SetS w h a ys
theorem setSO_new {w : World} {P : Program} {H : Hp} {h : Heap} {a : Addr} {ys : List Str} (R : SetS w h a ys) : ObjOk P w H h a (SetSO w a ys) := by
  obtain ⟨o, es, ep, t, ho, r⟩ := id R
  exact ⟨R, ⟨o, ho⟩, fun _ _ r' k => r'.at k⟩
theorem callR_or {X : Cx} {f : Value} {r r' : List V → Hp → VK → Prop} (h : CallR X f r) (h' : CallR X f r') : CallR X f (fun xs H Q => r xs H Q ∨ r' xs H Q) := by
  intro pins s σ H xs us Q I rv z
  rcases z with z | z
  · exact h pins s σ H xs us Q I rv z
  · exact h' pins s σ H xs us Q I rv z
section
variable {X : Cx}
def rSetS (w : World) (K : PySem.W.Frag) : List V → Hp → VK → Prop := fun xs H Q => ∃ (l : Addr) (ns : List Str), xs = [V.ref l] ∧ SqL K H l (ns.map V.str) ∧ ns.length + 1 < scanBound ∧ ∀ p, H p = none → Q (.ref p) (upd H p (SetSO w p (dd [] ns)))
theorem call_setS (hc : X.calm = true) : CallR X (.type "set") (rSetS X.w X.K) := by
  intro pins s σ H xs us Q I r h
  obtain ⟨l, ns, rfl, hl, hb, q⟩ := h
  rw [Vals.ref1 r]
  obtain ⟨its, rv, pl, hz⟩ := I.list hl
  refine call_set_texts (I.ok.hd hc) pl.isList rv.strs hb fun h' tk R k => ?_
  exact ⟨.ref s.heap.objs.size, upd H s.heap.objs.size (SetSO X.w s.heap.objs.size (dd [] ns)), I.laid (t' := tk) k (Nat.le_refl _) (setSO_new R), rfl, q _ (I.hok.fresh (Nat.le_refl _))⟩
def rSortedSS (w : World) : List V → Hp → VK → Prop := fun vs H Q => ∃ (a : Addr) (ys : List Str), vs = [V.ref a] ∧ H a = some (SetSO w a ys) ∧ ys.length < 64 ∧
  ∀ (zs : List Str) (p : Addr), zs.Perm ys → sortedS zs = true → H p = none → Q (.ref p) (upd H p (.lst (zs.map V.str)))
theorem cr_sortedSS (hc : X.calm = true) : CallR X (.builtin "sorted") (rSortedSS X.w) := by
  intro pins s σ H vs us Q I r h
  obtain ⟨a, ys, rfl, ha, h64, q⟩ := h
  rw [Vals.ref1 r]
  have R : SetS X.w s.heap a ys := (I.hok a _ ha).1
  refine sorted_setS R (I.ok.hd hc) h64 fun s' p out c zs k g o hp hpo hi pm so => ?_
  have hlen : (zs.map V.str).length ≤ sizeLine := by rw [List.length_map, pm.length_eq]; exact small64 h64
  have hn := I.hok.fresh hp
  refine ⟨.ref p, upd H p (.lst (zs.map V.str)), I.call' (ch := []) o (Un.laid k hp hn) ?_ ?_ ?_, rfl, q zs p pm so hn⟩
  · exact I.hok.laid k hp ⟨hlen, out.toList, c, vals_of_strs hi, hpo⟩
  · rw [g]; exact I.bare
  · intro _ z; exact nomatch z
end
/-- the members once each, rising: of whole numbers, or of texts -/
def sortSetT (d : PyData) (K : List PyData → Prop) : Prop := match d with
  | .list ds => match intsD ds with
    | some ns => ns.length < 63 ∧ ∀ ms : List Int, ms.Pairwise (· < ·) → (∀ k, k ∈ ms ↔ k ∈ ns) → K (ms.map .int)
    | none => match strsD ds with
      | some ts => ts.length < 63 ∧ ∀ ms : List Str, ms.Pairwise (fun a b => strLt a b = true) → (∀ k, k ∈ ms ↔ k ∈ ts) → K (ms.map .str)
      | none => False
  | _ => False
theorem drs_strs {K : PySem.W.Frag} {F : Hp} : ∀ ns : List Str, DRs K F (ns.map V.str) (ns.map PyData.str)
  | [] => .nil
  | n :: ns => .cons (.str n) (drs_strs ns)
theorem strs_map : ∀ ns : List Str, strsD (ns.map .str) = some ns
  | [] => rfl
  | n :: ns => by simp [strsD, strs_map ns]
abbrev dSortSetT (wa : DE) (env : List SD) (P : SD → List SD → Prop) : Prop := wa env fun d env1 => sortSetT d fun xs => P (.cel false xs) env1
section
variable {X : Cx} {a : Expr} {wa : DE} {p p2 pos pos2 : Pos}
theorem dsortSetT (hc : X.calm = true) (hm : X.mg "sorted" = none) (hm2 : X.mg "set" = none) (ha : PE X a (liftE X.K Z wa)) (hg : Gl X "sorted" := by rfl) (hg2 : Gl X "set" := by rfl)
    (n1 : starEach [a] X.env = (false, eval a X.env) :: starEach [] X.env := by rfl)
    (n2 : starEach [.Call (.Name "set" p2) [a] [] pos2] X.env = (false, eval (.Call (.Name "set" p2) [a] [] pos2) X.env) :: starEach [] X.env := by rfl) :
    PE X (.Call (.Name "sorted" p) [.Call (.Name "set" p2) [a] [] pos2] [] pos) (liftX X.K Z (dSortSetT wa)) :=
  PE.of (pe_callB (callR_or (cr_sortedSet hc) (cr_sortedSS hc)) hg hm (by decide +kernel) (pa_cons (pe_callTy (callR_or (call_setI hc) (call_setS hc)) hg2 hm2 (by decide +kernel) (pa_cons ha pa_nil n1) (by decide) (by decide) n1 (by rfl)) pa_nil n2) (by decide) (by decide) n2 (by rfl)) fun σ H Q ⟨g, F, env, P, k, w, q⟩ =>
    ⟨g, F, env, _, k, w, fun d env1 v F1 H1 p e1 k1 r1 => by
      unfold sortSetT at p
      split at p
      · rename_i ds
        split at p
        · rename_i ns e
          obtain ⟨l, us, rfl, h1, h2⟩ := r1.inv_lst
          cases ints_rel h2 e
          have sb : ns.length + 1 < scanBound := by unfold scanBound; have := p.1; omega
          refine .inl ⟨l, ns, rfl, (h1.mono k1.fh).sq, sb, fun a1 c hp1 hc1 => ?_⟩
          refine .inl ⟨a1, _, c, rfl, upd_same, by have := p.1; omega, fun ms a2 s1 s2 s3 hp2 => ?_⟩
          obtain ⟨k3, r3⟩ := (k1.extra (o := SetO X.w a1 (fun j => decide (j ∈ ns)) c) hp1).newCell hp2 (drs_ints ms)
          exact q _ env1 _ F1 _ (p.2 ms s1 fun z => (s2 z).trans decide_eq_true_iff) e1 k3 r3
        · split at p
          · rename_i ns e
            obtain ⟨l, us, rfl, h1, h2⟩ := r1.inv_lst
            cases strs_rel h2 e
            have sb : ns.length + 1 < scanBound := by unfold scanBound; have := p.1; omega
            refine .inr ⟨l, ns, rfl, (h1.mono k1.fh).sq, sb, fun a1 hp1 => ?_⟩
            have hl := dd_len ns []
            refine .inr ⟨a1, _, rfl, upd_same, by have := p.1; simp only [List.length_nil] at hl; omega, fun ms a2 pm so hp2 => ?_⟩
            obtain ⟨k3, r3⟩ := (k1.extra (o := SetSO X.w a1 (dd [] ns)) hp1).newCell hp2 (drs_strs ms)
            refine q _ env1 _ F1 _ (p.2 ms (sorted_strict ms so (pm.nodup_iff.mpr (dd_nodup ns [] List.nodup_nil))) fun z => ?_) e1 k3 r3
            rw [pm.mem_iff, dd_mem]
            simp
          · exact p.elim
      · exact p.elim⟩
end
theorem q_sortSetTS {n : Str} {ns : List Str} {K : List PyData → Prop} : sortSetT (.list (.str n :: ns.map .str)) K = ((n :: ns).length < 63 ∧ ∀ ms : List Str, ms.Pairwise (fun a b => strLt a b = true) → (∀ k, k ∈ ms ↔ k ∈ n :: ns) → K (ms.map .str)) := by
  have h : strsD (.str n :: ns.map .str) = some (n :: ns) := strs_map (n :: ns)
  unfold sortSetT
  dsimp only
  rw [show intsD (.str n :: ns.map .str) = none from rfl, h]
/-- rising rows of texts with the same members are one -/
theorem riseS_uniq : ∀ {l m : List Str}, l.Pairwise (fun a b => strLt a b = true) → m.Pairwise (fun a b => strLt a b = true) → (∀ k, k ∈ l ↔ k ∈ m) → l = m
  | [], [], _, _, _ => rfl
  | [], b :: m, _, _, h => by have := (h b).mpr (List.mem_cons_self ..); simp at this
  | a :: l, [], _, _, h => by have := (h a).mp (List.mem_cons_self ..); simp at this
  | a :: l, b :: m, hl, hm, h => by
    obtain ⟨l1, l2⟩ := List.pairwise_cons.mp hl
    obtain ⟨m1, m2⟩ := List.pairwise_cons.mp hm
    have asy : ∀ {x y : Str}, strLt x y = true → strLt y x = true → False := fun p q => by
      have := strLt_trans p q
      rw [strLt_irr] at this
      exact nomatch this
    have irr : ∀ {x : Str}, strLt x x = true → False := fun p => by rw [strLt_irr] at p; exact nomatch p
    have e : a = b := by
      rcases List.mem_cons.mp ((h a).mp (List.mem_cons_self ..)) with z | z
      · exact z
      · rcases List.mem_cons.mp ((h b).mpr (List.mem_cons_self ..)) with y | y
        · exact y.symm
        · exact (asy (m1 a z) (l1 b y)).elim
    subst e
    congr 1
    refine riseS_uniq l2 m2 fun k => ⟨fun z => ?_, fun z => ?_⟩
    · rcases List.mem_cons.mp ((h k).mp (List.mem_cons_of_mem _ z)) with y | y
      · exact (irr (y ▸ l1 k z)).elim
      · exact y
    · rcases List.mem_cons.mp ((h k).mpr (List.mem_cons_of_mem _ z)) with y | y
      · exact (irr (y ▸ m1 k z)).elim
      · exact y
end DL

namespace DL
variable {T : List (PySem.Addr × PySem.Str)} {Z : Zx T}
open PySem PySem.Spec PyProof.Rows L2
open Evl (Ex)
section
variable {X : Cx} {a b e : Expr} {we wa wb : DE} {pos : Pos}
end
end DL

namespace DL
variable {T : List (PySem.Addr × PySem.Str)} {Z : Zx T}
open PySem PySem.Spec PyProof.Rows L2
open Evl (Ex)
section
variable {X : Cx} {a b e : Expr} {we wa wb : DE} {pos p p2 pos2 : Pos}
end
end DL

namespace DL
variable {T : List (PySem.Addr × PySem.Str)} {Z : Zx T}
open PySem PySem.Spec PyProof.Rows L2
open Evl (Ex)
section
variable {X : Cx}
/-- sorted(xs): the items by their data, like ones in their order -/
def rSortDD (K : PySem.W.Frag) : List V → Hp → VK → Prop := fun vs H Q => ∃ (a : Addr) (xs : List V) (ds : List PyData), vs = [V.ref a] ∧ SqL K H a xs ∧ DpAll K H xs ds ∧ PySem.W.AllAlike ds ∧ PySem.W.Sortable ds ∧ (∀ d ∈ ds, d.depth ≤ 60) ∧
  ∀ (zs : List (V × PyData)) (p : Addr), zs = (xs.zip ds).mergeSort (PySem.W.dataLe false Prod.snd) → H p = none → Q (.ref p) (upd H p (.lst (zs.map Prod.fst)))
theorem zip_snd : ∀ {xs : List V} {ds : List PyData}, xs.length = ds.length → (xs.zip ds).map Prod.snd = ds
  | [], [], _ => rfl
  | x :: xs, d :: ds, h => by
    rw [List.zip_cons_cons, List.map_cons, zip_snd (by simpa using h)]
theorem DpAll.len {K : PySem.W.Frag} {H : Hp} : ∀ {xs : List V} {ds : List PyData}, DpAll K H xs ds → xs.length = ds.length
  | [], [], _ => rfl
  | _ :: _, _ :: _, .cons _ t => by rw [List.length_cons, List.length_cons, DpAll.len t]
theorem each_zip {R : Value → V × PyData → Prop} {h : Heap} : ∀ {its : List Value} {xs : List V} {ds : List PyData} {as : List Addr}, Vals xs its → ReadsAll h its ds as → PySem.W.EachIs (fun v (p : V × PyData) => RelV p.1 v ∧ ∃ as, Reads h v p.2 as) its (xs.zip ds)
  | _, [], ds, _, r, t => by
    cases r
    exact .nil
  | _, x :: xs, [], _, r, t => by
    cases t
    cases r
  | _, x :: xs, d :: ds, _, r, t => by
    cases r with
    | cons r1 r2 =>
      cases t with
      | cons t1 t2 => exact .cons ⟨r1, _, t1⟩ (each_zip (R := R) r2 t2)
theorem vals_each {R : Value → V × PyData → Prop} : ∀ {out : List Value} {zs : List (V × PyData)}, PySem.W.EachIs (fun v (p : V × PyData) => RelV p.1 v) out zs → Vals (zs.map Prod.fst) out
  | _, _, .nil => .nil
  | _, _, .cons a t => .cons a (vals_each (R := R) t)
theorem cr_sortedDD (hu : X.A.units + 65 < cLine) : CallR X (.builtin "sorted") (rSortDD X.K) := by
  intro pins s σ H vs us Q I r h
  obtain ⟨a, xs, ds, rfl, hs, hd, hal, hk, hdep, q⟩ := h
  rw [Vals.ref1 r]
  obtain ⟨its, rv, pl, hz⟩ := I.list hs
  obtain ⟨as, h4⟩ := Dp.readsAll I ds _ its hd rv
  have hlen := DpAll.len hd
  have e := each_zip (R := fun _ _ => True) rv h4
  have es : (xs.zip ds).map Prod.snd = ds := zip_snd hlen
  have lz : (xs.zip ds).length = xs.length := by rw [List.length_zip, hlen, Nat.min_self]
  refine PySem.W.sorted_data (R := fun v (p : V × PyData) => RelV p.1 v) (enc := Prod.snd) (bs := xs.zip ds) pl.isList (e.mono fun _ _ z => z.1) (e.mono fun _ _ z => z.2) (by rw [es]; exact hal) (by rw [es]; exact hk) (by rw [lz]; exact hz) (fun p hp => ?_) fun out hol ho => ?_
  · have : p.2 ∈ ds := by rw [← es]; exact List.mem_map.mpr ⟨p, hp, rfl⟩
    have := hdep _ this
    omega
  · obtain ⟨c, hc⟩ := sortedAll_at s.heap its (List.toArray out)
    have hn := I.hok.fresh (Nat.le_succ s.heap.objs.size)
    refine ⟨.ref (s.heap.objs.size + 1), upd H (s.heap.objs.size + 1) (.lst (((xs.zip ds).mergeSort (PySem.W.dataLe false Prod.snd)).map Prod.fst)), I.laid (t' := s.toks) (fun b u hb => sortedAll_old hb) (Nat.le_succ _) ⟨?_, out, c, vals_each (R := fun _ _ => True) ho, hc⟩, rfl, q _ _ rfl hn⟩
    rw [List.length_map, List.length_mergeSort, lz]
    exact hz
end
def sortD (ds : List PyData) : List PyData := ds.mergeSort (PySem.W.dataLe false id)
def sortOk (ds : List PyData) : Prop := PySem.W.AllAlike ds ∧ PySem.W.Sortable ds ∧ (∀ d ∈ ds, d.depth ≤ 60) ∧ PyData.hasDictAll ds = false
def sortedQ (d : PyData) (K : List PyData → Prop) : Prop := match d with
  | .list ds => sortOk ds ∧ K (sortD ds)
  | _ => False
theorem q_sorted {ds : List PyData} {K : List PyData → Prop} : sortedQ (.list ds) K = (sortOk ds ∧ K (sortD ds)) := rfl
theorem sortD_perm (ds : List PyData) : (sortD ds).Perm ds := List.mergeSort_perm _ _
theorem sortD_pair (ds : List PyData) : (sortD ds).Pairwise fun a b => PySem.W.dataLe false id a b = true := PySem.W.sort_pairwise (PySem.W.sortLe_total _ _ _) ds
theorem drs_zip {K : PySem.W.Frag} {F : Hp} : ∀ {xs : List V} {ds : List PyData}, DRs K F xs ds → ∀ p ∈ xs.zip ds, DR K F p.1 p.2
  | [], _, _, p, h => by simp at h
  | x :: xs, [], r, p, h => by simp at h
  | x :: xs, d :: ds, r, p, h => by
    cases r with
    | cons a b =>
      rw [List.zip_cons_cons] at h
      rcases List.mem_cons.mp h with rfl | h
      · exact a
      · exact drs_zip b p h
theorem drs_of {K : PySem.W.Frag} {F : Hp} : ∀ {zs : List (V × PyData)}, (∀ p ∈ zs, DR K F p.1 p.2) → DRs K F (zs.map Prod.fst) (zs.map Prod.snd)
  | [], _ => .nil
  | z :: zs, h => .cons (h z List.mem_cons_self) (drs_of fun p hp => h p (List.mem_cons_of_mem _ hp))
abbrev dSorted (wa : DE) (env : List SD) (P : SD → List SD → Prop) : Prop := wa env fun d env1 => sortedQ d fun xs => P (.cel false xs) env1
section
variable {X : Cx} {a : Expr} {wa : DE} {p pos : Pos}
theorem dsorted {k : Nat} (hr : Room k X.A) (hm : X.mg "sorted" = none) (ha : PE X a (liftE X.K Z wa)) (hg : Gl X "sorted" := by rfl)
    (n1 : starEach [a] X.env = (false, eval a X.env) :: starEach [] X.env := by rfl) :
    PE X (.Call (.Name "sorted" p) [a] [] pos) (liftX X.K Z (dSorted wa)) :=
  PE.of (pe_callB (cr_sortedDD hr.u65) hg hm (by decide +kernel) (pa_cons ha pa_nil n1) (by decide) (by decide) n1 (by rfl)) fun σ H Q ⟨g, F, env, P, k, w, q⟩ =>
    ⟨g, F, env, _, k, w, fun d env1 v F1 H1 p e1 k1 r1 => by
      unfold sortedQ at p
      split at p
      · rename_i ds
        obtain ⟨⟨s1, s2, s3, s4⟩, p⟩ := p
        obtain ⟨l, us, rfl, h1, h2⟩ := r1.inv_lst
        refine ⟨l, us, ds, rfl, (h1.mono k1.fh).sq, DRs.dp (drsH k1 h2) s4, s1, s2, s3, fun zs a2 ez hp2 => ?_⟩
        subst ez
        have hl := h2.length
        have em : ((us.zip ds).mergeSort (PySem.W.dataLe false Prod.snd)).map Prod.snd = sortD ds := by
          have := PySem.W.sort_maps (r := PySem.W.dataLe false (Prod.snd (α := V))) (s := PySem.W.dataLe false id) Prod.snd (l := us.zip ds) (fun _ _ _ _ => rfl)
          rw [this, zip_snd hl]
          rfl
        have dr := drs_of (zs := (us.zip ds).mergeSort (PySem.W.dataLe false Prod.snd)) fun p hp => drs_zip h2 p ((List.mergeSort_perm _ _).mem_iff.mp hp)
        rw [em] at dr
        obtain ⟨k3, r3⟩ := k1.newCell hp2 dr
        exact q _ env1 _ F1 _ p e1 k3 r3
      · exact p.elim⟩
end
end DL

namespace DL
variable {T : List (PySem.Addr × PySem.Str)} {Z : Zx T}
open PySem PySem.Spec PyProof.Rows L2
open Evl (Ex)
section
variable {X : Cx}
variable {e : Expr} {es : List Expr} {was : DA} {pos p : Pos}
end
end DL

namespace DL
variable {T : List (PySem.Addr × PySem.Str)} {Z : Zx T}
open PySem PySem.Spec PyProof.Rows L2
section
variable {fa : List He.Fa} {fn : List He.FnD} {K : PySem.W.Frag} {mg : Str → Option Value}
theorem Top.funA (T : Top fa fn K mg) (x y : Str) (st : Stmt) (i j : Nat) (h : fn[i]? = some ⟨(x, none), y, y, defArgs st, defBody st, defScope st⟩ := by rfl) (hk : fa[j]? = some (.keep x) := by rfl) :
    ∃ kV doc pm an cdv ct, Fun K y y st (He.ga K x) (PySem.W.fnOf y y (defArgs st) (defBody st) (defScope st) .none kV doc pm an cdv ct) := by
  obtain ⟨oc, od, osl, kV, doc, pm, an, cdv, ct, h1, h2⟩ := T.says.def_ i h
  exact ⟨kV, doc, pm, an, cdv, ct, fun_mk h1 h2 (T.keep x j hk)⟩
end
end DL

namespace DL
variable {T : List (PySem.Addr × PySem.Str)} {Z : Zx T}
open PySem PySem.Spec PyProof.Rows L2
open Evl (Ex)
section
variable {X : Cx} {pins : List (Addr × Obj)} {σ : L2.St} {H : Hp} {s : Shared}
theorem TqT.obj (I : Inv X pins σ H s) {a : Addr} {xs : List V} (h : TqT X.K H a xs) : ∃ o, s.heap.get? a = some o ∧ PlT o := by
  rcases h with ⟨o, h, p⟩ | ⟨o, _, _, h, p, _⟩
  · exact ⟨o, (I.hok a _ h).1, p⟩
  · exact ⟨o, I.kIn a o h, p⟩
end
section
variable {X : Cx}
end
section
variable {X : Cx} {a e : Expr} {wa we : DE} {apos cpos : Pos}
end
end DL

namespace DL
variable {T : List (PySem.Addr × PySem.Str)} {Z : Zx T}
open PySem PySem.Spec PyProof.Rows L2 PySem.W
open Evl (Ex)
section
variable {prog : Program} {w : World} {A : Around} {E : Value → Shared → Prop} {s : Shared}
end
section
variable {X : Cx}
end
section
variable {X : Cx} {a : Expr} {wa : DE} {p pos : Pos}
end
end DL

namespace DL
variable {T : List (PySem.Addr × PySem.Str)} {Z : Zx T}
open PySem PySem.Spec PyProof.Rows L2 PySem.W
open Evl (Ex)
def kyOf : PyData → Option Key
  | .int n => some (.inl n)
  | .str x => some (.inr x)
  | _ => none
def keyD : Key → PyData
  | .inl n => .int n
  | .inr x => .str x
abbrev KVD := List (List Key × PyData)
def atD (kvs : KVD) (k : List Key) : Option PyData := (kvs.find? fun p => decide (p.1 = k)).map (·.2)
def putD (kvs : KVD) (k : List Key) (d : PyData) : KVD := if (atD kvs k).isSome = true then kvs.map (fun p => if p.1 = k then (p.1, d) else p) else kvs ++ [(k, d)]
theorem ky_val {K : PySem.W.Frag} {F : Hp} {v : V} {d : PyData} {k : Key} (h : kyOf d = some k) (r : DR K F v d) : v = kV k := by
  cases d with
  | int n => cases h; cases r; rfl
  | str x => cases h; cases r; rfl
  | _ => cases h
section
variable {K : PySem.W.Frag} {F : Hp}
theorem DicR.val {kvs : KVD} {xs : List (List Key × Addr × Value)} (r : DicR K F kvs xs) (k : List Key) : (atD kvs k = none ∧ atKey xs k = none) ∨ ∃ d p v, atD kvs k = some d ∧ atKey xs k = some p ∧ DR K F v d ∧ RelV v p.2 := by
  unfold DicR at r
  induction r with
  | nil => exact .inl ⟨rfl, rfl⟩
  | @cons p q ps qs h t ih =>
    obtain ⟨h1, _, v, h2, h3⟩ := h
    by_cases e : p.1 = k
    · exact .inr ⟨p.2, q.2, v, by simp [atD, List.find?_cons, e], by simp [atKey, List.find?_cons, ← h1, e], h2, h3⟩
    · have e' : ¬ q.1 = k := fun z => e (h1.trans z)
      have a : atD (p :: ps) k = atD ps k := by simp [atD, List.find?_cons, e]
      have b : atKey (q :: qs) k = atKey qs k := by simp [atKey, List.find?_cons, e']
      rw [a, b]
      exact ih
theorem DicR.put {kvs : KVD} {xs : List (List Key × Addr × Value)} (r : DicR K F kvs xs) (k : List Key) {b : Addr} {d : PyData} {v : V} {u : Value} (hb : TqT K F b (k.map kV)) (hd : DR K F v d) (hu : RelV v u) : DicR K F (putD kvs k d) (storedH xs k b u) := by
  have e : (atD kvs k).isSome = (atKey xs k).isSome := by
    rcases r.val k with ⟨e1, e2⟩ | ⟨_, _, _, e1, e2, _⟩ <;> rw [e1, e2] <;> rfl
  unfold putD storedH
  rw [e]
  by_cases q : (atKey xs k).isSome = true
  · rw [if_pos q, if_pos q]
    clear e q
    unfold DicR at r ⊢
    induction r with
    | nil => exact .nil
    | @cons p q ps qs h t ih =>
      rw [List.map_cons, List.map_cons]
      refine .cons ?_ ih
      obtain ⟨h1, h2, h3⟩ := h
      unfold putAt
      by_cases e : p.1 = k
      · rw [if_pos e, if_pos (h1.symm.trans e)]; exact ⟨h1, h2, v, hd, hu⟩
      · rw [if_neg e, if_neg (fun z => e (h1.trans z))]; exact ⟨h1, h2, h3⟩
  · rw [if_neg q, if_neg q]
    exact Paired.snoc r ⟨rfl, hb, v, hd, hu⟩
end
section
variable {X : Cx} {pins : List (Addr × Obj)} {σ : L2.St} {H : Hp} {s : Shared} {a b : Addr} {F : Hp} {kvs : KVD} {xs : List (List Key × Addr × Value)}
end
section
variable {K : PySem.W.Frag} {g : Gx Z} {F : Hp} {env : List SD} {σ : L2.St} {H : Hp}
theorem Ok.ownAt (k : Ok K g F env σ H) {i : Nat} {w : Own} (he : env[i]? = some (.dic w)) : ∃ a, σ[i]? = some (some (.ref a)) := by
  obtain ⟨B, db⟩ := k.dic
  obtain ⟨a, h1, h2⟩ := db.at_ i _ he
  exact ⟨a, h1⟩
end
section
variable {X : Cx} {e b : Expr} {we wb : DE} {m : Nat} {pos : Pos}
end
end DL

namespace DL
variable {T : List (PySem.Addr × PySem.Str)} {Z : Zx T}
open PySem PySem.Spec PyProof.Rows L2 PySem.W
open Evl (Ex)
section
variable {X : Cx}
section
variable {k0 : Nat} {a : Expr} {pos p0 : Pos} {x : Str} {wa : DE}
end
end
end DL

namespace DL
variable {T : List (PySem.Addr × PySem.Str)} {Z : Zx T}
open PySem PySem.Spec PyProof.Rows L2
open Evl (Ex)
section
variable {P : Program} {w : World} {K : PySem.W.Frag} {mg : Str → Option Value} {base : Heap}
theorem dfnW (m : Nat) {x qual : Str} {st : Stmt} {f : Addr} {fd : FuncData} {N ps : List Str} {k : Nat} {S : DSp} (Fn : Fun K x qual st f fd) (sc : FnScope N ps (defScope st)) (len : ∀ as Q, S as Q → as.length = ps.length) (cels : CelsIn m S)
    (hbody : ∀ {Z : Zx T} (cdv : Value) (A : Around) (outer : List Env) (s : Shared) (H : Hp), Z.P = P → Z.w = w → Room k (A.deeper (envOfC qual (defScope st) s.heap.objs.size f cdv)) → (A.deeper (envOfC qual (defScope st) s.heap.objs.size f cdv)).guards = some [] →
      ∃ t : DS, PSs (cxOf CX0 P w K mg base N qual (defScope st) f cdv A outer s H E0).nox (defBody st) (liftS K Z m t) ∧
        ∀ as Q, S as Q → t (defEnds m Q) (as ++ List.replicate (N.length - ps.length) .un)) : FnG P w K mg base T (k + 1) f fd ps S := by
  obtain ⟨oc, od, kV, doc, pm, an, cdv, ct, osl, rfl, lk, hcd⟩ := Fn.ex
  refine ⟨len, fun A outer s H args us vs Q hr hg e0 hb rv ⟨F0, as, PP, ha, hS, hQ⟩ => ?_⟩
  have hl : vs.length = ps.length := ha.len.symm.trans (len as PP hS)
  have hpl : ps.length ≤ N.length := by
    have := congrArg List.length sc.pre
    rw [List.length_take] at this
    omega
  have KX : K.In s.heap := e0.mod.kin.keeps fun b o e => (e0.bs b o e).1
  refine codeAny_call_function hr.depth (KX _ _ lk) rfl sc.co sc.gen rfl (PySem.W.codeRec_of KX hcd) (hb _ _ _ _ (wpAny_newFunctionEnv_cells sc.kind (fun ⟨n, v⟩ hy => ?_) fun env he s1 x => ?_))
  · rcases sc.par n (List.of_mem_zip hy).1 with q | q
    · exact .inl q
    · exact .inr ⟨q, PySem.W.cellsFrom_some _ _ _ (.inl q)⟩
  · subst he
    obtain ⟨t, ht, hq⟩ := hbody (Z := entryZ T P w F0 H vs as) cdv A outer s H rfl rfl (hr.deeper _) hg
    have I : Inv (cxOf CX0 P w K mg base N qual (defScope st) f cdv A outer s H E0) [] (start N vs) H s1 := inv_start sc hr.hd e0 hl rv x
    refine ⟨(e0.mod.nolimit.keeps fun b o e => (e0.bs b o e).1).keeps x.toInCall.keep, codeAny_func (wpAny_mono (ht.nox.run [] s1 (start N vs) H { nx := fun _ H' => Q .non H', rt := Q } I ?_) (fun fl s' hs => ?_) fun e s' hs => hs)⟩
    · have al : as.length = ps.length := len as PP hS
      refine ⟨entryG T P w F0 H vs as, F0, _, _, entry_ok ha al hpl, hq as PP hS, ?_⟩
      exact .mk4 (.mk (fun env' σ' F' H' p _ k' => hQ _ _ _ _ _ p (post_of k' (cels _ _ hS) .non)) (fun _ _ _ _ p => p.elim) (fun _ _ _ _ p => p.elim) (fun r env' v σ' F' H' p _ k' r' => hQ _ _ _ _ _ p (post_of k' (cels _ _ hS) r'))) rfl
    · have fin : ∀ {σ' : L2.St} {H' : Hp} {v : V} {u : Value}, Inv (cxOf CX0 P w K mg base N qual (defScope st) f cdv A outer s H E0) [] σ' H' s' → RelV v u → Q v H' → CE outer P w H s Q u s' :=
        fun {σ' H' v u} J r q => ⟨v, H', J.os, J.bare, J.base, J.hok, r, q⟩
      match fl, hs with
      | .ret u, ⟨v, σ', H', J, r, q⟩ => exact fin J r q
      | .next, ⟨σ', H', J, q⟩ => exact fin (v := V.non) (u := Value.none) J rfl q
      | .brk, ⟨_, _, _, q⟩ => exact q.elim
      | .cont, ⟨_, _, _, q⟩ => exact q.elim
end
end DL

namespace DL
variable {T : List (PySem.Addr × PySem.Str)} {Z : Zx T}
open PySem PySem.Spec PyProof.Rows L2
open Evl (Ex)
section
variable {X : Cx}
end
end DL

namespace DL
variable {T : List (PySem.Addr × PySem.Str)} {Z : Zx T}
open PySem PySem.Spec PyProof.Rows L2
open Evl (Ex)
section
variable {prog : Program} {w : World} {A : Around} {E : Value → Shared → Prop} {s : Shared}
end
section
variable {X : Cx} {es : List Expr} {pos : Pos}
end
end DL

namespace DL
variable {T : List (PySem.Addr × PySem.Str)} {Z : Zx T}
open PySem PySem.Spec PyProof.Rows L2
open Evl (Ex)

section
variable {M : Model} {A : Around} {E1 : Value → Shared → Prop} {s : Shared} {B : Heap} {env : Env} {outer : List Env} {L C a : Addr} {Zp : Obj → Prop} {Q : Unit → Shared → Prop}
end
section
variable {X : Cx} {pins : List (Addr × Obj)} {σ : L2.St} {H : Hp} {s : Shared}
end
section
variable {X : Cx} {elt tg iter : Expr} {ifs : List Expr} {scope : Scope} {own : List (Str × Nat)} {pos : Pos} {wi : DI} {t : CT} {c : DT} {we : DE} {m : Nat} {I S : Type} {dec : List SD → Option (I × S)} {emb : I → S → List SD} {qb : PyData → I → S → (I → S → Prop) → (PyData → I → S → Prop) → Prop}
end
section
variable {P : Program} {w : World} {K : PySem.W.Frag} {mg : Str → Option Value} {base : Heap}
end
end DL

namespace DL
open PySem PySem.Spec PyProof.Rows L2
section
variable {P : Program} {w : World} {κ : Type} [DecidableEq κ] {kd : KeyKind P w κ}
section
variable {A : Around} {E : Value → Shared → Prop} {s : Shared}
end
abbrev hashT (kd : KeyKind P w κ) (p : Addr × List κ) : Int := tupleKeyHash kd p.2
def rowT (kd : KeyKind P w κ) (p : Addr × List κ) : Int × Value := (hashT kd p, .ref p.1)
/-- a set of tuples: each by its place and its parts -/
structure TSet (kd : KeyKind P w κ) (h : Heap) (a : Addr) (L : List (Addr × List κ)) (es : Array (Int × Value)) (ep : Nat) (t : SetTable) : Prop where
  ob : ∃ o, h.get? a = some o ∧ o.ExactSet ∧ o.data = .set es ep t
  ent : es.toList = L.map (rowT kd)
  tab : TabOk t (L.map (hashT kd))
  once : (L.map (·.2)).Nodup
  tup : ∀ p ∈ L, IsTupleKey kd h p.2 p.1
  led : w.params.followText "set-order" = true ∨ t.led = true
  room : L.length * 5 < t.mask * 3
  few : L.length < 64
section
variable {A : Around} {E : Value → Shared → Prop} {s : Shared} {a : Addr} {L : List (Addr × List κ)} {es : Array (Int × Value)} {ep : Nat} {t : SetTable}
theorem ent_size (e : es.toList = L.map (rowT kd)) : es.size = L.length := by
  rw [← Array.length_toList, e, List.length_map]
theorem tab_fits {t : SetTable} {hs : List Int} {n : Nat} (T : t.dummies = #[]) (h1 : t.place.size = n) (h2 : n ≤ t.mask) : t.fits n = true := by
  unfold SetTable.fits SetTable.fill
  rw [T, h1]
  simp only [beq_self_eq_true, Bool.true_and, decide_eq_true_eq]
  exact h2
theorem TSet.fits (R : TSet kd s.heap a L es ep t) : t.fits es.size = true := by
  have z1 := R.tab.sz
  have z2 := R.room
  rw [List.length_map] at z1
  rw [ent_size R.ent]
  exact tab_fits (hs := []) R.tab.dm z1 (by omega)
theorem TSet.place (R : TSet kd s.heap a L es ep t) : t.place.toList.length = L.length := by
  have z := R.tab.sz
  rw [List.length_map] at z
  rw [Array.length_toList, z]
end
/-- each once -/
def d1 {α : Type} [DecidableEq α] (acc : List α) (k : α) : List α := if k ∈ acc then acc else k :: acc
section
variable {A : Around} {E : Value → Shared → Prop} {s : Shared}
end
end
section
variable {X : Cx} {T : List (PySem.Addr × PySem.Str)} {Z : Zx T}
variable {a : Expr} {wa : DE} {pos p p2 pos2 : Pos}
end
end DL

namespace DL
variable {T : List (PySem.Addr × PySem.Str)} {Z : Zx T}
open PySem PySem.Spec PyProof.Rows L2 PySem.W
open Evl (Ex)
section
variable {P : Program} {w : World} {A : Around} {E : Value → Shared → Prop} {s : Shared}
theorem tuple_collect {l : Addr} {vs : List Value} {Q : List Value → Shared → Prop} (hl : s.heap.IsTuple l vs.toArray)
    (h : Q vs { s with heap := (s.heap.push (seqObj "list" #[] 0)).update s.heap.objs.size (Obj.mapSeq (· ++ vs.toArray)) }) (hz : vs.length ≤ sizeLine) :
    wpAny (model P w) A (collect (.ref l)) Q E s := by
  obtain ⟨o, e1, e2, n, e3⟩ := hl
  have e4 : (s.heap.push (seqObj "list" #[] 0)).get? l = some o := Heap.get?_push_of_some _ e1
  have e5 : (s.heap.push (seqObj "list" #[] 0)).get? s.heap.objs.size = some (seqObj "list" #[] 0) := Heap.get?_push_size _ rfl
  unfold collect
  refine wpAny_bind (wpAny_runValue (codeAny_builtin entry_proto_collect' ?_))
  show wpAny _ _ (do PySem.again (.builtin "list.__iadd__" ⟨[← newList [], .ref l], []⟩)) _ _ s
  refine wpAny_bind (wpAny_newList (wpAny_pure ⟨Code.quiet_builtin _ (by decide +kernel), codeAny_builtin entry_list_iadd' ?_⟩))
  show wpAny _ _ (Builtin.List.listExtendWith (.ref s.heap.objs.size) (.ref l) (.ref s.heap.objs.size)) _ _ { s with heap := s.heap.push (seqObj "list" #[] 0) }
  unfold Builtin.List.listExtendWith
  refine wpAny_bind (wpAny_typeOf (T := "tuple") ⟨o, e4, e2⟩ ?_)
  have tt : (Value.type "tuple" == Value.type "tuple") = true := by rfl
  rw [if_pos (by rw [tt]; simp)]
  refine wpAny_bind (listItems_at e4 e3 (wpAny_bind (listItems_at e5 rfl ?_)))
  rw [if_neg (by simp)]
  refine wpAny_bind (listUpdate_at e5 rfl (wpAny_pure ?_) (Nat.zero_le _) (by show (#[] ++ vs.toArray).size ≤ sizeLine + 1; simp only [Array.size_append, List.size_toArray, List.length_nil]; omega))
  show wpAny (model P w) A (do
      let o ← load s.heap.objs.size
      match o.data with
      | .seq xs _ => pure xs.toList
      | _ => unsupported "internal:collect") Q E { s with heap := (s.heap.push (seqObj "list" #[] 0)).update s.heap.objs.size (Obj.mapSeq (· ++ vs.toArray)) }
  refine wpAny_bind (wpAny_load (get?_update_seq e5 _) ?_)
  show wpAny _ _ (pure ((#[] : Array Value) ++ vs.toArray).toList) Q E _
  rw [show ((#[] : Array Value) ++ vs.toArray).toList = vs by simp]
  exact wpAny_pure h
end
section
variable {X : Cx}
variable {a : Expr} {wa : DE} {p pos : Pos}
end
def insQ (xs : List PyData) (y d : PyData) (K : List PyData → Prop) : Prop := match y with
  | .int i => (xs.length < 100000 ∧ 0 ≤ i ∧ i ≤ 100000) ∧ K (xs.take i.toNat ++ [d] ++ xs.drop i.toNat)
  | _ => False
theorem q_ins {xs : List PyData} {i : Int} {d : PyData} {K : List PyData → Prop} : insQ xs (.int i) d K = ((xs.length < 100000 ∧ 0 ≤ i ∧ i ≤ 100000) ∧ K (xs.take i.toNat ++ [d] ++ xs.drop i.toNat)) := rfl
abbrev dIns (i : Nat) (wi we : DE) (E : DEnds) (env : List SD) : Prop := match env[i]? with
  | some (.cel _ _) => wi env fun y env1 => we env1 fun d env2 => match env2[i]? with
    | some (.cel p xs) => insQ xs y d fun xs' => E.nx (env2.set i (.cel p xs'))
    | _ => False
  | _ => False
theorem DRs.takeN {K : PySem.W.Frag} {F : Hp} : ∀ {vs : List V} {ds : List PyData} (n : Nat), DRs K F vs ds → DRs K F (vs.take n) (ds.take n)
  | _, _, _, .nil => by simp only [List.take_nil]; exact .nil
  | _, _, 0, .cons a b => .nil
  | _, _, n + 1, .cons a b => .cons a (b.takeN n)
theorem DRs.dropN {K : PySem.W.Frag} {F : Hp} : ∀ {vs : List V} {ds : List PyData} (n : Nat), DRs K F vs ds → DRs K F (vs.drop n) (ds.drop n)
  | _, _, _, .nil => by simp only [List.drop_nil]; exact .nil
  | _, _, 0, .cons a b => .cons a b
  | _, _, n + 1, .cons a b => b.dropN n
section
variable {X : Cx} {e e2 : Expr} {wi we : DE} {m : Nat} {pos : Pos}
theorem sins (i : Nat) {x : Str} {p0 apos cpos : Pos} (hi : PE X e (liftE X.K Z wi)) (he : PE X e2 (liftE X.K Z we)) (hN : X.N[i]? = some x := by rfl) (hv : Vis X.env.scope x := by first | exact Or.inl rfl | exact Or.inr (Or.inl rfl) | exact Or.inr (Or.inr rfl)) (hd : (x == ("__debug__" : Str)) = false := by decide)
    (hcd : (x == ("__classdict__" : Str)) = false := by decide)
    (h1 : attributeBase (.Name x p0) "insert" X.env (eval (.Name x p0) X.env) = eval (.Name x p0) X.env := by rfl)
    (h2 : ((backTo cpos (starEach [e, e2] X.env)).all (!·.1) && (backToKw cpos (keywordEach [] X.env)).all (·.1.isSome) && decide ([e, e2].length + ([] : List Keyword).length + (if ([] : List Keyword).isEmpty then 0 else 1) < 30)) = true := by rfl)
    (h3 : (apos.endLine == cpos.line) = true := by rfl)
    (h4 : starEach [e, e2] X.env = (false, eval e X.env) :: starEach [e2] X.env := by rfl) (h5 : (backTo cpos (starEach [e2] X.env)).any (·.1) = false := by rfl)
    (h6 : starEach [e2] X.env = (false, eval e2 X.env) :: starEach [] X.env := by rfl)
    (hs : swapsWith (.Call (.Attribute (.Name x p0) "insert" apos) [e, e2] [] cpos) none pos.line X.env = pure false := by rfl) :
    PS X (.Expr (.Call (.Attribute (.Name x p0) "insert" apos) [e, e2] [] cpos) pos) (liftS X.K Z m (dIns i wi we)) :=
  PS.of (ps_expr (pe_bm PySem.F.plainAttrs_list PySem.F.slot_list_insert PySem.F.type_list_insert mt_insert (pe_var hN hv hd hcd) (pa_cons hi (pa_cons he pa_nil h6) h4) h1 h2 h3 h4 h5) hs) fun D σ H ⟨g, F, env, P, k, w, q⟩ => by
    unfold dIns at w
    split at w
    · rename_i p' xs' ex
      obtain ⟨a0, us0, b1, _, b3, _⟩ := k.cel i p' xs' ex
      refine ⟨_, b1, .inl ⟨rfl, us0, SqL.of b3⟩, g, F, env, _, k, w, fun y env1 v F1 H1 p1 e1 k1 r1 => ⟨g, F1, env1, _, k1, p1, fun d env2 v2 F2 H2 p2 e2 k2 r2 => ?_⟩⟩
      split at p2
      · rename_i p3 xs ex2
        obtain ⟨a1, us1, c1, c2, c3, c4, _⟩ := k2.cel i p3 xs ex2
        rw [b1] at c1
        cases c1
        unfold insQ at p2
        split at p2
        · rename_i n
          cases r1.inv_int
          obtain ⟨⟨z1, z2, z3⟩, p2⟩ := p2
          exact ⟨a0, us1, n, v2, rfl, rfl, c3, by rw [c4.length]; exact Evl.sz_lt z1, z2, by omega, q.nx _ σ F2 _ p2 (e1.trans e2) (k2.write ex2 b1 (((c4.takeN n.toNat).append (.one r2)).append (c4.dropN n.toNat)))⟩
        · exact p2.elim
      · exact p2.elim
    · exact w.elim
end
end DL

namespace DL
variable {T : List (PySem.Addr × PySem.Str)} {Z : Zx T}
open PySem PySem.Spec PyProof.Rows L2 PySem.W
open Evl (Ex)
section
variable {P : Program} {w : World} {A : Around} {E : Value → Shared → Prop} {s : Shared} {a : Addr}
end
section
variable {X : Cx}
variable {a : Expr} {wa : DE} {p p2 pos pos2 : Pos}
end
end DL

namespace DL
variable {T : List (PySem.Addr × PySem.Str)} {Z : Zx T}
open PySem PySem.Spec PyProof.Rows L2 PySem.W
open Evl (Ex)
section
variable {X : Cx} {a b c : Expr} {was : DA} {m : Nat} {pos : Pos}
end
end DL

namespace DL
variable {T : List (PySem.Addr × PySem.Str)} {Z : Zx T}
open PySem PySem.Spec PyProof.Rows L2 PySem.W
open Evl (Ex)
inductive Kx where
  | it
  | ix (b : Kx) (i : Nat)
  | hd (b : Kx) (n : Nat)
  | two (a b : Kx)
def Kx.val : Kx → PyData → Option PyData
  | .it, d => some d
  | .ix b i, d => match b.val d with
    | some (.tuple ds) => ds[i]?
    | _ => none
  | .hd b n, d => match b.val d with
    | some (.tuple ds) => if ds.length ≤ 1000 then some (.tuple (ds.take n)) else none
    | _ => none
  | .two a b, d => match a.val d, b.val d with
    | some x, some y => some (.tuple [x, y])
    | _, _ => none
inductive KbE (x : Str) : Expr → Kx → Prop
  | it {p : Pos} : KbE x (.Name x p) .it
  | ix {e : Expr} {b : Kx} {i j : Nat} {p pos : Pos} : KbE x e b → i < 1000 → KbE x (.Subscript e (.Constant (.int (i : Int)) j p) pos) (.ix b i)
  | hd {e : Expr} {b : Kx} {n j : Nat} {p p2 pos : Pos} : KbE x e b → n < 1000 → KbE x (.Subscript e (.Slice none (some (.Constant (.int (n : Int)) j p)) none p2) pos) (.hd b n)
  | two {e f : Expr} {a b : Kx} {x1} {pos : Pos} : KbE x e a → KbE x f b → (∀ env, backTo pos (starEach [e, f] env) = [(false, eval e env), (false, eval f env)]) → KbE x (.Tuple [e, f] x1 pos) (.two a b)
/-- all is kept, the value reads as d -/
def KpR (d : PyData) (s : Shared) (v : Value) (s' : Shared) : Prop := ∃ h' tk, s' = { s with heap := h', toks := tk } ∧ (∀ b o, s.heap.get? b = some o → h'.get? b = some o) ∧ ∃ as, Reads h' v d as
theorem KpR.trans {d : PyData} {s s' s'' : Shared} {v : Value} (k : ∃ h' tk, s' = { s with heap := h', toks := tk } ∧ (∀ b o, s.heap.get? b = some o → h'.get? b = some o)) (r : KpR d s' v s'') : KpR d s v s'' := by
  obtain ⟨h', tk, rfl, k⟩ := k
  obtain ⟨h2, tk2, rfl, k2, r⟩ := r
  exact ⟨h2, tk2, rfl, fun b o e => k2 b o (k b o e), r⟩
theorem KpR.kp {d : PyData} {s s' : Shared} {v : Value} (r : KpR d s v s') : ∃ h' tk, s' = { s with heap := h', toks := tk } ∧ (∀ b o, s.heap.get? b = some o → h'.get? b = some o) := by
  obtain ⟨h2, tk2, rfl, k2, r⟩ := r
  exact ⟨h2, tk2, rfl, k2⟩
theorem reads_tup {h : Heap} {v : Value} {ds : List PyData} {as : List Addr} (r : Reads h v (.tuple ds) as) : ∃ (a : Addr) (vs : List Value) (as' : List Addr), v = .ref a ∧ IsTup h a vs.toArray ∧ ReadsAll h vs ds as' := by
  cases r with
  | tuple h1 h2 h3 h4 => exact ⟨_, _, _, rfl, ⟨_, h1, h2, _, by rw [h3]⟩, h4⟩
theorem readsAll_get {h : Heap} : ∀ {vs : List Value} {ds : List PyData} {as : List Addr} {i : Nat} {d : PyData}, ReadsAll h vs ds as → ds[i]? = some d → ∃ v bs, vs[i]? = some v ∧ Reads h v d bs
  | _, _, _, _, _, .nil, e => by simp at e
  | _, _, _, 0, _, .cons r _, e => by simp at e; subst e; exact ⟨_, _, rfl, r⟩
  | _, _, _, i + 1, _, .cons _ r, e => by
    obtain ⟨v, bs, h1, h2⟩ := readsAll_get (i := i) r (by simpa using e)
    exact ⟨v, bs, by simpa using h1, h2⟩
theorem readsAll_take {h : Heap} : ∀ {vs : List Value} {ds : List PyData} {as : List Addr} (n : Nat), ReadsAll h vs ds as → ∃ bs, ReadsAll h (vs.take n) (ds.take n) bs
  | _, _, _, 0, _ => ⟨_, .nil⟩
  | _, _, _, _ + 1, .nil => ⟨_, .nil⟩
  | _, _, _, n + 1, .cons r t => by
    obtain ⟨bs, z⟩ := readsAll_take n t
    exact ⟨_, .cons r z⟩
theorem readsAll_len {h : Heap} : ∀ {vs : List Value} {ds : List PyData} {as : List Addr}, ReadsAll h vs ds as → vs.length = ds.length
  | _, _, _, .nil => rfl
  | _, _, _, .cons _ t => congrArg (· + 1) (readsAll_len t)
section
variable {P : Program} {w : World} {A : Around} {env : Env} {x : Str} {v : Value} {m : Str → Option Value}
theorem kb_run (hk : env.scope.kind = .function) (hx : env.kindOf x = some .local) (hm : m x = some v) (hd : (x == ("__debug__" : Str)) = false) {e : Expr} {kb : Kx} (h : KbE x e kb) :
    ∀ {d d' : PyData} {as : List Addr} {s : Shared}, kb.val d = some d' → s.heap.Ns env.locals m → Reads s.heap v d as → wpAny (model P w) A (eval e env) (KpR d' s) (fun _ _ => False) s := by
  induction h with
  | it =>
    intro d d' as s hv hn r
    cases hv
    exact wpAny_Name (wpAny_loadName_local hk hx hn hm ⟨s.heap, s.toks, rfl, fun _ _ e => e, as, r⟩) hd
  | @ix e b i j p pos he hi ih =>
    intro d d' as s hv hn r
    unfold Kx.val at hv
    split at hv
    · rename_i ds hb
      refine Subscript_ (wpAny_mono (ih hb hn r) (fun u s1 q => ?_) fun _ _ q => q)
      have kp := q.kp
      obtain ⟨h1, tk1, rfl, k1, as1, r1⟩ := q
      obtain ⟨a, vs, as', rfl, ht, ra⟩ := reads_tup r1
      obtain ⟨y, bs, hy, ry⟩ := readsAll_get ra hv
      have hl : i < vs.length := (List.getElem?_eq_some_iff.mp hy).1
      refine wpAny_Constant_int ?_
      refine subscriptTail_builtinR (x := y) ht.typeIs slot_tuple_getitem.lookup (getItem_tuple (s := { s with heap := h1, toks := tk1 + 1 }) (j := i) ht (by omega) (by omega) ?_ (by simpa using hy) ⟨rfl, h1, tk1 + 1, rfl, k1, bs, ry⟩) (by with_unfolding_all rfl)
      have := seqIndex_of (k := (i : Int)) (n := vs.toArray.size) (by omega) (by rw [List.size_toArray]; omega)
      simpa using this
    · cases hv
  | @hd e b n j p p2 pos he hi ih =>
    intro d d' as s hv hn r
    unfold Kx.val at hv
    split at hv
    · rename_i ds hb
      split at hv
      · rename_i hz
        cases hv
        refine Subscript_ (wpAny_mono (ih hb hn r) (fun u s1 q => ?_) fun _ _ q => q)
        obtain ⟨h1, tk1, rfl, k1, as1, r1⟩ := q
        obtain ⟨a, vs, as', rfl, ht, ra⟩ := reads_tup r1
        have hl := readsAll_len ra
        refine wpAny_Slice (wpAny_pure (wpAny_Constant_int (k := j) (pos := p) (wpAny_pure ?_)))
        have kp : ∀ b o, h1.get? b = some o → (h1.push { cls := .type "slice", data := .fields #[.none, .int (n : Int) tk1, .none] }).get? b = some o := fun b o e => Heap.get?_push_of_some _ e
        have ht2 := ht.keeps kp
        have hs : (h1.push { cls := .type "slice", data := .fields #[.none, .int (n : Int) tk1, .none] }).IsSliceOf h1.objs.size .none (.int (n : Int) tk1) .none := Heap.IsSliceOf.new ..
        obtain ⟨bs, rt⟩ := readsAll_take n ra
        have hsx : HT.sIx vs.toArray.size vs.toArray.size (some (n : Int)) = min n vs.length := by rw [HT.sIx_nat, List.size_toArray]
        refine tail_any (ops := [.ref h1.objs.size, .ref a]) ht2.typeIs slot_tuple_getitem.lookup ?_ (by with_unfolding_all rfl)
        by_cases hw : HT.sIx vs.toArray.size 0 none = 0 ∧ HT.sIx vs.toArray.size vs.toArray.size (some (n : Int)) = vs.toArray.size
        · refine getItem_tuple_whole ht2 hs .none (.int _ _) hw ⟨_, tk1 + 1, rfl, fun b o e => kp b o (k1 b o e), as', ?_⟩
          have h2 := hw.2
          rw [hsx, List.size_toArray] at h2
          obtain ⟨o, e1, e2, c, e3⟩ := ht2
          rw [List.take_of_length_le (by omega)]
          exact .tuple e1 e2 e3 (by simpa using PyProof.Rows.ReadsAll.keeps kp ra)
        · refine HT.getItem_tuple_cut ht2 hs .none (.int _ _) hw ⟨_, tk1 + 1, rfl, fun b o e => Heap.get?_push_of_some _ (kp b o (k1 b o e)), bs, ?_⟩ (by rw [List.size_toArray, sizeLine_eq]; omega)
          rw [hsx]
          refine .tuple (Heap.get?_push_size _ rfl) rfl rfl ?_
          have e : ((vs.toArray.toList.drop (HT.sIx vs.toArray.size 0 none)).take (min n vs.length - HT.sIx vs.toArray.size 0 none)).toArray.toList = vs.take n := by
            show (((vs.drop 0).take (min n vs.length - 0)).toArray.toList) = vs.take n
            rw [List.drop_zero, Nat.sub_zero]
            simp [List.take_eq_take_iff]
          rw [e]
          exact PyProof.Rows.ReadsAll.keeps (fun b o q => Heap.get?_push_of_some _ (kp b o q)) rt
      · cases hv
    · cases hv
  | @two e f a b x1 pos h1 h2 hb ih1 ih2 =>
    intro d d' as s hv hn r
    unfold Kx.val at hv
    split at hv
    · rename_i y1 y2 e1 e2
      cases hv
      refine wpAny_Tuple_spliced ?_
      rw [hb]
      refine Calls.spliced_cons (wpAny_mono (ih1 e1 hn r) (fun u1 s1 q1 => ?_) fun _ _ q => q)
      obtain ⟨g1, t1, rfl, k1, as1, r1⟩ := q1
      refine Calls.spliced_cons (wpAny_mono (ih2 e2 (hn.keeps k1) (PyProof.Rows.Reads.keeps k1 r)) (fun u2 s2 q2 => ?_) fun _ _ q => q)
      obtain ⟨g2, t2, rfl, k2, as2, r2⟩ := q2
      refine Calls.spliced_nil ⟨by show 2 ≤ sizeLine; rw [sizeLine_eq]; omega, _, t2, rfl, fun b o e => Heap.get?_push_of_some _ (k2 b o (k1 b o e)), as1 ++ (as2 ++ []), .tuple (Heap.get?_push_size _ rfl) rfl rfl ?_⟩
      have k3 : ∀ b o, g2.get? b = some o → (g2.push { cls := .type "tuple", data := .seq #[u1, u2] }).get? b = some o := fun b o e => Heap.get?_push_of_some _ e
      exact .cons (PyProof.Rows.Reads.keeps (fun b o e => k3 b o (k2 b o e)) r1) (.cons (PyProof.Rows.Reads.keeps k3 r2) .nil)
    · cases hv
end
end DL

namespace DL
variable {T : List (PySem.Addr × PySem.Str)} {Z : Zx T}
open PySem PySem.Spec PyProof.Rows L2 PySem.W
open Evl (Ex)
section
variable {X : Cx} {pins : List (Addr × Obj)} {σ : L2.St} {H : Hp} {s : Shared}
/-- what the making of a lambda does to the abstract heap -/
structure Grown (T : List (Addr × Str)) (H H1 : Hp) : Prop where
  sty : ∀ b o, H b = some o → Sty o (H1 b)
  tab : LamX.Tabs T H1
theorem lam_make3 {c P : Addr} {params : Arguments} {body : Expr} {scope : Scope} {pos : Pos} {E : Value → Shared → Prop} {Q : Value → Shared → Prop} (I : Inv X pins σ H s) (TB : LamX.TabB X.base X.mg c P) (hcode : X.env.code = .ref c)
    (hm : (P, X.env.qual ++ "<lambda>") ∈ T) (hu : ∀ p ∈ T, p.1 = P → p.2 = X.env.qual ++ "<lambda>") (hT : LamX.Tabs T H) (hdef : defaultsOf params X.env = ([], [])) (hcl : closureFor scope X.env = pure [])
    (h : ∀ (f c' : Addr) (pm ctv : Value) (H1 : Hp) (s' : Shared), Inv X pins σ H1 s' → Grown T H H1 →
      s'.heap.get? f = some (kla_obj "<lambda>" (X.env.qual ++ "<lambda>") params body scope [] pm c' ctv) → s'.heap.CodeRec (.ref c') (X.env.qual ++ "<lambda>") → Q (.ref f) s') :
    wpAny (model X.prog X.w) X.A (eval (.Lambda params body scope pos) X.env) Q E s := by
  obtain ⟨ps, hP, ht, ha⟩ := hT _ hm
  have bP : s.heap.BuiltinsAt X.mg P := TB.bm.keeps I.bk
  have oP : s.heap.get? P = some { cls := .none, data := .fields ps } := I.hok P _ hP
  refine kla_eval hdef ?_
  cases hc : codeAmong pos ps.toList with
  | some cv =>
    obtain ⟨c', rfl, hco⟩ := ha pos cv hc
    obtain ⟨⟨oc, vs, t, o1, o2, o3⟩, _, _⟩ := I.hok c' _ hco
    refine kla_makeFunctionHit (mg := X.mg) (c := c) (P := P) (ps := ps) hcl I.ok.glob (I.mod.glob.keeps I.bk) hcode (TB.code.keeps I.bk) oP ht hc bP fun ctv h' tk hx hsz => ?_
    refine h h'.objs.size c' ((X.mg "__name__").getD .none) ctv H _ (I.kept (t' := tk) fun b o e => Heap.get?_push_of_some _ (hx b o e)) ⟨fun b o e => .inl e, hT⟩ (Heap.get?_push_size _ rfl) ⟨c', oc, vs, t, rfl, Heap.get?_push_of_some _ (hx _ _ o1), o2, o3⟩
  | none =>
    refine kla_makeFunction (mg := X.mg) (c := c) (P := P) (ps := ps) hcl I.ok.glob (I.mod.glob.keeps I.bk) hcode (TB.code.keeps I.bk) oP ht hc TB.gP bP fun c' ctv h' tk hx hge hlt hrec htb => ?_
    obtain ⟨c2, oc, vs, t, e2, o1, o2, o3⟩ := hrec
    cases e2
    have nC : H c' = none := I.hok.fresh hge
    obtain ⟨ob, hob⟩ : ∃ ob, kla_obj "<lambda>" (X.env.qual ++ "<lambda>") params body scope [] ((X.mg "__name__").getD .none) c' ctv = ob := ⟨_, rfl⟩
    have old : ∀ b o, h'.get? b = some o → (h'.push ob).get? b = some o := fun b o e => Heap.get?_push_of_some _ e
    have J := LamX.inv_table (t' := tk) (more := #[rawInt pos.line, rawInt pos.col, .ref c']) (h' := h'.push ob) I hP (fun b o hb e => old _ _ (hx b o hb e)) (old _ _ htb) hge ⟨oc, vs, t, old _ _ o1, o2, o3⟩
    refine h h'.objs.size c' ((X.mg "__name__").getD .none) ctv _ _ (by rw [hob]; exact J) ⟨fun b o e => ?_, fun p hp => ?_⟩ (Heap.get?_push_size _ rfl) ⟨c', oc, vs, t, rfl, by rw [hob]; exact old _ _ o1, o2, o3⟩
    · have nb := ne_of_none e nC
      by_cases z : b = P
      · subst z
        rw [hP] at e
        cases e
        exact .inr ⟨ps, _, rfl, by rw [upd_ne nb, upd_same]⟩
      · exact .inl (by rw [upd_ne nb, upd_ne z]; exact e)
    · have cod : ∀ {c0 : Addr} {q : Str}, H c0 = some (LamX.CodeO c0 q) → upd (upd H P (.tbl (ps ++ #[rawInt pos.line, rawInt pos.col, .ref c']))) c' (LamX.CodeO c' (X.env.qual ++ "<lambda>")) c0 = some (LamX.CodeO c0 q) := fun {c0 q} e => by
        rw [upd_ne (ne_of_none e nC), upd_ne fun z => by rw [z, hP] at e; exact LamX.codeO_ne ps (Option.some.inj e).symm]
        exact e
      by_cases hb : p.1 = P
      · rw [hu p hp hb, hb]
        refine ⟨ps ++ #[rawInt pos.line, rawInt pos.col, .ref c'], by rw [upd_ne (ne_of_none hP nC), upd_same], ?_, fun p' cv hcv => ?_⟩
        · rw [Array.toList_append]
          exact TriplesOk_snoc _ _ _ _ ht
        · rw [Array.toList_append] at hcv
          rcases LamX.among_app _ ht hcv with z | z
          · obtain ⟨c0, e1, e2⟩ := ha p' cv z
            exact ⟨c0, e1, cod e2⟩
          · exact ⟨c', z, upd_same⟩
      · obtain ⟨ps', a1, a2, a3⟩ := hT p hp
        refine ⟨ps', by rw [upd_ne (ne_of_none a1 nC), upd_ne hb]; exact a1, a2, fun p' cv hcv => ?_⟩
        obtain ⟨c0, e1, e2⟩ := a3 p' cv hcv
        exact ⟨c0, e1, cod e2⟩
end
section
variable {K : PySem.W.Frag} {g : Gx Z} {F F' : Hp} {env : List SD} {σ : L2.St} {H H1 : Hp}
theorem Ok.grown (k : Ok K g F env σ H) (e : Grown T H H1) : Ok K g F env σ H1 where
  len := k.len
  fh := fun a o q => (e.sty a o (k.fh a o q)).same fun ps z => k.oldF.2 a ps (by rw [q, z])
  dat := k.dat
  cel := fun i p xs q => by
    obtain ⟨a, vs, h1, h2, h3, h4, h5⟩ := k.cel i p xs q
    exact ⟨a, vs, h1, h2, (e.sty _ _ h3).lst, h4, h5⟩
  sep := k.sep
  pin := k.pin
  frame := ⟨fun a o q n => (k.frame.stay a o q n).trans fun u hu => e.sty a u hu, e.tab⟩
  newF := k.newF
  oldF := k.oldF
  prot := fun a o q => by
    obtain ⟨h1, h2, h3⟩ := k.prot a o q
    exact ⟨(e.sty _ _ h1).same (g.pl a o q), h2, h3⟩
  dic := k.dic.keep (Ex.refl F) (fun _ _ _ z => z) fun a xs h n => ⟨n, (e.sty _ _ h).ext.trans h.symm⟩
theorem ResOk.grown {v : V} {r : SD} (k : Ok K g F env σ H) (e : Grown T H H1) (h : ResOk K g F env σ H v r) : ResOk K g F env σ H1 v r := by
  cases r with
  | un => exact h
  | dat d => exact h
  | dic kvs => exact h
  | cel b xs =>
    obtain ⟨a, us, h1, h2, h3, h4, h5, h6⟩ := h
    exact ⟨a, us, h1, h2, (e.sty _ _ h3).lst, h4, h5, h6⟩
end
end DL

namespace DL
variable {T : List (PySem.Addr × PySem.Str)} {Z : Zx T}
open PySem PySem.Spec PyProof.Rows L2 PySem.W
open Evl (Ex)
/-- the scope of a lambda of the one parameter x -/
structure LamK (scope : Scope) (x : Str) : Prop where
  kind : scope.kind = .function
  co : scope.isCoroutine = false
  gen : scope.isGenerator = false
  loc : scope.names.lookup x = some .local
  nocell : ∀ y ∈ scope.names, y.2 ≠ .cell
section
variable {P : Program} {w : World} {A : Around} {s : Shared}
theorem lam_turn {f c' : Addr} {x q : Str} {params : Arguments} {body : Expr} {scope : Scope} {pm ctv : Value} {kb : Kx} {v : Value} {d d' : PyData} {as : List Addr} (L : LamK scope x)
    (hf : s.heap.get? f = some (kla_obj "<lambda>" q params body scope [] pm c' ctv)) (hcd : s.heap.CodeRec (.ref c') q) (hroom : A.depth < recursionLimit) (lim : s.heap.NoLimit)
    (hbind : bindArgs (kla_fn "<lambda>" q params body scope [] pm (.ref c') ctv) ⟨[v], []⟩ = pure [(x, v)]) (hb : KbE x body kb) (hv : kb.val d = some d') (r : Reads s.heap v d as) (hdb : (x == ("__debug__" : Str)) = false) :
    wpAny (model P w) A (call (.ref f) [v]) (KpR d' s) (fun _ _ => False) s := by
  refine wpAny_call (kla_callFunE hroom hf rfl L.co L.gen rfl hcd ?_)
  rw [hbind]
  refine wpAny_pure (wpAny_newFunctionEnv L.nocell (fun y hy => ?_) (fun h₁ hns hsb => ⟨lim.fresh _ hsb, ?_⟩) L.kind)
  · simp at hy
    subst hy
    exact L.loc
  show codeAny _ _ (.expr body (envX q scope s.heap.objs.size f (.ref c') [])) _ _
  have kp : ∀ b o, s.heap.get? b = some o → h₁.get? b = some o := fun b o e => hsb.extBut b o (Nat.ne_of_lt (Heap.lt_size e)) (Heap.get?_push_of_some _ e)
  refine kla_codeExpr (wpAny_mono (kb_run (x := x) (v := v) (env := envX q scope s.heap.objs.size f (.ref c') []) (m := fun y => [(x, v)].reverse.lookup y) (s := { s with heap := h₁, toks := s.toks + [(x, v)].length }) L.kind L.loc (by simp) hdb hb hv hns (PyProof.Rows.Reads.keeps kp r)) (fun u s' z => ?_) fun _ _ z => z.elim)
  exact z.trans ⟨h₁, s.toks + [(x, v)].length, rfl, kp⟩
end
mutual
def flatD : PyData → Bool
  | .none => true
  | .bool _ => true
  | .int _ => true
  | .str _ => true
  | .tuple ds => flatAll ds
  | _ => false
def flatAll : List PyData → Bool
  | [] => true
  | d :: ds => flatD d && flatAll ds
end
mutual
theorem reads_flat {h : Heap} : ∀ {d : PyData} {v : Value} {as : List Addr}, flatD d = true → Reads h v d as → as = []
  | .none, _, _, _, .none => rfl
  | .bool _, _, _, _, .bool _ => rfl
  | .int _, _, _, _, .int _ _ => rfl
  | .str _, _, _, _, .str _ _ => rfl
  | .tuple ds, _, _, hd, .tuple _ _ _ h4 => readsAll_flat (show flatAll ds = true by unfold flatD at hd; exact hd) h4
  | .list _, _, _, hd, _ => by unfold flatD at hd; cases hd
theorem readsAll_flat {h : Heap} : ∀ {ds : List PyData} {vs : List Value} {as : List Addr}, flatAll ds = true → ReadsAll h vs ds as → as = []
  | [], _, _, _, .nil => rfl
  | d :: ds, _, _, hd, .cons r t => by
    unfold flatAll at hd
    obtain ⟨h1, h2⟩ := Bool.and_eq_true_iff.mp hd
    rw [reads_flat h1 r, readsAll_flat h2 t]
    rfl
end
section
variable {prog : Program} {w : World} {A : Around} {E : Value → Shared → Prop} {s : Shared}
/-- sorted(t, ..), t a tuple, is list.sort(..) of a new list -/
theorem sorted_of_sortT {l : Addr} {vs : List Value} {kw : List (Str × Value)} {Q : Value → Shared → Prop} (hl : s.heap.IsTuple l vs.toArray) (hL : vs.length ≤ sizeLine) (ha1 : argsOk "sorted" ⟨[.ref l], kw⟩) (ha2 : ∀ x, argsOk "list.sort" ⟨[.ref x], kw⟩)
    (body : ∀ E' : Value → Shared → Prop, wpAny (model prog w) A.in1.in1 (Builtin.«list.sort» ⟨[.ref (s.heap.objs.size + 1)], kw⟩) (fun f s' => f = .done (.ret .none) ∧ Q (.ref (s.heap.objs.size + 1)) s') E' { s with heap := copyHeap s.heap vs }) :
    wpAny (model prog w) A (call (.builtin "sorted") [.ref l] kw) Q E s := by
  refine call_function_entry_kw kind_sorted plain_sorted entry_sorted ha1 ?_
  unfold Builtin.«sorted»
  refine wpAny_bind (m := checkCount "sorted" 1 1 _) (wpAny_pure ?_)
  refine wpAny_bind (tuple_collect hl ?_ hL)
  refine wpAny_bind (wpAny_newList ?_ hL)
  have hsz : ((s.heap.push (seqObj "list" #[] 0)).update s.heap.objs.size (Obj.mapSeq (· ++ vs.toArray))).objs.size = s.heap.objs.size + 1 := by
    rw [Heap.size_update, size_push']
  show wpAny _ _ _ _ _ { s with heap := copyHeap s.heap vs }
  rw [hsz]
  refine wpAny_bind (wpAny_holding (wpAny_call_entry_kw slot_list_sort ⟨_, copyHeap_at s.heap vs, rfl⟩ entry_list_sort ?body (ha2 _)))
  case body =>
    show wpAny (model prog w) A.in1.in1 (Builtin.«list.sort» ⟨[.ref (s.heap.objs.size + 1)], kw⟩) _ _ _
    refine wpAny_mono (body _) (fun f s' hf => ?_) fun _ _ e => e
    obtain ⟨rfl, hq⟩ := hf
    exact ⟨_, rfl, wpAny_pure ⟨_, rfl, hq⟩⟩
/-- sorted(x, key=f), x a list or a tuple -/
theorem sortedK_any {β : Type} {bs : List β} {R : Value → β → Prop} {l f : Addr} {vs : List Value} {Q : Value → Shared → Prop} (k : β → PyData) (hl : s.heap.IsList l vs.toArray ∨ s.heap.IsTuple l vs.toArray) (e : EachIs R vs bs) (hal : AllAlike (bs.map k)) (hk : Sortable (bs.map k)) (hL : bs.length ≤ sizeLine)
    (hu : ∀ x, x ∈ bs → A.units + 2 + (k x).depth < cLine)
    (turn : ∀ (v : Value) (x : β), R v x → x ∈ bs → ∀ (h : Heap) (tk : Nat), (∀ b o, s.heap.get? b = some o → h.get? b = some o) →
      wpAny (model prog w) A.in1.in1 (call (.ref f) [v]) (KeyPure (k x) { s with heap := h, toks := tk }) (fun _ _ => False) { s with heap := h, toks := tk })
    (h : ∀ out c h' tk, (∀ b o, s.heap.get? b = some o → h'.get? b = some o) → s.heap.get? (s.heap.objs.size + 1) = none → h'.get? (s.heap.objs.size + 1) = some (seqObj "list" (List.toArray out) c) → out.length = bs.length → EachIs R out (bs.mergeSort (dataLe false k)) →
      Q (.ref (s.heap.objs.size + 1)) { s with heap := h', toks := tk }) :
    wpAny (model prog w) A (call (.builtin "sorted") [.ref l] [(Str.ofString "key", .ref f)]) Q E s := by
  rcases hl with hl | hl
  · exact sorted_key_data (b := false) k hl e hal hk hL hu (ksk_s1 _ _) (fun _ => ksk_l1 _ _) (fun _ => ksk_t1 _ _) turn h
  · have fresh : s.heap.get? (s.heap.objs.size + 1) = none := Heap.get?_none_of_le (Nat.le_succ _)
    have up : ∀ {g : Heap}, KeepsBut (s.heap.objs.size + 1) (copyHeap s.heap vs) g → ∀ b o, s.heap.get? b = some o → g.get? b = some o := fun {g} kp b o q =>
      kp b o (Nat.ne_of_lt (Nat.lt_succ_of_lt (Heap.lt_size q))) (copyHeap_old q)
    refine sorted_of_sortT hl (by rw [e.length]; exact hL) (ksk_s1 _ _) (fun _ => ksk_l1 _ _) fun E' => ?_
    rw [ksk_t1]
    refine keyH_tree (kz := bs.map k) (s := { s with heap := copyHeap s.heap vs }) (copyHeap_at s.heap vs) (by rw [List.length_map]; exact e.length.symm) (by rw [e.length]; exact hL) hal hk (bound_map (A := A.in1.in1) hu)
      (keyH_turns (s := { s with heap := copyHeap s.heap vs }) e fun v x hR hx h tk kp => turn v x hR hx h tk (up kp)) fun h' tk out c kp hD ko => ⟨rfl, ?_⟩
    exact h out c h' tk (up kp) fresh hD ((ko.length (by rw [List.length_map]; exact e.length.symm)).trans e.length) (keyedOut_each k ko e)
end
end DL

namespace DL
variable {T : List (PySem.Addr × PySem.Str)} {Z : Zx T}
open PySem PySem.Spec PyProof.Rows L2 PySem.W
open Evl (Ex)
def keyOf (kb : Kx) (d : PyData) : PyData := (kb.val d).getD .none
def sortKD (kb : Kx) (ds : List PyData) : List PyData := ds.mergeSort (dataLe false (keyOf kb))
def sortKOk (kb : Kx) (ds : List PyData) : Prop := (∀ d ∈ ds, ∃ k, kb.val d = some k ∧ flatD k = true ∧ k.depth ≤ 60) ∧ AllAlike (ds.map (keyOf kb)) ∧ Sortable (ds.map (keyOf kb)) ∧ PyData.hasDictAll ds = false
def sortedKQ (kb : Kx) (d : PyData) (K : List PyData → Prop) : Prop := match d with
  | .list ds => sortKOk kb ds ∧ K (sortKD kb ds)
  | .tuple ds => sortKOk kb ds ∧ K (sortKD kb ds)
  | _ => False
theorem q_sortedKL {kb : Kx} {ds : List PyData} {K : List PyData → Prop} : sortedKQ kb (.list ds) K = (sortKOk kb ds ∧ K (sortKD kb ds)) := rfl
abbrev dSortedK (kb : Kx) (wa : DE) (env : List SD) (P : SD → List SD → Prop) : Prop := wa env fun d env1 => sortedKQ kb d fun xs => P (.cel false xs) env1
theorem sortKD_perm (kb : Kx) (ds : List PyData) : (sortKD kb ds).Perm ds := List.mergeSort_perm _ _
/-- where a def makes its lambdas -/
def LamC (base : Heap) (mg : Str → Option Value) (T : List (Addr × Str)) (cdv : Value) (q : Str) : Prop :=
  ∃ c P, cdv = .ref c ∧ LamX.TabB base mg c P ∧ (P, q ++ "<lambda>") ∈ T ∧ ∀ p ∈ T, p.1 = P → p.2 = q ++ "<lambda>"
section
variable {X : Cx} {pins : List (Addr × Obj)} {σ : L2.St} {H : Hp} {s : Shared}
/-- the call of sorted, the key's object known -/
theorem sortK_call {f c' l : Addr} {x q : Str} {params : Arguments} {body : Expr} {scope : Scope} {pm ctv : Value} {kb : Kx} {us : List V} {ds : List PyData} {Q : VK} {k : Nat} (hr : Room k X.A) (I : Inv X pins σ H s) (L : LamK scope x)
    (hf : s.heap.get? f = some (kla_obj "<lambda>" q params body scope [] pm c' ctv)) (hcd : s.heap.CodeRec (.ref c') q)
    (hbind : ∀ v, bindArgs (kla_fn "<lambda>" q params body scope [] pm (.ref c') ctv) ⟨[v], []⟩ = pure [(x, v)]) (hb : KbE x body kb) (hdb : (x == ("__debug__" : Str)) = false)
    (hs : SqL X.K H l us ∨ SqT X.K H l us) (hd : DpAll X.K H us ds) (ok : sortKOk kb ds)
    (h : ∀ (zs : List (V × PyData)) (p : Addr), zs = (us.zip ds).mergeSort (dataLe false fun p => keyOf kb p.2) → H p = none → Q (.ref p) (upd H p (.lst (zs.map Prod.fst)))) :
    wpAny (model X.prog X.w) X.A (call (.builtin "sorted") [.ref l] [(Str.ofString "key", .ref f)]) (EP X pins σ Q) X.xe s := by
  obtain ⟨o1, o2, o3, o4⟩ := ok
  obtain ⟨its, rv, pl, hz⟩ : ∃ its, Vals us its ∧ (s.heap.IsList l its.toArray ∨ s.heap.IsTuple l its.toArray) ∧ us.length ≤ sizeLine := by
    rcases hs with hs | hs
    · obtain ⟨its, rv, pl, hz⟩ := I.list hs
      exact ⟨its, rv, .inl pl.isList, hz⟩
    · obtain ⟨its, rv, pl, hz⟩ := I.tuple hs
      exact ⟨its, rv, .inr pl, hz⟩
  obtain ⟨as, h4⟩ := Dp.readsAll I ds _ its hd rv
  have hlen := DpAll.len hd
  have e := each_zip (R := fun _ _ => True) rv h4
  have es : (us.zip ds).map Prod.snd = ds := zip_snd hlen
  have es2 : (us.zip ds).map (fun p => keyOf kb p.2) = ds.map (keyOf kb) := by
    have z : (us.zip ds).map (fun p => keyOf kb p.2) = ((us.zip ds).map Prod.snd).map (keyOf kb) := by rw [List.map_map]; rfl
    rw [z, es]
  have lz : (us.zip ds).length = us.length := by rw [List.length_zip, hlen, Nat.min_self]
  have mem : ∀ p ∈ us.zip ds, p.2 ∈ ds := fun p hp => by rw [← es]; exact List.mem_map.mpr ⟨p, hp, rfl⟩
  refine sortedK_any (fun p : V × PyData => keyOf kb p.2) pl e (by rw [es2]; exact o2) (by rw [es2]; exact o3) (by rw [lz]; exact hz) (fun p hp => ?_) (fun v p ⟨r1, as', r2⟩ hp g tk kp => ?_) fun out c g tk kp hn hD hol ho => ?_
  · obtain ⟨k0, k1, k2, k3⟩ := o1 _ (mem p hp)
    have := hr.u65
    have e : keyOf kb p.2 = k0 := by unfold keyOf; rw [k1]; rfl
    show X.A.units + 2 + (keyOf kb p.2).depth < cLine
    rw [e]
    omega
  · obtain ⟨k0, k1, k2, k3⟩ := o1 _ (mem p hp)
    have e : keyOf kb p.2 = k0 := by unfold keyOf; rw [k1]; rfl
    show wpAny _ _ _ (KeyPure (keyOf kb p.2) _) _ _
    rw [e]
    refine wpAny_mono (lam_turn (s := { s with heap := g, toks := tk }) L (kp _ _ hf) (hcd.keeps kp) hr.depth (I.nolimit.keeps kp) (hbind v) hb k1 (PyProof.Rows.Reads.keeps kp r2) hdb) (fun u s' ⟨h2, tk2, e2, k4, as2, r4⟩ => ⟨h2, tk2, e2, k4, ?_⟩) fun _ _ z => z
    rw [reads_flat k2 r4] at r4
    exact r4
  · refine ⟨.ref (s.heap.objs.size + 1), upd H (s.heap.objs.size + 1) (.lst (((us.zip ds).mergeSort (dataLe false fun p => keyOf kb p.2)).map Prod.fst)), I.laid (t' := tk) (fun b u hb => kp b u hb) (Nat.le_succ _) ⟨?_, out, c, vals_each (R := fun _ _ => True) (ho.mono fun _ _ z => z.1), hD⟩, rfl, h _ _ rfl (I.hok.fresh (Nat.le_succ _))⟩
    rw [List.length_map, List.length_mergeSort, lz]
    exact hz
theorem sortK_em {kb : Kx} {us : List V} {ds : List PyData} (hl : us.length = ds.length) : ((us.zip ds).mergeSort (dataLe false fun p => keyOf kb p.2)).map Prod.snd = sortKD kb ds := by
  have := sort_maps (r := dataLe false (fun p : V × PyData => keyOf kb p.2)) (s := dataLe false (keyOf kb)) Prod.snd (l := us.zip ds) (fun _ _ _ _ => rfl)
  rw [this, zip_snd hl]
  rfl
end
section
variable {X : Cx} {a : Expr} {wa : DE} {p pos lpos kpos : Pos} {params : Arguments} {body : Expr} {scope : Scope} {x : Str}
theorem dsortedK {k : Nat} (kb : Kx) (hr : Room k X.A) (hm : X.mg "sorted" = none) (LC : LamC X.base X.mg T X.env.code X.env.qual) (ha : PE X a (liftE X.K Z wa)) (hb : KbE x body kb) (L : LamK scope x)
    (hbind : ∀ q pm cv ctv v, bindArgs (kla_fn "<lambda>" q params body scope [] pm cv ctv) ⟨[v], []⟩ = pure [(x, v)])
    (hdef : defaultsOf params X.env = ([], []) := by rfl) (hcl : closureFor scope X.env = pure [] := by rfl) (hdb : (x == ("__debug__" : Str)) = false := by decide) (hg : Gl X "sorted" := by rfl)
    (n1 : starEach [a] X.env = (false, eval a X.env) :: starEach [] X.env := by rfl) (n2 : backTo pos (starEach [a] X.env) = (false, eval a X.env) :: backTo pos (starEach [] X.env) := by rfl) (n3 : (backTo pos (starEach [a] X.env)).any (·.1) = false := by rfl) :
    PE X (.Call (.Name "sorted" p) [a] [⟨some "key", .Lambda params body scope lpos, kpos⟩] pos) (liftX X.K Z (dSortedK kb wa)) := ⟨fun pins s σ H Q I ⟨g, F, env, P, k0, w, q⟩ => by
  obtain ⟨c, PT, hcode, TB, hmem, hu⟩ := LC
  refine wpAny_Call_Name_kw (ld_blt (u := .builtin "sorted") I hg hm (by decide +kernel) ?_ (by decide) (by decide))
  have PA1 : PA X [a] (tCons (liftE X.K Z wa) tNil) := pa_cons ha pa_nil n1
  refine PyProof.Rows.callWith_kw (thn (PA1.run pos pins s σ H (fun vs H1 => ∃ v d env1 F1, vs = [v] ∧ sortedKQ kb d (fun xs => P (.cel false xs) env1) ∧ Ex F F1 ∧ Ok X.K g F1 env1 σ H1 ∧ DR X.K F1 v d) I ?_) fun us s1 ⟨vs, H1, I1, r1, q1⟩ => ?_) n2 n3 (by rfl) (by rfl)
  · exact ⟨g, F, env, _, k0, w, fun d env1 v F1 H1 p e1 k1 r1 => ⟨v, d, env1, F1, rfl, p, e1, k1, r1⟩⟩
  · obtain ⟨v, d, env1, F1, ev, p, e1, k1, rd⟩ := q1
    subst ev
    obtain ⟨u, eu, ru⟩ := vals1 r1
    subst eu
    show wpAny _ _ (evalAll [(do let v ← eval (.Lambda params body scope lpos) X.env; standAt pos; pure v)]) _ _ s1
    refine wpAny_evalAll_cons (wpAny_bind (lam_make3 I1 TB hcode hmem hu k1.frame.tab hdef hcl fun f c' pm ctv H2 s2 I2 gr hf hcd => wpAny_bind (wpAny_standAt (wpAny_pure (wpAny_evalAll_nil ?_)))))
    have k2 := k1.grown gr
    show wpAny _ _ (call (.builtin "sorted") [u] [(Str.ofString "key", .ref f)]) _ _ s2
    have fin : ∀ {ds : List PyData} {us : List V} (h2 : DRs X.K F1 us ds) (p : P (.cel false (sortKD kb ds)) env1) (zs : List (V × PyData)) (a2 : Addr), zs = (us.zip ds).mergeSort (dataLe false fun p => keyOf kb p.2) → H2 a2 = none → Q (.ref a2) (upd H2 a2 (.lst (zs.map Prod.fst))) := fun {ds us} h2 p zs a2 ez hp2 => by
      subst ez
      have dr := drs_of (zs := (us.zip ds).mergeSort (dataLe false fun p => keyOf kb p.2)) fun p hp => drs_zip h2 p ((List.mergeSort_perm _ _).mem_iff.mp hp)
      rw [sortK_em h2.length] at dr
      obtain ⟨k3, r3⟩ := k2.newCell hp2 dr
      exact q _ env1 _ F1 _ p e1 k3 r3
    unfold sortedKQ at p
    split at p
    · rename_i ds
      obtain ⟨ok, p⟩ := p
      obtain ⟨l, us, rfl, h1, h2⟩ := rd.inv_lst
      cases ru
      exact sortK_call hr I2 L hf hcd (fun v => hbind _ _ _ _ v) hb hdb (.inl (h1.mono k2.fh).sq) (DRs.dp (drsH k2 h2) ok.2.2.2) ok (fin h2 p)
    · rename_i ds
      obtain ⟨ok, p⟩ := p
      obtain ⟨l, us, rfl, h1, h2⟩ := rd.inv_tupZ
      cases ru
      exact sortK_call hr I2 L hf hcd (fun v => hbind _ _ _ _ v) hb hdb (.inr (h1.mono k2.fh).sq) (DRs.dp (drsH k2 h2) ok.2.2.2) ok (fin h2 p)
    · exact p.elim⟩
end
end DL

namespace DL
variable {T : List (PySem.Addr × PySem.Str)} {Z : Zx T}
open PySem PySem.Spec PyProof.Rows L2
open Evl (Ex)
/-- the defs that make lambdas, with the lambda's qualified name -/
class LamB (K : PySem.W.Frag) (base : Heap) (mg : Str → Option Value) (T : List (Addr × Str)) (lam : List (Str × Str)) : Prop where
  out : ∀ p ∈ lam, ∃ c P, PySem.W.tabIn K p.1 = some (c, P) ∧ LamX.TabB base mg c P ∧ (P, p.2) ∈ T
  uni : ∀ p ∈ T, ∀ q ∈ T, p.1 = q.1 → p.2 = q.2
theorem tabIn_code {K : PySem.W.Frag} {x : Str} {c P : Addr} {oc : Value} {od : Option Addr} {fd : FuncData} {osl : Array (Option Value)} (h : PySem.W.tabIn K x = some (c, P)) (lk : K.lookup (He.ga K x) = some ⟨oc, od, .func fd, osl⟩) : fd.code = .ref c := by
  unfold PySem.W.tabIn at h
  unfold He.ga at lk
  split at h
  · rename_i f hf
    rw [hf] at lk
    simp only [lk] at h
    split at h
    · rename_i c2 hc
      split at h
      · split at h
        · cases h
          exact hc
        · cases h
      · cases h
    · cases h
  · cases h
section
variable {P : Program} {w : World} {K : PySem.W.Frag} {mg : Str → Option Value} {base : Heap}
theorem law_dataT {mb : Str → Option Value} {k n : Nat} {fa a : Addr} {fd : FuncData} {x : Str} {s₁ : Shared} {vs : List Value} {ns : List Int} {cs : List (Addr × Addr)}
    (KX : K.In s₁.heap) (hns : s₁.heap.Ns mainGlobals mg) (hb : s₁.heap.Ns builtinsNs mb) (hbb : ∀ x : Str, x ≠ "__name__" → mb x = bootBuiltins x) (hlim : s₁.heap.NoLimit) (hgn : s₁.gens = #[])
    (hT : ∀ p ∈ cs, s₁.heap.get? p.2 = some { cls := .none, data := .fields #[] }) (nT : ∀ p ∈ cs, K.lookup p.2 = none) (C : ∀ p ∈ cs, PySem.W.CodeHd s₁.heap p.1 p.2)
    (hbm : ∃ (bm : Addr) (ob : Obj), mg "__builtins__" = some (.ref bm) ∧ bm ≠ builtinsNs ∧ s₁.heap.get? bm = some ob ∧ ob.cls = .type "module" ∧ ob.dict = some builtinsNs ∧ ob.data = .plain)
    (ha : s₁.heap.get? a = some { cls := .type "list", data := .seq vs.toArray }) (hi : IntsAre vs ns) (hn : ns.length ≤ n) (hz : n ≤ sizeLine) (hr : Room k callerA)
    (hsys : SysD s₁.heap) (hTT : ∀ q ∈ T, ∃ p ∈ cs, p.2 = q.1) (Fn : ∀ base : Heap, K.In base → base.Ns mainGlobals mg → SysD base → (∀ p ∈ cs, LamX.TabB base mg p.1 p.2) → FnG P w K mg base T k fa fd [x] (lawS n)) (hbind : ∀ (s : Shared) (u : Value), BindsTo s fd ⟨[u], []⟩ [(x, u)]) :
    codeAny (model P w) callerA (.call (.ref fa) ⟨[.ref a], []⟩) (fun r s' => r = .ok (.ret (.bool true)) ∧ OldK s₁.heap s'.heap ∧ s'.os = s₁.os ∧ AllBare s'.gens) s₁ := by
  have rv := vals_ints hi
  have lenV := hi.length
  have hl : ns.length ≤ sizeLine := Nat.le_trans hn hz
  have memT : ∀ p ∈ cs, p.2 ∈ cs.map (·.2) := fun p hp => List.mem_map.mpr ⟨p, hp, rfl⟩
  have isT : ∀ b : Addr, b ∈ cs.map (·.2) → s₁.heap.get? b = some { cls := .none, data := .fields #[] } := fun b hb => by
    obtain ⟨p, hp, rfl⟩ := List.mem_map.mp hb
    exact hT p hp
  have aT : a ∉ cs.map (·.2) := fun z => by
    have q := isT a z
    rw [ha] at q
    cases (show Data.seq vs.toArray _ = Data.fields #[] from congrArg Obj.data (Option.some.inj q))
  -- F: the script's list, or nothing; the tables stand beside it
  have core : ∀ F : Hp, Only F → RdL K F a (ns.map V.int) → HOk P w F s₁.heap → (∀ b, F b ≠ none → b = a) → (F a ≠ none → K.lookup a = none) →
      codeAny (model P w) callerA (.call (.ref fa) ⟨[.ref a], []⟩) (fun r s' => r = .ok (.ret (.bool true)) ∧ OldK s₁.heap s'.heap ∧ s'.os = s₁.os ∧ AllBare s'.gens) s₁ := by
    intro F fO hS fok hA hK
    obtain ⟨H, eH⟩ : ∃ H : Hp, H = fun b => if b ∈ cs.map (·.2) then some (.tbl #[]) else F b := ⟨_, rfl⟩
    have atT : ∀ b, b ∈ cs.map (·.2) → H b = some (.tbl #[]) := fun b z => by rw [eH]; exact if_pos z
    have atF : ∀ b, b ∉ cs.map (·.2) → H b = F b := fun b z => by rw [eH]; exact if_neg z
    have exF : Ex F H := fun b u e => by rw [atF b fun z => aT (by rw [← hA b (by rw [e]; simp)]; exact z)]; exact e
    have hok : HOk P w H s₁.heap := fun b u e => by
      by_cases z : b ∈ cs.map (·.2)
      · rw [atT b z] at e
        cases e
        exact isT b z
      · rw [atF b z] at e
        exact (fok b u e).stay (fun c v _ q => q) (fun c q => exF _ _ q) fun c xs q => exF _ _ q
    have hN : ∀ b, H b ≠ none → b = a ∨ b ∈ cs.map (·.2) := fun b q => by
      by_cases z : b ∈ cs.map (·.2)
      · exact .inr z
      · rw [atF b z] at q
        exact .inl (hA b q)
    have noD : ∀ {b : Addr} {o : Obj}, s₁.heap.get? b = some o → (∀ vs n, o.data ≠ .seq vs n) → o.data ≠ .fields #[] → H b = none := fun {b o} e h1 h2 => by
      cases q : H b with
      | none => rfl
      | some u =>
        rcases hN b (by rw [q]; simp) with e' | e'
        · rw [e', ha] at e
          cases e
          exact (h1 _ _ rfl).elim
        · rw [isT b e'] at e
          cases e
          exact (h2 rfl).elim
    have noA : ∀ {b : Addr} {o : Obj} {es : Array DictEntry} {ep : Nat}, s₁.heap.get? b = some o → o.data = .dict es ep → H b = none := fun {b o es ep} e d =>
      noD e (fun vs n z => by rw [d] at z; cases z) fun z => by rw [d] at z; cases z
    have nsK : ∀ {b : Addr} {m : Str → Option Value}, s₁.heap.Ns b m → (hidT s₁.heap H).Ns b m := fun {b m} ⟨o, es, ep, e, d, r⟩ => ⟨o, es, ep, hidT_get e (noA e d), d, r⟩
    have hKb : K.In (hidT s₁.heap H) := fun b o e => hidT_get (KX b o e) (by
      cases q : H b with
      | none => rfl
      | some u =>
        rcases hN b (by rw [q]; simp) with e' | e'
        · rw [e'] at e q
          rw [atF a aT] at q
          rw [hK (by rw [q]; simp)] at e
          cases e
        · obtain ⟨p, hp, ep⟩ := List.mem_map.mp e'
          rw [← ep, nT p hp] at e
          cases e)
    have hM : Mod K mg (hidT s₁.heap H) := ⟨hKb, nsK hns, ⟨mb, nsK hb, hbb⟩, let ⟨mc, h1, h2⟩ := hlim; ⟨mc, nsK h1, h2⟩⟩
    have TB : ∀ p ∈ cs, LamX.TabB (hidT s₁.heap H) mg p.1 p.2 := fun p hp => by
      have hTp := hT p hp
      have neG : ∀ {b : Addr} {ob : Obj}, s₁.heap.get? b = some ob → ob.data = .plain → b ≠ mainGlobals ∧ b ≠ p.2 := fun {b ob} e d => by
        constructor
        · intro z
          obtain ⟨o, es, ep, e', hd, _⟩ := hns
          rw [z, e'] at e
          cases e
          rw [hd] at d
          cases d
        · intro z
          rw [z, hTp] at e
          cases e
          cases d
      refine ⟨?_, ?_, fun z => ?_⟩
      · obtain ⟨o, us, file, tf, flags, tg, inF, text, tt, e1, r1, r2, r3, r⟩ := C p hp
        exact ⟨o, us, file, tf, flags, tg, inF, text, tt, hidT_get e1 (noD e1 (fun vs n z => by rw [r2] at z; cases z) fun z => by rw [r2] at z; cases z; simp at r3), r1, r2, r3, r⟩
      · obtain ⟨bm, ob, b1, b2, b3, b4, b5, b6⟩ := hbm
        obtain ⟨n1, n2⟩ := neG b3 b6
        exact ⟨bm, ob, b1, b2, n1, n2, hidT_get b3 (noD b3 (fun vs n z => by rw [b6] at z; cases z) fun z => by rw [b6] at z; cases z), b4, b5, b6⟩
      · obtain ⟨o, es, ep, e, hd, _⟩ := hns
        rw [z, hTp] at e
        cases e
        cases hd
    have e0 : Env0 P w K mg (hidT s₁.heap H) callerA [] s₁ H := ⟨rfl, hM, fun b o e => of_hidT e, Nat.le_of_eq (hidT_size _ _), trivial, fun b hb => absurd (show b ∈ ([] : List Addr) from hb) (by simp), hok, .of_eq hgn⟩
    have goal : spD T K (lawS n) [.ref a] H (fun v _ => v = .bl true) := by
      refine ⟨F, [.dat (.list (ns.map .int))], fun r _ => r = .dat (.bool true), args_dat exF (fun q hq => ?_) (fun b ps z => by rcases fO b with y | ⟨o, xs, y⟩ <;> rw [y] at z <;> cases z) (ds := [.list (ns.map .int)]) (.one (.lst hS (drs_ints ns))), ⟨⟨ns, rfl, hn⟩, fun _ => rfl⟩, fun r as' v F' H' p po => ?_⟩
      · obtain ⟨p, hp, e⟩ := hTT q hq
        rw [← e]
        exact LamX.TabS.nil (atT _ (memT p hp))
      · subst p
        exact DR.inv_bool po.res
    refine codeAny_mono ((Fn _ hKb (nsK hns) (let ⟨o, es, ep, e, d⟩ := hsys; ⟨o, es, ep, hidT_get e (noA e d), d⟩) TB).go callerA [] s₁ H ⟨[.ref a], []⟩ [.ref a] [.ref a] _ hr rfl e0 (hbind s₁ (.ref a)) (.cons rfl .nil) goal) fun r s' h => ?_
    match r, h with
    | .error e, h => exact h.elim
    | .ok .next, h => exact h.elim
    | .ok .brk, h => exact h.elim
    | .ok .cont, h => exact h.elim
    | .ok (.ret u), ⟨v, H', os, bare, un, hok', r', q⟩ =>
      have q' : v = .bl true := q
      subst q'
      obtain rfl : u = Value.bool true := r'
      have key : ∀ b o, b ∉ cs.map (·.2) → s₁.heap.get? b = some o → s'.heap.get? b = some o := fun b o nb e => by
        cases q : H b with
        | none => exact un.keep b o e q (by intro z; exact absurd (show b ∈ ([] : List Addr) from z) (by simp)) (by simp)
        | some u =>
          have q' := q
          rw [atF b nb] at q'
          rcases fO b with z | ⟨ob, xs, z⟩
          · rw [q'] at z; cases z
          · rw [q'] at z
            cases z
            have z2 := un.frzs b ob _ q
            obtain ⟨e1, _⟩ := hok b _ q
            obtain ⟨e2, _⟩ := hok' b _ z2
            rw [e] at e1; cases e1
            exact e2
      have grown : ∀ p ∈ cs, ∃ more : Array Value, s'.heap.get? p.2 = some { cls := .none, data := .fields more } := fun p hp => by
        obtain ⟨more, z⟩ := un.tbls p.2 #[] (atT _ (memT p hp))
        exact ⟨_, hok' p.2 _ z⟩
      refine ⟨rfl, ⟨fun b o e => ?_, fun b o e => ?_⟩, os, bare⟩
      · by_cases hb : b ∈ cs.map (·.2)
        · obtain ⟨p, hp, ep⟩ := List.mem_map.mp hb
          obtain ⟨more, hm⟩ := grown p hp
          rw [← ep] at e ⊢
          rw [hT p hp] at e
          cases e
          exact .inr (.inl ⟨((C p hp).tab (hT p hp)).isCodeTable, rfl, #[], more, rfl, by rw [Array.empty_append]; exact hm⟩)
        · exact .inl (key b o hb e)
      · by_cases hb : b ∈ cs.map (·.2)
        · obtain ⟨p, hp, ep⟩ := List.mem_map.mp hb
          obtain ⟨more, hm⟩ := grown p hp
          rw [← ep]
          exact ⟨_, hm⟩
        · exact ⟨o, key b o hb e⟩
  cases hk : K.lookup a with
  | some o =>
    have e := KX a o hk
    rw [ha] at e
    cases e
    exact core (fun _ => none) (fun _ => .inl rfl) (.inr ⟨vs, 0, hk, rv, by rw [lenV]; exact hl⟩) (fun b u z => by cases (show (none : Option HO) = some u from z)) (fun b z => absurd rfl z) fun z => absurd rfl z
  | none =>
    refine core (fun b => if b = a then some (.frz { cls := .type "list", data := .seq vs.toArray } (.lst (ns.map V.int))) else none) (fun b => ?_) (.inl (.inr ⟨{ cls := .type "list", data := .seq vs.toArray }, if_pos rfl⟩)) (fun b u z => ?_) (fun b z => ?_) fun _ => hk
    · by_cases hb : b = a
      · exact .inr ⟨_, _, if_pos hb⟩
      · exact .inl (if_neg hb)
    · by_cases hb : b = a
      · cases (if_pos hb).symm.trans z
        subst hb
        exact ⟨ha, by rw [List.length_map]; exact hl, vs, _, rv, ha⟩
      · cases (if_neg hb).symm.trans z
    · by_cases hb : b = a
      · exact hb
      · exact absurd (if_neg hb) z
end
end DL

namespace DL
variable {T : List (PySem.Addr × PySem.Str)} {Z : Zx T}
open PySem PySem.Spec PyProof.Rows L2
open Evl (Ex)
/-- an empty table of code objects -/
def isTab : Option Obj → Bool
  | some ⟨.none, none, .fields vs, sl⟩ => vs.isEmpty && sl.isEmpty
  | _ => false
theorem isTab_ok {x : Option Obj} (h : isTab x = true) : x = some { cls := .none, data := .fields #[] } := by
  unfold isTab at h
  split at h
  · rename_i vs sl
    obtain ⟨h1, h2⟩ := He.ba h
    obtain rfl : vs = #[] := by simpa using h1
    obtain rfl : sl = #[] := by simpa using h2
    rfl
  · cases h
def asL (g : Addr → Option Obj) (n : Nat) : List Addr := (He.asG g n).filter fun a => !isTab (g a)
theorem frG_mem {g : Addr → Option Obj} {a : Addr} {o : Obj} : ∀ {as : List Addr}, (He.frG g as).lookup a = some o → a ∈ as
  | [], e => nomatch (show (none : Option Obj) = some o from e)
  | b :: r, e => by
    unfold He.frG at e
    cases hb : g b with
    | none =>
      rw [List.filterMap_cons, hb] at e
      exact List.mem_cons_of_mem _ (frG_mem (as := r) (by unfold He.frG; exact e))
    | some ob =>
      rw [List.filterMap_cons, hb] at e
      have e2 : (match a == b with | true => some ob | false => (He.frG g r).lookup a) = some o := e
      cases q : (a == b) with
      | true =>
        rw [beq_iff_eq.mp q]
        exact List.mem_cons_self
      | false =>
        rw [q] at e2
        exact List.mem_cons_of_mem _ (frG_mem (as := r) e2)
def tabsOf (K : PySem.W.Frag) (lam : List (Str × Str)) : List (Addr × Str) := lam.filterMap fun p => (PySem.W.tabIn K p.1).map fun z => (z.2, p.2)
def csOf (K : PySem.W.Frag) (lam : List (Str × Str)) : List (Addr × Addr) := lam.filterMap fun p => PySem.W.tabIn K p.1
def lamOne (K : PySem.W.Frag) (g : Addr → Option Obj) (p : Str × Str) : Bool := match PySem.W.tabIn K p.1 with
  | some (c, P) => PySem.W.codeHdIn K c P && isTab (g P)
  | none => false
def uniT (l : List (Addr × Str)) : Bool := l.all fun p => l.all fun q => decide (p.1 = q.1 → p.2 = q.2)
def lamG (K : PySem.W.Frag) (g : Addr → Option Obj) (lam : List (Str × Str)) : Bool := lam.all (lamOne K g) && uniT (tabsOf K lam)
def LamSays (lam : List (Str × Str)) (K : PySem.W.Frag) (h : Heap) : Prop :=
  (∀ p ∈ lam, ∃ c P, PySem.W.tabIn K p.1 = some (c, P) ∧ PySem.W.CodeHd h c P ∧ h.get? P = some { cls := .none, data := .fields #[] } ∧ K.lookup P = none) ∧ ∀ p ∈ tabsOf K lam, ∀ q ∈ tabsOf K lam, p.1 = q.1 → p.2 = q.2
def obsL (n : Nat) (fa : List He.Fa) (fn : List He.FnD) (fx : List Fx) (lam : List (Str × Str)) (g : Addr → Option Obj) : He.Al × Bool × Bool × Bool :=
  (He.obsE fa fn (He.frG g (asL g n)), sysB g, fx.all (fun f => f.ok (He.frG g (asL g n))), lamG (He.frG g (asL g n)) g lam)
theorem lamG_says {n : Nat} {lam : List (Str × Str)} {h : Heap} (e : lamG (He.frG h.get? (asL h.get? n)) h.get? lam = true) : LamSays lam (He.frG h.get? (asL h.get? n)) h := by
  obtain ⟨e1, e2⟩ := He.ba e
  refine ⟨fun p hp => ?_, fun p hp q hq => ?_⟩
  · have z := List.all_eq_true.mp e1 p hp
    unfold lamOne at z
    split at z
    · rename_i c P ht
      obtain ⟨z1, z2⟩ := He.ba z
      refine ⟨c, P, ht, PySem.W.codeHd_of_K He.frG_in z1, isTab_ok z2, ?_⟩
      cases q : (He.frG h.get? (asL h.get? n)).lookup P with
      | none => rfl
      | some o =>
        have m := (List.mem_filter.mp (frG_mem q)).2
        rw [z2] at m
        cases m
    · cases z
  · exact of_decide_eq_true (List.all_eq_true.mp (List.all_eq_true.mp e2 p hp) q hq)
theorem LamSays.keeps {lam : List (Str × Str)} {K : PySem.W.Frag} {h h' : Heap} (x : LamSays lam K h) (k : ∀ b o, h.get? b = some o → h'.get? b = some o) : LamSays lam K h' :=
  ⟨fun p hp => let ⟨c, P, h1, h2, h3, h4⟩ := x.1 p hp; ⟨c, P, h1, h2.keeps k, k _ _ h3, h4⟩, x.2⟩
def hookL (n : Nat) (fa : List He.Fa) (fn : List He.FnD) (fx : List Fx) (lam : List (Str × Str)) : PySem.W.Hook where
  α := He.Al × Bool × Bool × Bool
  obs := fun s => obsL n fa fn fx lam s.heap.get?
  val := fun _ => (He.valE fn, true, true, true)
  says := fun _ h => (∃ K : PySem.W.Frag, K.In h ∧ He.SaysE fa fn K ∧ FxSays fx K ∧ LamSays lam K h) ∧ SysD h
  of := fun w s e => ⟨⟨He.frG s.heap.get? (asL s.heap.get? n), He.frG_in, congrArg Prod.fst e, congrArg (fun z : He.Al × Bool × Bool × Bool => z.2.2.1) e, lamG_says (congrArg (fun z : He.Al × Bool × Bool × Bool => z.2.2.2) e)⟩, sysB_of (congrArg (fun z => z.2.1) e)⟩
  keeps := fun w h h' ⟨⟨K, hK, c, cx, cl⟩, o, es, ep, e, d⟩ k => ⟨⟨K, PySem.W.Frag.In.keeps hK k, c, cx, cl.keeps k⟩, o, es, ep, k _ _ e, d⟩
theorem obsL_eq {n : Nat} {fa : List He.Fa} {fn : List He.FnD} {fx : List Fx} {lam : List (Str × Str)} {g : Addr → Option Obj} {s : Shared} (h : ∀ a, g a = s.heap.get? a) : obsL n fa fn fx lam g = (hookL n fa fn fx lam).obs s := by
  have e : g = s.heap.get? := funext h
  rw [e] <;> rfl
section
variable {K : PySem.W.Frag} {lam : List (Str × Str)} {base h : Heap} {mg : Str → Option Value}
theorem lamB_of (x : LamSays lam K h) (TB : ∀ p ∈ csOf K lam, LamX.TabB base mg p.1 p.2) : LamB K base mg (tabsOf K lam) lam :=
  ⟨fun p hp => let ⟨c, P, h1, _⟩ := x.1 p hp; ⟨c, P, h1, TB (c, P) (List.mem_filterMap.mpr ⟨p, hp, h1⟩), List.mem_filterMap.mpr ⟨p, hp, by rw [h1]; rfl⟩⟩, x.2⟩
theorem cs_says (x : LamSays lam K h) : ∀ p ∈ csOf K lam, PySem.W.CodeHd h p.1 p.2 ∧ h.get? p.2 = some { cls := .none, data := .fields #[] } ∧ K.lookup p.2 = none := fun p hp => by
  obtain ⟨q, hq, e⟩ := List.mem_filterMap.mp hp
  obtain ⟨c, P, h1, h2, h3, h4⟩ := x.1 q hq
  rw [h1] at e
  cases e
  exact ⟨h2, h3, h4⟩
theorem tabs_cs : ∀ q ∈ tabsOf K lam, ∃ p ∈ csOf K lam, p.2 = q.1 := fun q hq => by
  obtain ⟨p, hp, e⟩ := List.mem_filterMap.mp hq
  cases z : PySem.W.tabIn K p.1 with
  | none => rw [z] at e; cases e
  | some y =>
    rw [z] at e
    cases e
    exact ⟨y, List.mem_filterMap.mpr ⟨p, hp, z⟩, rfl⟩
end
/-- the goal that a head by facts leaves, the defs with lambdas among them -/
theorem walk_dataL {lam : List (Str × Str)} {l : PySem.W.OpenLaw} {n k : Nat} {q : Program} {loose : List Str} {XP : (Str → Option Value) → Heap → Prop} {YP : World → Heap → Prop} {d : DefRec} {x : Str}
    (hn : l.most = some n) (hn2 : n ≤ sizeLine) (hdf : d.params.defaults = []) (hr : Room k callerA)
    (Fn : ∀ (w : World) (mg : Str → Option Value) (fa : Addr) (h : Heap), YP w h → h.Ns mainGlobals mg → mg d.name = some (.ref fa) →
      ∃ (K : PySem.W.Frag) (fd : FuncData), K.In h ∧ SysD h ∧ LamSays lam K h ∧ (∀ (s : Shared) (u : Value), BindsTo s fd ⟨[u], []⟩ [(x, u)]) ∧
        ∀ base : Heap, K.In base → base.Ns mainGlobals mg → SysD base → LamB K base mg (tabsOf K lam) lam → FnG l.prog w K mg base (tabsOf K lam) k fa fd [x] (lawS n)) :
    PySem.W.WalkO q loose XP YP l.row.toRowW d [] (fun f vs => PySem.call f vs) := by
  refine Att.attach_call hn hdf fun w s₀ s₁ mg mb fa o pm cd doc a vs ns G Y ho hd hcd hmg hobj hints hlen hg => ?_
  obtain ⟨K, fd, KX, hsys, hlam, hb, hF⟩ := Fn w mg fa _ Y G.T.g hmg
  have cs := cs_says hlam
  exact law_dataT (cs := csOf K lam) KX G.T.g G.T.b G.T.builtins G.T.nolimit hg (fun p hp => (cs p hp).2.1) (fun p hp => (cs p hp).2.2) (fun p hp => (cs p hp).1) G.T.bmain hobj hints hlen hn2 hr hsys tabs_cs (fun base h1 h2 h3 h4 => hF base h1 h2 h3 (lamB_of hlam h4)) hb
end DL

namespace DL
variable {T : List (PySem.Addr × PySem.Str)} {Z : Zx T}
open PySem PySem.Spec PyProof.Rows L2 PySem.W
open Evl (Ex)
abbrev KVM := List (PyData × PyData)
def isKy : PyData → Key → Bool
  | .int m, .inl n => decide (m = n)
  | .str x, .inr y => decide (x = y)
  | _, _ => false
theorem isKy_int {m n : Int} : isKy (.int m) (.inl n) = decide (m = n) := rfl
theorem isKy_str {x y : Str} : isKy (.str x) (.inr y) = decide (x = y) := rfl
def atM (ds : KVM) (k : Key) : Option PyData := (ds.find? fun p => isKy p.1 k).map (·.2)
def putM (ds : KVM) (k : Key) (d : PyData) : KVM := if (ds.any fun p => isKy p.1 k) = true then ds.map (fun p => if isKy p.1 k = true then (p.1, d) else p) else ds ++ [(keyD k, d)]
section
variable {K : PySem.W.Frag} {F : Hp}
theorem isKy_i {n : Int} {k : Key} : isKy (.int n) k = decide ((Sum.inl n : Key) = k) := by
  cases k with
  | inl m =>
    rw [isKy_int]
    by_cases e : n = m
    · subst e; simp
    · rw [decide_eq_false e, decide_eq_false fun z => e (Sum.inl.inj z)]
  | inr y => rfl
theorem isKy_s {x : Str} {k : Key} : isKy (.str x) k = decide ((Sum.inr x : Key) = k) := by
  cases k with
  | inl m => rfl
  | inr y =>
    rw [isKy_str]
    by_cases e : x = y
    · subst e; simp
    · rw [decide_eq_false e, decide_eq_false fun z => e (Sum.inr.inj z)]
theorem DM.any (k : Key) : ∀ {vs : List (Key × V)} {ds : KVM}, DM K F vs ds → (vs.any fun kv => decide (kv.1 = k)) = ds.any fun p => isKy p.1 k
  | _, _, .nil => rfl
  | _, _, .int (n := n) _ b => by rw [List.any_cons, List.any_cons, DM.any k b, isKy_i]
  | _, _, .str (x := x) _ b => by rw [List.any_cons, List.any_cons, DM.any k b, isKy_s]
theorem DM.val (k : Key) : ∀ {vs : List (Key × V)} {ds : KVM}, DM K F vs ds → (atM ds k = none ∧ valV vs k = none) ∨ ∃ d v, atM ds k = some d ∧ valV vs k = some v ∧ DR K F v d
  | _, _, .nil => .inl ⟨rfl, rfl⟩
  | _, _, .int (n := n) (v := v) (d := d) (vs := vs) (ds := ds) a b => by
    by_cases e : (Sum.inl n : Key) = k
    · exact .inr ⟨d, v, by simp [atM, List.find?_cons, isKy_i, e], by simp [valV, List.find?_cons, e], a⟩
    · have x : atM ((.int n, d) :: ds) k = atM ds k := by simp [atM, List.find?_cons, isKy_i, e]
      have y : valV ((.inl n, v) :: vs) k = valV vs k := by simp [valV, List.find?_cons, e]
      rw [x, y]
      exact DM.val k b
  | _, _, .str (x := x) (v := v) (d := d) (vs := vs) (ds := ds) a b => by
    by_cases e : (Sum.inr x : Key) = k
    · exact .inr ⟨d, v, by simp [atM, List.find?_cons, isKy_s, e], by simp [valV, List.find?_cons, e], a⟩
    · have y1 : atM ((.str x, d) :: ds) k = atM ds k := by simp [atM, List.find?_cons, isKy_s, e]
      have y : valV ((.inr x, v) :: vs) k = valV vs k := by simp [valV, List.find?_cons, e]
      rw [y1, y]
      exact DM.val k b
theorem DM.snoc {k : Key} {v : V} {d : PyData} (r : DR K F v d) : ∀ {vs : List (Key × V)} {ds : KVM}, DM K F vs ds → DM K F (vs ++ [(k, v)]) (ds ++ [(keyD k, d)])
  | _, _, .nil => by cases k with
    | inl n => exact .int r .nil
    | inr x => exact .str r .nil
  | _, _, .int a b => .int a (DM.snoc r b)
  | _, _, .str a b => .str a (DM.snoc r b)
theorem DM.repl {k : Key} {v : V} {d : PyData} (r : DR K F v d) : ∀ {vs : List (Key × V)} {ds : KVM}, DM K F vs ds → DM K F (vs.map fun kv => if kv.1 = k then (kv.1, v) else kv) (ds.map fun p => if isKy p.1 k = true then (p.1, d) else p)
  | _, _, .nil => .nil
  | _, _, .int (n := n) a b => by
    rw [List.map_cons, List.map_cons]
    by_cases e : (Sum.inl n : Key) = k
    · rw [if_pos e, if_pos (by rw [isKy_i]; exact decide_eq_true e)]
      exact .int r (DM.repl r b)
    · rw [if_neg e, if_neg (by rw [isKy_i, decide_eq_false e]; simp)]
      exact .int a (DM.repl r b)
  | _, _, .str (x := x) a b => by
    rw [List.map_cons, List.map_cons]
    by_cases e : (Sum.inr x : Key) = k
    · rw [if_pos e, if_pos (by rw [isKy_s]; exact decide_eq_true e)]
      exact .str r (DM.repl r b)
    · rw [if_neg e, if_neg (by rw [isKy_s, decide_eq_false e]; simp)]
      exact .str a (DM.repl r b)
theorem DM.put {vs : List (Key × V)} {ds : KVM} (h : DM K F vs ds) (k : Key) {v : V} {d : PyData} (r : DR K F v d) : DM K F (putK vs k v) (putM ds k d) := by
  unfold putK putM
  rw [h.any k]
  split
  · exact h.repl r
  · exact h.snoc r
theorem DM.keys : ∀ {vs : List (Key × V)} {ds : KVM}, DM K F vs ds → DRs K F (vs.map fun p => kV p.1) (ds.map (·.1))
  | _, _, .nil => .nil
  | _, _, .int _ b => .cons (.int _) (DM.keys b)
  | _, _, .str _ b => .cons (.str _) (DM.keys b)
theorem DM.vals : ∀ {vs : List (Key × V)} {ds : KVM}, DM K F vs ds → DRs K F (vs.map (·.2)) (ds.map (·.2))
  | _, _, .nil => .nil
  | _, _, .int a b => .cons a (DM.vals b)
  | _, _, .str a b => .cons a (DM.vals b)
end
/-- it is a dict: no row, no refusal -/
def isMap : KVM → Bool
  | (.none, _) :: _ => false
  | _ => true
theorem DR.inv_map {K : PySem.W.Frag} {F : Hp} {v : V} {ds : KVM} (h : DR K F v (.dict ds)) (hk : isMap ds = true) : ∃ a o vs, v = .ref a ∧ F a = some (.frz o (.dK vs)) ∧ DM K F vs ds := by
  cases h with
  | dct a b => exact ⟨_, _, _, rfl, a, b⟩
  | row _ _ => cases hk
  | exc _ _ => cases hk
def keyQ (y : PyData) (K : Key → Prop) : Prop := match kyOf y with
  | some k => K k
  | none => False
theorem keyQ_inv {y : PyData} {K : Key → Prop} (h : keyQ y K) : ∃ k, kyOf y = some k ∧ K k := by
  unfold keyQ at h
  split at h
  · exact ⟨_, ‹_›, h⟩
  · exact h.elim
def pickM (ds : KVM) (k : Key) (P : PyData → Prop) : Prop := match atM ds k with
  | some d => P d
  | none => False
theorem pickM_inv {ds : KVM} {k : Key} {P : PyData → Prop} (h : pickM ds k P) : ∃ d, atM ds k = some d ∧ P d := by
  unfold pickM at h
  split at h
  · exact ⟨_, ‹_›, h⟩
  · exact h.elim
def oIxM (x y : PyData) (P : PyData → Prop) : Prop := match x with
  | .dict ds => isMap ds = true ∧ keyQ y fun k => pickM ds k P
  | x => oIx x y P
section
variable {X : Cx} {K : PySem.W.Frag}
def rIxK : R2 := fun x y H Q => ∃ a v, x = .ref a ∧ DGet H a y (some v) ∧ Q v H
theorem ix_dK (hu : X.A.units + 1 < cLine) : IxR X rIxK := by
  intro value slice pins s σ H x y v u Q I rx ry h hs
  obtain ⟨a, r, rfl, g, q⟩ := h
  obtain rfl : v = Value.ref a := rx
  exact tail_any (dict_typeIs I g) PySem.F.slot_dict_getitem.lookup (d_getItem hu I g ry fun w' s' I' rw' => ⟨r, H, I', rw', q⟩) hs
theorem opd_ixM : OpD K (fun x y H Q => rIx K x y H Q ∨ rIxK x y H Q) oIxM := by
  intro T0 Z0 g F env σ H vx vy dx dy P Q k rx ry p q
  unfold oIxM at p
  split at p
  · rename_i ds
    obtain ⟨hm, p⟩ := p
    obtain ⟨kk, ek, p⟩ := keyQ_inv p
    obtain ⟨d, ed, p⟩ := pickM_inv p
    obtain ⟨a, o, vs, rfl, h1, h2⟩ := rx.inv_map hm
    obtain rfl := ky_val ek ry
    rcases h2.val kk with ⟨z, _⟩ | ⟨d', v, z1, z2, z3⟩
    · rw [ed] at z; cases z
    · rw [ed] at z1
      cases z1
      exact .inr ⟨a, v, rfl, .inl ⟨vs, kk, .inr ⟨o, k.fh _ _ h1⟩, rfl, z2.symm⟩, q _ _ F H p (Ex.refl F) k z3⟩
  · exact .inl (opd_ix T0 Z0 g F env σ H vx vy dx dy P Q k rx ry p q)
end
section
variable {X : Cx} {a b e : Expr} {es : List Expr} {wa wb we : DE} {was : DA} {pos p : Pos}
theorem dixM {k0 : Nat} (hr : Room k0 X.A) (ha : PE X a (liftE X.K Z wa)) (hb : PE X b (liftE X.K Z wb)) (hs : PlainIx b := by intro _ _; rfl) : PE X (.Subscript a b pos) (liftE X.K Z (dOp oIxM wa wb)) := dix (ixr_or ixr (ix_dK (by have := hr.u65; omega))) opd_ixM ha hb hs
end
def oInM (n : Bool) (x y : PyData) (P : PyData → Prop) : Prop := match y with
  | .dict ds => isMap ds = true ∧ keyQ x fun k => P (.bool ((atM ds k).isSome != n))
  | y => oMem n x y P
def rInK (n : Bool) : R2 := fun x y H Q => ∃ a o, y = .ref a ∧ DGet H a x o ∧ Q (.bl (o.isSome != n)) H
section
variable {X : Cx} {a b e : Expr} {es : List Expr} {wa wb we : DE} {was : DA} {pos p : Pos} {K : PySem.W.Frag}
theorem op_ninK (hu : X.A.units + 1 < cLine) : OpR X (compareOp .NotIn) (rInK true) := by
  intro pins s σ H x y v u Q I rx ry h
  obtain ⟨a, o, rfl, g, q⟩ := h
  obtain rfl : u = Value.ref a := ry
  refine d_notIn hu I g rx fun s3 I3 => ⟨.bl (!o.isSome), H, I3, rfl, ?_⟩
  rwa [show ∀ b : Bool, (b != true) = !b by decide] at q
theorem inK_of {n : Bool} {g : Gx Z} {F : Hp} {env : List SD} {σ : L2.St} {H : Hp} {vx vy : V} {dx : PyData} {ds : KVM} {P : PyData → Prop} {Q : VK} (k : Ok K g F env σ H) (rx : DR K F vx dx) (ry : DR K F vy (.dict ds)) (p : isMap ds = true ∧ keyQ dx fun k => P (.bool ((atM ds k).isSome != n)))
    (q : ∀ b : Bool, P (.bool b) → Q (.bl b) H) : rInK n vx vy H Q := by
  obtain ⟨hm, p⟩ := p
  obtain ⟨kk, ek, p⟩ := keyQ_inv p
  obtain ⟨a, o, vs, rfl, h1, h2⟩ := ry.inv_map hm
  obtain rfl := ky_val ek rx
  refine ⟨a, valV vs kk, rfl, .inl ⟨vs, kk, .inr ⟨o, k.fh _ _ h1⟩, rfl, rfl⟩, q _ ?_⟩
  rcases h2.val kk with ⟨z1, z2⟩ | ⟨d', v, z1, z2, z3⟩
  · rw [z1] at p; rw [z2]; exact p
  · rw [z1] at p; rw [z2]; exact p
theorem opd_ninM : OpD K (fun x y H Q => rNinA K x y H Q ∨ rInK true x y H Q) (oInM true) := by
  intro T0 Z0 g F env σ H vx vy dx dy P Q k rx ry p q
  unfold oInM at p
  split at p
  · exact .inr (inK_of k rx ry p fun b pb => q _ _ F H pb (Ex.refl F) k (.bl b))
  · exact .inl (opd_nin T0 Z0 g F env σ H vx vy dx dy P Q k rx ry p q)
theorem tninM {k : Nat} (hr : Room k X.A) (ha : PE X a (liftE X.K Z wa)) (hb : PE X b (liftE X.K Z wb)) (hm : behindInMarks .NotIn b = false := by rfl) : PT X (.Compare a [.NotIn] [b] pos) (liftT X.K Z (dTest (dOp (oInM true) wa wb))) := dcmpT (OpR.or (op_ninA hr.u65) (op_ninK (by have := hr.u65; omega))) opd_ninM ha hb hm
end
end DL

namespace DL
variable {T : List (PySem.Addr × PySem.Str)} {Z : Zx T}
open PySem PySem.Spec PyProof.Rows L2 PySem.W
open Evl (Ex)
section
variable {X : Cx} {o e f : Expr} {es : List Expr} {wo we wf : DE} {was : DA} {apos cpos pos p : Pos} {K : PySem.W.Frag}
theorem walkD_keys {bb : Bool} {F : Hp} {a : Addr} {o : Obj} {vs : List (Key × V)} {ds : KVM} (h : F a = some (.frz o (.dK vs))) (m : DM K F vs ds) : WalkD K bb F (Itk a o vs) (ds.map (·.1)) :=
  ⟨fun H => H a = some (.frz o (.dK vs)), fun i H x H' => H' = H ∧ ∃ k v, vs[i]? = some (k, v) ∧ x = kV k, by rw [List.length_map, ← m.length]; exact walk_keys (kvs := vs), fun H e => e _ _ h, fun i H x H' d _ e y => .inl ⟨y.1, by
    obtain ⟨k, v, h1, rfl⟩ := y.2
    obtain ⟨u, z1, z2⟩ := m.keys.get e
    rw [List.getElem?_map, h1] at z1
    cases z1
    exact z2⟩⟩
def iSeqM (K : PySem.W.Frag) (tl : TE) : TI := fun σ H R => tl σ H fun x H1 => ((∃ a, x = .ref a ∧ ((∃ xs, SqL K H1 a xs ∧ R (Itl K a) H1) ∨ ∃ xs, SqT K H1 a xs ∧ R (Itt K a) H1)) ∨ ∃ z, x = .str z ∧ R (Its z) H1) ∨ ∃ a o kvs, x = .ref a ∧ H1 a = some (.frz o (.dK kvs)) ∧ R (Itk a o kvs) H1
theorem pi_seqM {tg l : Expr} {tl : TE} (hl : PE X l tl) : PI X tg l (iSeqM X.K tl) := by
  refine ⟨fun pins s σ H R I h => thn (hl.run pins s σ H _ I h) fun v s1 ⟨x, H1, I1, r1, q1⟩ => ?_⟩
  rcases q1 with (⟨a, ea, q1⟩ | ⟨z, ez, q⟩) | ⟨a, o, kvs, ea, hd, q⟩
  · subst ea
    cases r1
    have fo : ∀ b ∈ [s1.heap.objs.size], FpOk X pins H1 b := fun b hb => by
      rw [List.mem_singleton.mp hb]
      exact I1.fpOk (Nat.le_refl _) (I1.hok.fresh (Nat.le_refl _))
    rcases q1 with ⟨xs, hq, q⟩ | ⟨xs, hq, q⟩
    · obtain ⟨its, rv, pl, hz⟩ := I1.list hq
      exact wpAny_pyIter_list pl.isList ⟨s1.heap.objs.size, [s1.heap.objs.size], _, _, H1, rfl, I1.kept (t' := s1.toks) (fun b o e => Heap.get?_push_of_some _ e), turn_list a _, ⟨_, Heap.get?_push_size _ rfl, rfl, rfl⟩, fo, q⟩
    · obtain ⟨its, rv, pl, hz⟩ := I1.tuple hq
      exact wpAny_pyIter_tuple (show s1.heap.IsTuple a its.toArray from pl) ⟨s1.heap.objs.size, [s1.heap.objs.size], _, _, H1, rfl, I1.kept (t' := s1.toks) (fun b o e => Heap.get?_push_of_some _ e), turn_tuple a _, ⟨_, Heap.get?_push_size _ rfl, rfl, rfl⟩, fo, q⟩
  · subst ez
    obtain ⟨t, rfl⟩ := r1
    cases ha : z.cps.all (· < 128)
    · exact wpAny_pyIter_wide ha (pi_one (tk := s1.toks) I1 _ (turn_str _ z t "str_iterator" (.inr rfl)) ⟨_, Heap.get?_push_size _ rfl, rfl, rfl⟩ q)
    · exact wpAny_pyIter_ascii ha (pi_one (tk := s1.toks) I1 _ (turn_str _ z t "str_ascii_iterator" (.inl rfl)) ⟨_, Heap.get?_push_size _ rfl, rfl, rfl⟩ q)
  · subst ea
    cases r1
    obtain ⟨hs, hgd, hx, es, ep, vs, hdt, hsz, kv, hm⟩ := I1.frzK hd
    refine iter_keys hs hgd hx hdt (pi_one (tk := s1.toks) I1 _ (turn_keys _ hdt) ⟨_, Heap.get?_push_size _ rfl, rfl, ?_⟩ q)
    rw [hsz] <;> rfl
/-- a list's, a tuple's items, a text's signs, a dict's keys -/
def itemsM (d : PyData) (K : List PyData → Prop) : Prop := match d with
  | .dict ds => isMap ds = true ∧ At (ds.map (·.1)) K
  | d => itemsQ d K
theorem iseqM {tg : Expr} {bb : Bool} (he : PE X e (liftE X.K Z we)) : PI X tg e (liftI X.K Z bb (dItF itemsM we)) := PI.of (pi_seqM he) fun σ H R ⟨g, F, env, P, k, w, q⟩ => ⟨g, F, env, _, k, w, fun d env1 v F1 H1 p e1 k1 r1 => by
  unfold itemsM at p
  split at p
  · obtain ⟨hm, p⟩ := p
    obtain ⟨a, o, vs, rfl, h1, h2⟩ := r1.inv_map hm
    exact .inr ⟨a, o, vs, rfl, k1.fh _ _ h1, q _ env1 _ F1 H1 p.out e1 k1 (walkD_keys h1 h2)⟩
  · refine .inl ?_
    unfold itemsQ at p
    split at p
    · obtain ⟨a, xs, rfl, h1, h2⟩ := r1.inv_lst
      exact .inl ⟨a, rfl, .inl ⟨xs, (h1.mono k1.fh).sq, q _ env1 _ F1 H1 p.out e1 k1 (walkD_list h1 h2)⟩⟩
    · obtain ⟨a, xs, rfl, h1, h2⟩ := r1.inv_tup
      exact .inl ⟨a, rfl, .inr ⟨xs, Evl.ex_t k1.fh h1, q _ env1 _ F1 H1 p.out e1 k1 (walkD_tup h1 h2)⟩⟩
    · cases r1.inv_str
      exact .inr ⟨_, rfl, q _ env1 _ F1 H1 p.out e1 k1 (walkD_str _)⟩
    · exact p.elim⟩
end
end DL

namespace DL
variable {T : List (PySem.Addr × PySem.Str)} {Z : Zx T}
open PySem PySem.Spec PyProof.Rows L2 PySem.W
open Evl (Ex)
theorem codeO_kk {P : Program} {w : World} {a : Addr} {vs : List (Key × V)} {q : Str} : KkE P w a vs ≠ LamX.CodeO a q := fun z => by
  unfold KkE LamX.CodeO at z
  injection z with z
  have e : (({ objs := Array.replicate a { cls := .none, data := .plain } } : Heap).push { cls := .none, data := .fields #[.none, .str q 0] }).get? a = some { cls := .none, data := .fields #[.none, .str q 0] } := by
    have := Heap.get?_push_size { objs := Array.replicate a { cls := .none, data := .plain } } (o := { cls := .none, data := .fields #[.none, .str q 0] }) rfl
    simpa using this
  have y := (congrFun z (({ objs := Array.replicate a { cls := .none, data := .plain } } : Heap).push { cls := .none, data := .fields #[.none, .str q 0] })).mpr ⟨_, _, 0, e, rfl, rfl⟩
  obtain ⟨_, _, us, _, o, es, ep, e1, _, e2, _⟩ := y
  rw [e] at e1
  cases e1
  cases e2
theorem codeO_ls {a : Addr} {vs : List V} {q : Str} : LsE a vs ≠ LamX.CodeO a q := fun z => by
  unfold LsE LamX.CodeO at z
  injection z with z
  have e : (({ objs := Array.replicate a { cls := .none, data := .plain } } : Heap).push { cls := .none, data := .fields #[.none, .str q 0] }).get? a = some { cls := .none, data := .fields #[.none, .str q 0] } := by
    have := Heap.get?_push_size { objs := Array.replicate a { cls := .none, data := .plain } } (o := { cls := .none, data := .fields #[.none, .str q 0] }) rfl
    simpa using this
  have y := (congrFun z (({ objs := Array.replicate a { cls := .none, data := .plain } } : Heap).push { cls := .none, data := .fields #[.none, .str q 0] })).mpr ⟨_, _, 0, e, rfl, rfl⟩
  obtain ⟨_, its, n, _, e1⟩ := y
  rw [e] at e1
  cases e1
theorem kk_ok {P : Program} {w : World} {H H' : Hp} {h : Heap} {a : Addr} {vs : List (Key × V)} (x : ObjOk P w H h a (.dK vs)) : ObjOk P w H' h a (KkE P w a vs) := by
  obtain ⟨z1, z2, us, z3, z4⟩ := x
  refine ⟨⟨z1, z2, us, z3, z4⟩, ?_, fun h1 h2 ⟨y1, y2, ws, y3, y4⟩ k => ⟨y1, y2, ws, y3, y4.at k⟩⟩
  obtain ⟨o, es, ep, e, _⟩ := z4
  exact ⟨o, e⟩
theorem ls_ok {P : Program} {w : World} {H H' : Hp} {h : Heap} {a : Addr} {vs : List V} (x : ObjOk P w H h a (.lst vs)) : ObjOk P w H' h a (LsE a vs) := by
  obtain ⟨z1, its, n, z2, z3⟩ := x
  exact ⟨⟨z1, its, n, z2, z3⟩, ⟨_, z3⟩, fun h1 h2 ⟨y1, us, m, y2, y3⟩ k => ⟨y1, us, m, y2, k _ y3⟩⟩
/-- the own thing at x is told as it is; a dict is known -/
def ToldO (P : Program) (w : World) (od : Addr → Obj) (x : Addr) (o o' : HO) : Prop := (∃ vs, o = KkE P w x vs ∧ o' = .frz (od x) (.dK vs)) ∨ ∃ vs, o = LsE x vs ∧ o' = .lst vs
def RcO (P : Program) (w : World) (od : Addr → Obj) (H H' : Hp) : Prop := ∀ x, H' x = H x ∨ ∃ o o', H x = some o ∧ H' x = some o' ∧ ToldO P w od x o o'
section
variable {X : Cx} {pins : List (Addr × Obj)} {σ : L2.St} {H H' : Hp} {s : Shared} {od : Addr → Obj}
theorem RcO.none (r : RcO X.prog X.w od H H') {x : Addr} : H' x = Option.none ↔ H x = Option.none := by
  rcases r x with e | ⟨o, o', e1, e2, _⟩
  · rw [e]
  · rw [e1, e2]; simp
theorem RcO.own (r : RcO X.prog X.w od H H') {x : Addr} {o : HO} (n1 : ∀ φ, o ≠ .ext φ) (n2 : ∀ ob u, o ≠ .frz ob u) (n3 : ∀ vs, o ≠ .lst vs) : H' x = some o ↔ H x = some o := by
  rcases r x with e | ⟨p, p', e1, e2, t⟩
  · rw [e]
  · rw [e1, e2]
    rcases t with ⟨vs, rfl, rfl⟩ | ⟨vs, rfl, rfl⟩
    · exact ⟨fun z => absurd (Option.some.inj z).symm (n2 _ _), fun z => absurd (Option.some.inj z).symm (n1 _)⟩
    · exact ⟨fun z => absurd (Option.some.inj z).symm (n3 _), fun z => absurd (Option.some.inj z).symm (n1 _)⟩
theorem _root_.L2.Inv.told (I : Inv X pins σ H s) (r : RcO X.prog X.w od H H') (ho : ∀ x ob, s.heap.get? x = some ob → od x = ob) : Inv X pins σ H' s where
  ok := I.ok
  os := I.os
  bare := I.bare
  base := ⟨I.base.keep, I.base.slot, fun b o e1 e2 e3 => r.none.mpr (I.base.free b o e1 e2 e3), I.base.there, fun b xs e => (r.own (fun _ z => by cases z) (fun _ _ z => by cases z) (fun _ z => by cases z)).mpr (I.base.tups b xs e),
    (fun b o u e => by
      have z := I.base.frzs b o u e
      rcases r b with y | ⟨p, p', e1, e2, t⟩
      · rw [y]; exact z
      · rw [z] at e1
        cases e1
        rcases t with ⟨vs, t, _⟩ | ⟨vs, t, _⟩ <;> cases t),
    fun b ps e => by
      obtain ⟨more, z⟩ := I.base.tbls b ps e
      exact ⟨more, (r.own (fun _ z => by cases z) (fun _ _ z => by cases z) (fun _ z => by cases z)).mpr z⟩⟩
  loc := I.loc
  cell := I.cell
  free := r.none.mpr I.free
  freeC := fun x c e => r.none.mpr (I.freeC x c e)
  pin := fun p hp => let ⟨z1, z2, z3⟩ := I.pin p hp; ⟨z1, r.none.mpr z2, z3⟩
  hok := fun a o e => by
    rcases r a with y | ⟨p, p', e1, e2, t⟩
    · rw [y] at e
      exact (I.hok a o e).stay (fun _ _ _ q => q) (fun b q => (r.own (fun _ z => by cases z) (fun _ _ z => by cases z) (fun _ z => by cases z)).mpr q) fun b xs q => (r.own (fun _ z => by cases z) (fun _ _ z => by cases z) (fun _ z => by cases z)).mpr q
    · rw [e2] at e
      cases e
      have x := I.hok a _ e1
      rcases t with ⟨vs, rfl, rfl⟩ | ⟨vs, rfl, rfl⟩
      · obtain ⟨⟨z1, z2, us, z3, z4⟩, ⟨ob, eo⟩, _⟩ := x
        refine ⟨by rw [ho a ob eo]; exact eo, z1, z2, us, z3, z4⟩
      · exact x.1
  len := I.len
theorem _root_.L2.Inv.untold (I : Inv X pins σ H' s) (r : RcO X.prog X.w od H H') (nf : ∀ b o u, X.H_0 b = some (.frz o u) → H b = H' b) : Inv X pins σ H s where
  ok := I.ok
  os := I.os
  bare := I.bare
  base := ⟨I.base.keep, I.base.slot, fun b o e1 e2 e3 => r.none.mp (I.base.free b o e1 e2 e3), I.base.there, fun b xs e => (r.own (fun _ z => by cases z) (fun _ _ z => by cases z) (fun _ z => by cases z)).mp (I.base.tups b xs e),
    fun b o u e => by rw [nf b o u e]; exact I.base.frzs b o u e,
    fun b ps e => by
      obtain ⟨more, z⟩ := I.base.tbls b ps e
      exact ⟨more, (r.own (fun _ z => by cases z) (fun _ _ z => by cases z) (fun _ z => by cases z)).mp z⟩⟩
  loc := I.loc
  cell := I.cell
  free := r.none.mp I.free
  freeC := fun x c e => r.none.mp (I.freeC x c e)
  pin := fun p hp => let ⟨z1, z2, z3⟩ := I.pin p hp; ⟨z1, r.none.mp z2, z3⟩
  hok := fun a o e => by
    rcases r a with y | ⟨p, p', e1, e2, t⟩
    · rw [← y] at e
      exact (I.hok a o e).stay (fun _ _ _ q => q) (fun b q => (r.own (fun _ z => by cases z) (fun _ _ z => by cases z) (fun _ z => by cases z)).mp q) fun b xs q => (r.own (fun _ z => by cases z) (fun _ _ z => by cases z) (fun _ z => by cases z)).mp q
    · rw [e1] at e
      cases e
      have x := I.hok a _ e2
      rcases t with ⟨vs, rfl, rfl⟩ | ⟨vs, rfl, rfl⟩
      · exact kk_ok (H := H') x.2
      · exact ls_ok (H := H') x
  len := I.len
/-- an expression, one's own things told as what they are meanwhile -/
theorem PE.rc {e : Expr} {t : TE} (h : PE X e t) : PE X e (fun σ H Q => ∃ told : (Addr → Obj) → Hp, ∀ od, RcO X.prog X.w od H (told od) ∧ t σ (told od) fun v H1 => ∃ H2, RcO X.prog X.w od H2 H1 ∧ (∀ x, H2 x = H1 x ∨ ∃ φ, H x = some (.ext φ)) ∧ Q v H2) := ⟨fun pins s σ H Q I ⟨told, hw⟩ => by
  obtain ⟨r, w⟩ := hw fun x => (s.heap.get? x).getD { cls := .none, data := .plain }
  refine thn (h.run pins s σ _ _ (I.told r fun x ob e => by rw [e]; rfl) w) fun v s1 ⟨x, H1, I1, rv, H2, r2, nf, q⟩ => ⟨x, H2, I1.untold r2 fun b o u e => ?_, rv, q⟩
  rcases nf b with z | ⟨φ, z⟩
  · exact z
  · have := I.base.frzs b o u e
    rw [z] at this
    cases this⟩
theorem PT.rc {e : Expr} {t : TT} (h : PT X e t) : PT X e (fun σ H Q => ∃ told : (Addr → Obj) → Hp, ∀ od, RcO X.prog X.w od H (told od) ∧ t σ (told od) fun v H1 => ∃ H2, RcO X.prog X.w od H2 H1 ∧ (∀ x, H2 x = H1 x ∨ ∃ φ, H x = some (.ext φ)) ∧ Q v H2) := ⟨fun pins s σ H Q I ⟨told, hw⟩ => by
  obtain ⟨r, w⟩ := hw fun x => (s.heap.get? x).getD { cls := .none, data := .plain }
  refine thn (h.run pins s σ _ _ (I.told r fun x ob e => by rw [e]; rfl) w) fun v s1 ⟨H1, I1, H2, r2, nf, q⟩ => ⟨H2, I1.untold r2 fun b o u e => ?_, q⟩
  rcases nf b with z | ⟨φ, z⟩
  · exact z
  · have := I.base.frzs b o u e
    rw [z] at this
    cases this⟩
/-- statements, one's own things told from here on -/
theorem PSs.rc {sts : List Stmt} {t : TS} (h : PSs X sts t) : PSs X sts (fun D σ H => ∃ told : (Addr → Obj) → Hp, ∀ od, RcO X.prog X.w od H (told od) ∧ t D σ (told od)) := ⟨fun pins s σ H D I ⟨told, hw⟩ => by
  obtain ⟨r, w⟩ := hw fun x => (s.heap.get? x).getD { cls := .none, data := .plain }
  exact h.run pins s σ _ _ (I.told r fun x ob e => by rw [e]; rfl) w⟩
end
end DL

namespace DL
variable {T : List (PySem.Addr × PySem.Str)} {Z : Zx T}
open PySem PySem.Spec PyProof.Rows L2 PySem.W
open Evl (Ex)
section
variable {X : Cx} {pins : List (Addr × Obj)} {σ : L2.St} {H : Hp} {s : Shared} {a : Addr} {vs : List (Key × V)}
theorem _root_.L2.Inv.toK (I : Inv X pins σ H s) (e : H a = some (KkE X.prog X.w a vs)) : Inv X pins σ (upd H a (.dK vs)) s := by
  obtain ⟨⟨z1, z2, us, z3, z4⟩, he, _⟩ := I.hok a _ e
  exact d_write (t' := s.toks) I (by rw [e]; exact True.intro) ⟨rfl, fun _ _ => rfl⟩ he ⟨z1, z2, us, z3, z4⟩
theorem _root_.L2.Inv.ofK (I : Inv X pins σ H s) (e : H a = some (.dK vs)) : Inv X pins σ (upd H a (KkE X.prog X.w a vs)) s := by
  have x := I.hok a _ e
  have x2 : ObjOk X.prog X.w (upd H a (KkE X.prog X.w a vs)) s.heap a (KkE X.prog X.w a vs) := kk_ok (H := H) x
  exact d_write (t' := s.toks) I (by rw [e]; exact True.intro) ⟨rfl, fun _ _ => rfl⟩ x2.2.1 x2
end
section
variable {K : PySem.W.Frag} {g : Gx Z} {F : Hp} {env : List SD} {σ : L2.St} {H : Hp}
theorem Ok.kkAt (k : Ok K g F env σ H) {i : Nat} {ds : KVM} (he : env[i]? = some (.dic (.kk ds))) : ∃ a vs, σ[i]? = some (some (.ref a)) ∧ F a = none ∧ H a = some (KkE Z.P Z.w a vs) ∧ DM K F vs ds := by
  obtain ⟨B, db⟩ := k.dic
  obtain ⟨a, h1, h2⟩ := db.at_ i _ he
  obtain ⟨_, vs, h3, h4⟩ := h2.rel
  exact ⟨a, vs, h1, (h2.out a List.mem_cons_self).1, h3, h4⟩
theorem Ok.newKk (k : Ok K g F env σ H) {i : Nat} {p : Addr} {vs : List (Key × V)} {ds : KVM} (hp : H p = none) (np : NoPar env i) (m : DM K F vs ds) : Ok K g F (env.set i (.dic (.kk ds))) (σ.set i (some (.ref p))) (upd H p (KkE Z.P Z.w p vs)) :=
  k.newW hp np ⟨rfl, vs, upd_same, m⟩
theorem Ok.writeKk (k : Ok K g F env σ H) {i : Nat} {ds ds' : KVM} {a : Addr} {vs vs' : List (Key × V)} (he : env[i]? = some (.dic (.kk ds))) (hs : σ[i]? = some (some (.ref a))) (hH : H a = some (KkE Z.P Z.w a vs)) (r : DM K F vs' ds') :
    Ok K g F (env.set i (.dic (.kk ds'))) σ (upd H a (KkE Z.P Z.w a vs')) := by
  obtain ⟨B, db⟩ := k.dic
  obtain ⟨f1, f2, f3, _⟩ := db.there he hs List.mem_cons_self
  refine k.writeW db he hs List.mem_cons_self hH (fun q => codeO_kk) ⟨⟨rfl, vs', upd_same, r⟩, fun x hx => ?_⟩ (fun y hy => by simp at hy)
  rw [List.mem_singleton.mp hx]
  exact ⟨f1, f2, f3, _, upd_same⟩
/-- such a dict becomes a datum -/
theorem Ok.freezeKk (k : Ok K g F env σ H) {i : Nat} {ds : KVM} {a : Addr} {vs : List (Key × V)} (he : env[i]? = some (.dic (.kk ds))) (hs : σ[i]? = some (some (.ref a))) (hH : H a = some (KkE Z.P Z.w a vs)) (r : DM K F vs ds) (ob : Obj) :
    Ex F (upd F a (.frz ob (.dK vs))) ∧ Ok K g (upd F a (.frz ob (.dK vs))) (env.set i (.dat (.dict ds))) σ (upd H a (.frz ob (.dK vs))) := by
  obtain ⟨B, db⟩ := k.dic
  obtain ⟨f1, f2, f3, _⟩ := db.there he hs List.mem_cons_self
  have ex : Ex F (upd F a (.frz ob (.dK vs))) := Ex.new f1
  have ne : ∀ {b : Addr} {us : List V}, H b = some (.lst us) → b ≠ a := fun {b us} e z => by subst z; rw [hH] at e; cases e
  have back : ∀ {l : Nat} {z : Own}, (env.set i (.dat (.dict ds)))[l]? = some (.dic z) → i ≠ l ∧ env[l]? = some (.dic z) := fun {l z} e => by
    rcases get_set e with ⟨_, z⟩ | ⟨n, z⟩
    · cases z
    · exact ⟨n, z⟩
  refine ⟨ex, by simp [k.len], fun b u q => ?_, fun j e hj => ?_, fun j q us hj => ?_, fun j l q r us ws c z1 z2 z3 z4 => ?_, fun j b e => ?_, k.frame.putO hH (fun _ z => by cases z) (fun _ => codeO_kk) (fun o e _ => by rw [f2] at e; cases e), fun b u q => ?_, k.oldF.new f1 (fun _ z => by cases z), fun b u e => ?_, B, fun j w e => ?_, fun j l w1 w2 b c e1 e2 h1 h2 n => ?_⟩
  · by_cases z : b = a
    · subst z
      rw [upd_same] at q ⊢
      exact q
    · rw [upd_ne z] at q ⊢
      exact k.fh b u q
  · rcases get_set hj with ⟨rfl, q⟩ | ⟨n, q⟩
    · cases q
      exact ⟨_, hs, .dct upd_same (r.mono ex)⟩
    · obtain ⟨v, z1, z2⟩ := k.dat j e q
      exact ⟨v, z1, z2.mono ex⟩
  · rcases get_set hj with ⟨_, q⟩ | ⟨n, q⟩
    · cases q
    · obtain ⟨b, ws, z1, z2, z3, z4, z5⟩ := k.cel j _ us q
      exact ⟨b, ws, z1, by rw [upd_ne (ne z3)]; exact z2, by rw [upd_ne (ne z3)]; exact z3, z4.mono ex, z5⟩
  · rcases get_set z1 with ⟨_, e⟩ | ⟨n1, e1⟩
    · cases e
    rcases get_set z2 with ⟨_, e⟩ | ⟨n2, e2⟩
    · cases e
    exact k.sep j l q r us ws c e1 e2 z3 z4
  · obtain ⟨ys, q⟩ := k.pin j b e
    have n : i ≠ j := fun z => by subst z; rw [he] at q; cases q
    exact ⟨ys, by rw [set_ne n]; exact q⟩
  · by_cases z : b = a
    · subst z
      exact .inr f2
    · rw [upd_ne z] at q
      exact k.newF b u q
  · obtain ⟨z1, z2, z3⟩ := k.prot b u e
    have nb : b ≠ a := fun z => by subst z; rw [f3] at e; cases e
    refine ⟨by rw [upd_ne nb]; exact z1, by rw [upd_ne nb]; exact z2, fun j q us hj => ?_⟩
    rcases get_set hj with ⟨_, z⟩ | ⟨_, z⟩
    · cases z
    · exact z3 j q us z
  · obtain ⟨n, e⟩ := back e
    obtain ⟨b, z1, z2⟩ := db.at_ j w e
    have sep := db.sep j i w (.kk ds) b a e he z1 hs fun q => n q.symm
    have kp : ∀ y ∈ b :: B j, y ≠ a := fun y hy q => sep y hy (q ▸ List.mem_cons_self)
    refine ⟨b, z1, z2.rel.keep ex fun y hy => upd_ne (kp y hy), fun y hy => ?_⟩
    obtain ⟨y1, y2, y3, y4⟩ := z2.out y hy
    exact ⟨by rw [upd_ne (kp y hy)]; exact y1, y2, y3, by rw [upd_ne (kp y hy)]; exact y4⟩
  · exact db.sep j l w1 w2 b c (back e1).2 (back e2).2 h1 h2 n
end
section
variable {X : Cx} {e b : Expr} {es : List Expr} {we wb : DE} {was : DA} {m : Nat} {p pos : Pos} {sts : List Stmt}
def rSetKk (P : Program) (w : World) : L2.TSet := fun o i v H Q => ∃ (a : Addr) (vs : List (Key × V)) (k : Key), o = .ref a ∧ i = kV k ∧ H a = some (KkE P w a vs) ∧ vs.length < sizeLine ∧ Q (upd H a (KkE P w a (putK vs k v)))
theorem set_kk (hu : X.A.units + 1 < cLine) : PSet X (rSetKk X.prog X.w) := by
  intro pins s σ H o i v ov iv u Q I ro ri rv h
  obtain ⟨a, vs, k, rfl, rfl, e, hl, q⟩ := h
  cases ro
  refine d_setItem hu (I.toK e) (DPut.k upd_same hl) ri rv fun s' I2 => ?_
  rw [upd_upd] at I2
  have I3 := I2.ofK upd_same
  rw [upd_upd] at I3
  exact ⟨_, I3, q⟩
def putMQ (ds : KVM) (y d : PyData) (K : KVM → Prop) : Prop := keyQ y fun k => ds.length < 100000 ∧ K (putM ds k d)
abbrev dKPut (i : Nat) (wi we : DE) (E : DEnds) (env : List SD) : Prop := we env fun d env1 => match env1[i]? with
  | some (.dic _) => wi env1 fun y env2 => match env2[i]? with
    | some (.dic (.kk ds)) => putMQ ds y d fun ds' => E.nx (env2.set i (.dic (.kk ds')))
    | _ => False
  | _ => False
theorem skput (i : Nat) {k0 : Nat} {x : Str} {p0 p1 : Pos} (hr : Room k0 X.A) (hP : Z.P = X.prog) (hW : Z.w = X.w) (he : PE X e (liftE X.K Z we)) (hi : PE X b (liftE X.K Z wb)) (hN : X.N[i]? = some x := by rfl) (hv : Vis X.env.scope x := by first | exact Or.inl rfl | exact Or.inr (Or.inl rfl) | exact Or.inr (Or.inr rfl)) (hd : (x == ("__debug__" : Str)) = false := by decide)
    (hcd : (x == ("__classdict__" : Str)) = false := by decide)
    (hs : swapsWithSole [.Subscript (.Name x p0) b p1] e pos.line X.env = pure false := by rfl) (hw : swappedStores [.Subscript (.Name x p0) b p1] e X.env = pure none := by rfl)
    (h1 : (assignEach [.Subscript (.Name x p0) b p1] X.env).map (·.2) = [assign (.Subscript (.Name x p0) b p1) X.env] := by rfl)
    (ha : ∀ v, assign (.Subscript (.Name x p0) b p1) X.env v = (do
      let ov ← holding [v] (eval (.Name x p0) X.env)
      let iv ← holding [v, ov] (eval b X.env)
      standAt p1
      holding [v, ov, iv] (setItem ov iv v)
      release [v, ov, iv] []) := by intro _; rfl) : PS X (.Assign [.Subscript (.Name x p0) b p1] e pos) (liftS X.K Z m (dKPut i wb we)) :=
  PS.of (ps_asg he (pg_sub (pe_var hN hv hd hcd) hi (set_kk (by have := hr.u65; omega)) ha) hs hw h1) fun D σ H ⟨g, F, env, P, k, w, q⟩ =>
  ⟨g, F, env, _, k, w, fun d env1 v F1 H1 p e1 k1 r1 => by
    split at p
    · rename_i kvs0 ex
      obtain ⟨a0, b1⟩ := k1.ownAt ex
      refine ⟨_, b1, g, F1, env1, _, k1, p, fun d2 env2 v2 F2 H2 p2 e2 k2 r2 => ?_⟩
      split at p2
      · rename_i ds ex2
        obtain ⟨kk, ek, hl, p2⟩ := keyQ_inv p2
        obtain ⟨a1, vs, c1, c2, c3, c4⟩ := k2.kkAt ex2
        rw [b1] at c1
        cases c1
        obtain rfl := ky_val ek r2
        have k3 := k2.writeKk ex2 b1 c3 (c4.put kk (r1.mono e2))
        rw [hP, hW] at c3 k3
        exact ⟨a0, vs, kk, rfl, rfl, c3, by rw [c4.length, sizeLine_eq]; omega, q.nx _ σ F2 _ p2 (e1.trans e2) k3⟩
      · exact p2.elim
    · exact p.elim⟩
theorem PE.toKk {e : Expr} {t : TE} (h : PE X e t) : PE X e (fun σ H Q => t σ H fun v H1 => ∃ a vs, v = .ref a ∧ H1 a = some (.dK vs) ∧ Q v (upd H1 a (KkE X.prog X.w a vs))) := ⟨fun pins s σ H Q I hw => by
  refine thn (h.run pins s σ H _ I hw) fun v s1 ⟨x, H1, I1, r, a, vs, ea, eu, q⟩ => ?_
  exact ⟨x, _, I1.ofK eu, r, q⟩⟩
abbrev dKNew (i : Nat) (E : DEnds) (env : List SD) : Prop := bIf (noPar env i) (E.nx (env.set i (.dic (.kk [])))) False
theorem sknew (i : Nat) {x : Str} {pos' p2 : Pos} (hN : X.N.Nodup) (hP : Z.P = X.prog) (hW : Z.w = X.w) (hi : X.N[i]? = some x := by rfl) (hx : Loc X.env.scope x := by first | exact Or.inl rfl | exact Or.inr rfl) (hs : swapsWith (.Dict [] [] p2) (some (.Name x pos')) pos.line X.env = pure false := by rfl)
    (hf : X.fn x = true ∨ X.env.scope.names.lookup x = some .local := by first | exact .inl rfl | exact .inr rfl) : PS X (.Assign [.Name x pos'] (.Dict [] [] p2) pos) (liftS X.K Z m (dKNew i)) := PS.of (ps_set hN hi hx (PE.toKk pe_dnewK) hs hf) fun D σ H ⟨g, F, env, P, k, w, q⟩ => by
  obtain ⟨w1, w2⟩ := bIf_and w
  refine fun p hp => ⟨p, [], rfl, upd_same, ?_⟩
  rw [upd_upd]
  refine q.nx _ _ F _ w2 (Ex.refl F) ?_
  have := k.newKk hp (noPar_of w1) .nil
  rw [hP, hW] at this
  exact this
end
end DL

namespace DL
variable {T : List (PySem.Addr × PySem.Str)} {Z : Zx T}
open PySem PySem.Spec PyProof.Rows L2 PySem.W
open Evl (Ex)
/-- what the thing at x is told as -/
def TVal (K : PySem.W.Frag) (Z : Zx T) (F H : Hp) (env : List SD) (σ : L2.St) (B : Nat → List Addr) (x : Addr) (f : Obj → HO) : Prop :=
  (∃ (i : Nat) (ds : KVM) (vs : List (Key × V)), env[i]? = some (.dic (.kk ds)) ∧ σ[i]? = some (some (.ref x)) ∧ H x = some (KkE Z.P Z.w x vs) ∧ DM K F vs ds ∧ f = fun o => .frz o (.dK vs)) ∨
  (∃ (i : Nat) (rows : List (List PyData)), env[i]? = some (.dic (.mt rows)) ∧ σ[i]? = some (some (.ref x)) ∧ H x = some (LsE x ((B i).map .ref)) ∧ f = fun _ => .lst ((B i).map .ref)) ∨
  ∃ (i : Nat) (rows : List (List PyData)) (a : Addr) (j : Nat) (vs : List V) (row : List PyData), env[i]? = some (.dic (.mt rows)) ∧ σ[i]? = some (some (.ref a)) ∧ (B i)[j]? = some x ∧ rows[j]? = some row ∧ H x = some (LsE x vs) ∧ DRs K F vs row ∧ f = fun _ => .lst vs
def frzW1 : SD → SD
  | .cel _ xs => .dat (.list xs)
  | .dic (.kk ds) => .dat (.dict ds)
  | .dic (.mt rows) => .dat (.list (rows.map .list))
  | .dic (.tk _) => .un
  | s => s
def frzW (env : List SD) : List SD := env.map frzW1
def tBorW (w : DT) (env : List SD) (P : Bool → List SD → Prop) : Prop := w (frzW env) fun b _ => P b env
theorem pairedG {α β : Type} {R : α → β → Prop} {xs : List α} {ys : List β} (h : Paired R xs ys) : ∀ {i : Nat} {x : α} {y : β}, xs[i]? = some x → ys[i]? = some y → R x y := by
  induction h with
  | nil => intro i x y e _; simp at e
  | cons r t ih =>
    intro i x y e1 e2
    cases i with
    | zero => simp at e1 e2; subst e1 e2; exact r
    | succ i => exact ih (i := i) (by simpa using e1) (by simpa using e2)
theorem nodupG {α : Type} {l : List α} (h : l.Nodup) {i j : Nat} {x : α} (e1 : l[i]? = some x) (e2 : l[j]? = some x) : i = j := by
  obtain ⟨h1, e1⟩ := List.getElem?_eq_some_iff.mp e1
  obtain ⟨h2, e2⟩ := List.getElem?_eq_some_iff.mp e2
  have pw := List.pairwise_iff_getElem.mp h
  rcases Nat.lt_trichotomy i j with z | z | z
  · exact absurd (e1.trans e2.symm) (pw i j h1 h2 z)
  · exact z
  · exact absurd (e2.trans e1.symm) (pw j i h2 h1 z)
section
variable {K : PySem.W.Frag} {g : Gx Z} {F : Hp} {env : List SD} {σ : L2.St} {H : Hp} {B : Nat → List Addr}
theorem TVal.out (db : DicsB K g F env σ H B) {x : Addr} {f : Obj → HO} (t : TVal K Z F H env σ B x f) : F x = none ∧ g.H0 x = none ∧ ∃ o, H x = some o ∧ (∃ φ, o = .ext φ) ∧ (∀ q, o ≠ LamX.CodeO x q) ∧ ∀ (od : Addr → Obj), ToldO Z.P Z.w od x o (f (od x)) := by
  rcases t with ⟨i, ds, vs, e1, e2, e3, e4, rfl⟩ | ⟨i, rows, e1, e2, e3, rfl⟩ | ⟨i, rows, a, j, vs, row, e1, e2, e3, e4, e5, e6, rfl⟩
  · obtain ⟨f1, f2, _⟩ := db.there e1 e2 List.mem_cons_self
    exact ⟨f1, f2, _, e3, ⟨_, rfl⟩, fun _ => codeO_kk, fun od => .inl ⟨vs, rfl, rfl⟩⟩
  · obtain ⟨f1, f2, _⟩ := db.there e1 e2 List.mem_cons_self
    exact ⟨f1, f2, _, e3, ⟨_, rfl⟩, fun _ => codeO_ls, fun od => .inr ⟨_, rfl, rfl⟩⟩
  · obtain ⟨f1, f2, _⟩ := db.there e1 e2 (List.mem_cons_of_mem _ (List.mem_of_getElem? e3))
    exact ⟨f1, f2, _, e5, ⟨_, rfl⟩, fun _ => codeO_ls, fun od => .inr ⟨_, rfl, rfl⟩⟩
theorem TVal.form {x : Addr} {f : Obj → HO} (t : TVal K Z F H env σ B x f) (o : Obj) : (∃ vs, f o = .frz o (.dK vs)) ∨ ∃ vs, f o = .lst vs := by
  rcases t with ⟨i, ds, vs, e1, e2, e3, e4, rfl⟩ | ⟨i, rows, e1, e2, e3, rfl⟩ | ⟨i, rows, a, j, vs, row, e1, e2, e3, e4, e5, e6, rfl⟩
  · exact .inl ⟨_, rfl⟩
  · exact .inr ⟨_, rfl⟩
  · exact .inr ⟨_, rfl⟩
/-- two places of one's own things are one slot's -/
theorem DicsB.one (db : DicsB K g F env σ H B) {i j : Nat} {w w' : Own} {a b x : Addr} (e1 : env[i]? = some (.dic w)) (e2 : env[j]? = some (.dic w')) (s1 : σ[i]? = some (some (.ref a))) (s2 : σ[j]? = some (some (.ref b))) (h1 : x ∈ a :: B i) (h2 : x ∈ b :: B j) : i = j := by
  by_cases n : i = j
  · exact n
  · exact absurd h2 (db.sep i j w w' a b e1 e2 s1 s2 n x h1)
theorem TVal.kk (db : DicsB K g F env σ H B) {i : Nat} {ds : KVM} {x : Addr} {f : Obj → HO} (t : TVal K Z F H env σ B x f) (e : env[i]? = some (.dic (.kk ds))) (s : σ[i]? = some (some (.ref x))) : ∃ vs, DM K F vs ds ∧ f = fun o => .frz o (.dK vs) := by
  rcases t with ⟨i', ds', vs, e1, e2, e3, e4, rfl⟩ | ⟨i', rows, e1, e2, e3, rfl⟩ | ⟨i', rows, a, j, vs, row, e1, e2, e3, e4, e5, e6, rfl⟩
  · have := db.one e e1 s e2 List.mem_cons_self List.mem_cons_self
    subst this
    rw [e] at e1
    cases e1
    exact ⟨vs, e4, rfl⟩
  · have := db.one e e1 s e2 List.mem_cons_self List.mem_cons_self
    subst this
    rw [e] at e1
    cases e1
  · have := db.one e e1 s e2 List.mem_cons_self (List.mem_cons_of_mem _ (List.mem_of_getElem? e3))
    subst this
    rw [e] at e1
    cases e1
theorem TVal.mt (db : DicsB K g F env σ H B) {i : Nat} {rows : List (List PyData)} {x : Addr} {f : Obj → HO} (t : TVal K Z F H env σ B x f) (e : env[i]? = some (.dic (.mt rows))) (s : σ[i]? = some (some (.ref x))) : f = fun _ => .lst ((B i).map .ref) := by
  rcases t with ⟨i', ds', vs, e1, e2, e3, e4, rfl⟩ | ⟨i', rows', e1, e2, e3, rfl⟩ | ⟨i', rows', a, j, vs, row, e1, e2, e3, e4, e5, e6, rfl⟩
  · have := db.one e e1 s e2 List.mem_cons_self List.mem_cons_self
    subst this
    rw [e] at e1
    cases e1
  · have := db.one e e1 s e2 List.mem_cons_self List.mem_cons_self
    subst this
    rfl
  · have := db.one e e1 s e2 List.mem_cons_self (List.mem_cons_of_mem _ (List.mem_of_getElem? e3))
    subst this
    obtain ⟨c, y1, y2⟩ := db.at_ i _ e
    rw [s] at y1
    cases y1
    exact absurd (List.mem_of_getElem? e3) (List.nodup_cons.mp y2.rel.1.2).1
theorem TVal.row (db : DicsB K g F env σ H B) {i j : Nat} {rows : List (List PyData)} {row : List PyData} {a x : Addr} {f : Obj → HO} (t : TVal K Z F H env σ B x f) (e : env[i]? = some (.dic (.mt rows))) (s : σ[i]? = some (some (.ref a))) (hx : (B i)[j]? = some x) (hr : rows[j]? = some row) : ∃ vs, DRs K F vs row ∧ f = fun _ => .lst vs := by
  have mx : x ∈ a :: B i := List.mem_cons_of_mem _ (List.mem_of_getElem? hx)
  obtain ⟨c, y1, y2⟩ := db.at_ i _ e
  rw [s] at y1
  cases y1
  have nd := List.nodup_cons.mp y2.rel.1.2
  rcases t with ⟨i', ds', vs, e1, e2, e3, e4, rfl⟩ | ⟨i', rows', e1, e2, e3, rfl⟩ | ⟨i', rows', a', j', vs, row', e1, e2, e3, e4, e5, e6, rfl⟩
  · have := db.one e e1 s e2 mx List.mem_cons_self
    subst this
    rw [e] at e1
    cases e1
  · have := db.one e e1 s e2 mx List.mem_cons_self
    subst this
    rw [s] at e2
    cases e2
    exact absurd (List.mem_of_getElem? hx) nd.1
  · have := db.one e e1 s e2 mx (List.mem_cons_of_mem _ (List.mem_of_getElem? e3))
    subst this
    rw [e] at e1
    cases e1
    have := nodupG nd.2 hx e3
    subst this
    rw [hr] at e4
    cases e4
    exact ⟨vs, e6, rfl⟩
theorem tabs_to {H H' : Hp} (t : LamX.Tabs T H) (h1 : ∀ x ps, H x = some (.tbl ps) → H' x = some (.tbl ps)) (h2 : ∀ x q, H x = some (LamX.CodeO x q) → H' x = some (LamX.CodeO x q)) : LamX.Tabs T H' := fun p hp => by
  obtain ⟨ps, a1, a2, a3⟩ := t p hp
  exact ⟨ps, h1 _ _ a1, a2, fun pos cv hc => let ⟨c, z1, z2⟩ := a3 pos cv hc; ⟨c, z1, h2 _ _ z2⟩⟩
theorem Ok.lendW (k : Ok K g F env σ H) : ∃ told : (Addr → Obj) → Hp, ∀ od, RcO Z.P Z.w od H (told od) ∧ ∃ (Z' : Zx T) (g' : Gx Z') (F' : Hp), Ok K g' F' (frzW env) σ (told od) ∧ Z'.H0 = told od ∧ (∀ i, Z'.A0 i = none) ∧
    ∀ H1, Frm T (told od) (fun _ => True) H1 → Ex F' H1 → ∃ H2, RcO Z.P Z.w od H2 H1 ∧ (∀ x, H2 x = H1 x ∨ ∃ φ, H x = some (.ext φ)) ∧ Ok K g F env σ H2 := by
  classical
  obtain ⟨B, db⟩ := k.dic
  let tv : Addr → Prop := fun x => ∃ f, TVal K Z F H env σ B x f
  let told : (Addr → Obj) → Hp := fun od x => if h : tv x then some (Classical.choose h (od x)) else H x
  have yes : ∀ od {x : Addr} (h : tv x), ∃ f, TVal K Z F H env σ B x f ∧ told od x = some (f (od x)) := fun od {x} h => ⟨_, Classical.choose_spec h, by show (if h : tv x then _ else _) = _; rw [dif_pos h]⟩
  have no : ∀ od {x : Addr}, ¬ tv x → told od x = H x := fun od {x} h => by show (if h : tv x then _ else _) = _; rw [dif_neg h]
  refine ⟨told, fun od => ?_⟩
  have rc : RcO Z.P Z.w od H (told od) := fun x => by
    by_cases h : tv x
    · obtain ⟨f, t, e⟩ := yes od h
      obtain ⟨_, _, o, e1, _, _, e2⟩ := t.out db
      exact .inr ⟨o, _, e1, e, e2 od⟩
    · exact .inl (no od h)
  refine ⟨rc, ?_⟩
  let c : Addr → Prop := fun a => ∃ (i : Nat) (p : Bool) (xs : List PyData), env[i]? = some (.cel p xs) ∧ σ[i]? = some (some (.ref a))
  have celH : ∀ {a : Addr}, c a → ∃ vs, H a = some (.lst vs) := fun {a} ⟨i, p, xs, e, h1⟩ => by
    obtain ⟨b, vs, b1, _, b3, _⟩ := k.cel i p xs e
    rw [h1] at b1
    cases b1
    exact ⟨vs, b3⟩
  have ntv : ∀ {a : Addr} {vs : List V}, H a = some (.lst vs) → ¬ tv a := fun {a vs} e ⟨f, t⟩ => by
    obtain ⟨_, _, o, e1, ⟨φ, rfl⟩, _⟩ := t.out db
    rw [e] at e1
    cases e1
  let F' : Hp := fun a => if tv a then told od a else if c a then H a else F a
  have F'y : ∀ {a : Addr}, tv a → F' a = told od a := fun {a} h => if_pos h
  have F'c : ∀ {a : Addr}, ¬ tv a → c a → F' a = H a := fun {a} h1 h2 => by show (if tv a then _ else _) = _; rw [if_neg h1, if_pos h2]
  have F'n : ∀ {a : Addr}, ¬ tv a → ¬ c a → F' a = F a := fun {a} h1 h2 => by show (if tv a then _ else _) = _; rw [if_neg h1, if_neg h2]
  have ex : Ex F F' := fun a o h => by
    have nt : ¬ tv a := fun ⟨f, t⟩ => by
      have := (t.out db).1
      rw [h] at this
      cases this
    by_cases z : c a
    · rw [F'c nt z]; exact k.fh a o h
    · rw [F'n nt z]; exact h
  have fh : Ex F' (told od) := fun a o h => by
    by_cases y : tv a
    · rw [F'y y] at h; exact h
    · rw [no od y]
      by_cases z : c a
      · rw [F'c y z] at h; exact h
      · rw [F'n y z] at h; exact k.fh a o h
  have nt : ∀ a ps, F' a ≠ some (.tbl ps) := fun a ps h => by
    by_cases y : tv a
    · rw [F'y y] at h
      obtain ⟨f, t, e⟩ := yes od y
      rw [e] at h
      rcases t.form (od a) with ⟨vs, z⟩ | ⟨vs, z⟩ <;> (rw [z] at h; cases h)
    · by_cases z : c a
      · rw [F'c y z] at h
        obtain ⟨vs, e⟩ := celH z
        rw [e] at h
        cases h
      · rw [F'n y z] at h
        exact k.oldF.2 a ps h
  have tb : LamX.Tabs T (told od) := tabs_to k.frame.tab (fun x ps e => by
      rw [no od fun ⟨f, t⟩ => by
        obtain ⟨_, _, o, e1, ⟨φ, rfl⟩, _⟩ := t.out db
        rw [e] at e1
        cases e1]
      exact e) fun x q e => by
      rw [no od fun ⟨f, t⟩ => by
        obtain ⟨_, _, o, e1, _, n, _⟩ := t.out db
        rw [e] at e1
        exact n q (Option.some.inj e1).symm]
      exact e
  have at_ : ∀ {i : Nat} {s : SD}, (frzW env)[i]? = some s → ∃ s0, env[i]? = some s0 ∧ s = frzW1 s0 := fun {i s} h => by
    unfold frzW at h
    rw [List.getElem?_map] at h
    cases e : env[i]? with
    | none => rw [e] at h; cases h
    | some s0 => rw [e] at h; exact ⟨s0, rfl, (Option.some.inj h).symm⟩
  refine ⟨⟨F', told od, fun _ => none, fun _ => none, Z.P, Z.w⟩, ⟨fun _ => none, fun _ _ h => h, fun _ _ h => by cases h⟩, F', ⟨?_, fh, fun i d h => ?_, fun i p xs h => ?_, fun i j p q xs ys a h => ?_, fun i a h => ?_, Frm.refl tb, fun a o h => .inl h, ⟨Ex.refl _, nt⟩, fun a o h => ?_, DicsOk.none fun i w h => ?_⟩, rfl, fun _ => rfl, fun H1 fr eh => ?_⟩
  · unfold frzW
    rw [List.length_map]
    exact k.len
  · obtain ⟨s0, e, es⟩ := at_ h
    cases s0 with
    | un => cases es
    | dat d' =>
      cases es
      obtain ⟨v, h1, h2⟩ := k.dat i _ e
      exact ⟨v, h1, h2.mono ex⟩
    | cel p xs =>
      cases es
      obtain ⟨a, vs, h1, h2, h3, h4, h5⟩ := k.cel i p xs e
      refine ⟨_, h1, .lst (RdL.of (xs := vs) ?_) (h4.mono ex)⟩
      rw [F'c (ntv h3) ⟨i, p, xs, e, h1⟩]
      exact h3
    | dic w =>
      obtain ⟨a, h1, h2⟩ := db.at_ i w e
      cases w with
      | tk kvs => cases es
      | kk ds =>
        cases es
        obtain ⟨_, vs, h3, h4⟩ := h2.rel
        have y : tv a := ⟨_, .inl ⟨i, ds, vs, e, h1, h3, h4, rfl⟩⟩
        obtain ⟨f, t, ef⟩ := yes od y
        obtain ⟨vs', m, rfl⟩ := t.kk db e h1
        exact ⟨_, h1, .dct (by rw [F'y y]; exact ef) (m.mono ex)⟩
      | mt rows =>
        cases es
        obtain ⟨⟨h3, nd⟩, hp⟩ := h2.rel
        have y : tv a := ⟨_, .inr (.inl ⟨i, rows, e, h1, h3, rfl⟩)⟩
        obtain ⟨f, t, ef⟩ := yes od y
        obtain rfl := t.mt db e h1
        refine ⟨_, h1, .lst (RdL.of (by rw [F'y y]; exact ef)) ?_⟩
        have all : ∀ (n : Nat) (bs : List Addr) (rs : List (List PyData)), bs.length = rs.length → (∀ j b, bs[j]? = some b → (B i)[n + j]? = some b) → (∀ j r, rs[j]? = some r → rows[n + j]? = some r) → DRs K F' (bs.map V.ref) (rs.map PyData.list) := fun n bs => by
          induction bs generalizing n with
          | nil =>
            intro rs hl _ _
            cases rs with
            | nil => exact .nil
            | cons _ _ => simp at hl
          | cons b bs ih =>
            intro rs hl hb hr
            cases rs with
            | nil => simp at hl
            | cons r rs =>
              have b0 := hb 0 b rfl
              have r0 := hr 0 r rfl
              obtain ⟨us, z1, z2⟩ := pairedG hp b0 r0
              have y : tv b := ⟨_, .inr (.inr ⟨i, rows, a, n + 0, us, r, e, h1, b0, r0, z1, z2, rfl⟩)⟩
              obtain ⟨f, t, ef⟩ := yes od y
              obtain ⟨vs', m, rfl⟩ := t.row db e h1 b0 r0
              refine .cons (.lst (RdL.of (by rw [F'y y]; exact ef)) (m.mono ex)) (ih (n + 1) rs (by simpa using hl) (fun j c hj => ?_) fun j c hj => ?_)
              · have := hb (j + 1) c (by simpa using hj)
                rwa [show n + (j + 1) = n + 1 + j by omega] at this
              · have := hr (j + 1) c (by simpa using hj)
                rwa [show n + (j + 1) = n + 1 + j by omega] at this
        exact all 0 (B i) rows (Paired.length hp) (fun j b hj => by simpa using hj) fun j r hj => by simpa using hj
  · obtain ⟨s0, e, es⟩ := at_ h
    cases s0 with
    | dic w => cases w <;> cases es
    | _ => cases es
  · obtain ⟨s0, e, es⟩ := at_ h
    cases s0 with
    | dic w => cases w <;> cases es
    | _ => cases es
  · cases h
  · cases h
  · obtain ⟨s0, e, es⟩ := at_ h
    cases s0 with
    | dic w => cases w <;> cases es
    | _ => cases es
  · let H2 : Hp := fun x => if tv x then H x else H1 x
    have y2 : ∀ {x : Addr}, tv x → H2 x = H x := fun {x} h => if_pos h
    have n2 : ∀ {x : Addr}, ¬ tv x → H2 x = H1 x := fun {x} h => if_neg h
    have st : ∀ {x : Addr}, tv x → ∃ f, TVal K Z F H env σ B x f ∧ H1 x = some (f (od x)) := fun {x} h => by
      obtain ⟨f, t, e⟩ := yes od h
      exact ⟨f, t, (fr.stay x _ e trivial).same fun ps z => by rcases t.form (od x) with ⟨vs, y⟩ | ⟨vs, y⟩ <;> (rw [y] at z; cases z)⟩
    refine ⟨H2, fun x => ?_, fun x => ?_, k.later ⟨fun a o e _ => ?_, tabs_to fr.tab (fun x ps e => ?_) fun x q e => ?_⟩ fun a o e => ?_⟩
    · by_cases h : tv x
      · obtain ⟨f, t, e⟩ := st h
        obtain ⟨_, _, o, e1, _, _, e2⟩ := t.out db
        exact .inr ⟨o, _, (y2 h).trans e1, e, e2 od⟩
      · exact .inl (n2 h).symm
    · by_cases h : tv x
      · obtain ⟨f, t, e⟩ := st h
        obtain ⟨_, _, o, e1, ⟨φ, rfl⟩, _⟩ := t.out db
        exact .inr ⟨φ, e1⟩
      · exact .inl (n2 h)
    · by_cases h : tv a
      · exact .inl ((y2 h).trans e)
      · rw [n2 h]
        exact fr.stay a o ((no od h).trans e) trivial
    · rw [n2 fun h => by
        obtain ⟨f, t, ef⟩ := st h
        rw [e] at ef
        rcases t.form (od x) with ⟨vs, y⟩ | ⟨vs, y⟩ <;> (rw [y] at ef; cases ef)]
      exact e
    · rw [n2 fun h => by
        obtain ⟨f, t, ef⟩ := st h
        rw [e] at ef
        unfold LamX.CodeO at ef
        rcases t.form (od x) with ⟨vs, y⟩ | ⟨vs, y⟩ <;> (rw [y] at ef; cases ef)]
      exact e
    · have z := eh a o (ex a o e)
      rw [n2 fun ⟨f, t⟩ => by
        have := (t.out db).1
        rw [e] at this
        cases this]
      exact z
end
section
variable {X : Cx} {e : Expr}
theorem tborW (hP : Z.P = X.prog) (hW : Z.w = X.w) {w : DT} (h : ∀ {Z : Zx T}, PT X e (liftT X.K Z w)) : PT X e (liftT X.K Z (tBorW w)) := PT.of (PT.rc (PT.anyZ fun Z => h (Z := Z))) fun σ H Q ⟨g, F, env, P, k, w, q⟩ => by
  obtain ⟨told, hl⟩ := k.lendW
  rw [hP, hW] at hl
  refine ⟨told, fun od => ?_⟩
  obtain ⟨r, Z', g', F', k', e1, e2, back⟩ := hl od
  refine ⟨r, Z', g', F', frzW env, _, k', w, fun d env1 F1 H1 p e3 k1 => ?_⟩
  have eh : Frm T (told od) (fun _ => True) H1 := by
    have z := k1.frame
    rw [show g'.H0 = told od from e1] at z
    exact z.weak fun a o _ _ i y => by rw [show g'.A0 i = none from e2 i] at y; cases y
  obtain ⟨H2, r2, nf, k2⟩ := back H1 eh (e3.trans k1.fh)
  exact ⟨H2, r2, nf, q d env F H2 p (Ex.refl F) k2⟩
end
end DL

namespace DL
variable {T : List (PySem.Addr × PySem.Str)} {Z : Zx T}
open PySem PySem.Spec PyProof.Rows L2 PySem.W
open Evl (Ex)
section
variable {X : Cx} {pins : List (Addr × Obj)} {σ : L2.St} {H : Hp} {s : Shared} {a : Addr} {vs : List V}
end
section
variable {X : Cx} {e : Expr} {st : Stmt}
end
section
variable {K : PySem.W.Frag} {g : Gx Z} {F : Hp} {env : List SD} {σ : L2.St} {H : Hp}
theorem Paired.setR {α β : Type} {R : α → β → Prop} {xs : List α} {ys : List β} (h : Paired R xs ys) : ∀ {j : Nat} {y : β}, (∀ x, xs[j]? = some x → R x y) → Paired R xs (ys.set j y) := by
  induction h with
  | nil => intro j y _; exact .nil
  | cons r t ih =>
    intro j y hy
    cases j with
    | zero => exact .cons (hy _ rfl) t
    | succ j => exact .cons r (ih fun x hx => hy x (by simpa using hx))
end
end DL

namespace DL
variable {T : List (PySem.Addr × PySem.Str)} {Z : Zx T}
open PySem PySem.Spec PyProof.Rows L2 PySem.W
open Evl (Ex)
section
variable {X : Cx} {e b : Expr} {es : List Expr} {we wb : DE} {m : Nat} {p pos : Pos} {sts : List Stmt} {st : Stmt}
theorem _root_.DL.Ok.freezeMt {K : PySem.W.Frag} {g : Gx Z} {F : Hp} {env : List SD} {σ : L2.St} {H : Hp} (k : Ok K g F env σ H) {i : Nat} {rows : List (List PyData)} (he : env[i]? = some (.dic (.mt rows))) (P : Program) (w0 : World) :
    ∃ (H' F' : Hp), (∀ od, RcO P w0 od H H') ∧ Ex F F' ∧ Ok K g F' (env.set i (.dat (.list (rows.map .list)))) σ H' := by
  classical
  obtain ⟨B, db⟩ := k.dic
  obtain ⟨a, hs, oa⟩ := db.at_ i _ he
  obtain ⟨⟨h3, nd⟩, hpr⟩ := oa.rel
  have nd1 := List.nodup_cons.mp nd
  -- what stands at each place
  have cont : ∀ x ∈ a :: B i, ∃ vs, H x = some (LsE x vs) ∧ (x = a → vs = (B i).map .ref) ∧ ∀ (j : Nat) (row : List PyData), (B i)[j]? = some x → rows[j]? = some row → DRs K F vs row := fun x hx => by
    rcases List.mem_cons.mp hx with rfl | hx
    · exact ⟨_, h3, fun _ => rfl, fun j row e _ => absurd (List.mem_of_getElem? e) nd1.1⟩
    · obtain ⟨j, hj⟩ := List.getElem?_of_mem hx
      have hjl : j < rows.length := by rw [← Paired.length hpr]; exact (List.getElem?_eq_some_iff.mp hj).1
      obtain ⟨us, z1, z2⟩ := pairedG hpr hj (List.getElem?_eq_getElem hjl)
      refine ⟨us, z1, fun z => absurd (z ▸ hx) nd1.1, fun j2 row e1 e2 => ?_⟩
      have := nodupG nd1.2 hj e1
      subst this
      rw [List.getElem?_eq_getElem hjl] at e2
      cases e2
      exact z2
  let c : Addr → List V := fun x => if h : x ∈ a :: B i then Classical.choose (cont x h) else []
  have cs : ∀ {x : Addr} (h : x ∈ a :: B i), H x = some (LsE x (c x)) ∧ (x = a → c x = (B i).map .ref) ∧ ∀ (j : Nat) (row : List PyData), (B i)[j]? = some x → rows[j]? = some row → DRs K F (c x) row := fun {x} h => by
    have e : c x = Classical.choose (cont x h) := dif_pos h
    rw [e]
    exact Classical.choose_spec (cont x h)
  let H' : Hp := fun x => if x ∈ a :: B i then some (.lst (c x)) else H x
  let F' : Hp := fun x => if x ∈ a :: B i then some (.lst (c x)) else F x
  have Hy : ∀ {x : Addr}, x ∈ a :: B i → H' x = some (.lst (c x)) := fun h => if_pos h
  have Hn : ∀ {x : Addr}, x ∉ a :: B i → H' x = H x := fun h => if_neg h
  have Fy : ∀ {x : Addr}, x ∈ a :: B i → F' x = some (.lst (c x)) := fun h => if_pos h
  have Fn : ∀ {x : Addr}, x ∉ a :: B i → F' x = F x := fun h => if_neg h
  have ex : Ex F F' := fun x o e => by
    rw [Fn fun h => by
      have := (oa.out x h).1
      rw [e] at this
      cases this]
    exact e
  have nl : ∀ {x : Addr} {vs : List V}, H x = some (.lst vs) → x ∉ a :: B i := fun {x vs} e h => by
    rw [(cs h).1] at e
    cases e
  have back : ∀ {l : Nat} {z : Own}, (env.set i (.dat (.list (rows.map .list))))[l]? = some (.dic z) → i ≠ l ∧ env[l]? = some (.dic z) := fun {l z} e => by
    rcases get_set e with ⟨_, z⟩ | ⟨n, z⟩
    · cases z
    · exact ⟨n, z⟩
  refine ⟨H', F', fun od x => ?_, ex, by simp [k.len], fun b u q => ?_, fun j e hj => ?_, fun j q us hj => ?_, fun j l q r us ws c z1 z2 z3 z4 => ?_, fun j b e => ?_, ⟨fun b o e n => ?_, tabs_to k.frame.tab (fun x ps e => ?_) fun x q e => ?_⟩, fun b u q => ?_, ⟨k.oldF.1.trans ex, fun b ps e => ?_⟩, fun b u e => ?_, B, fun j w e => ?_, fun j l w1 w2 b c e1 e2 h1 h2 n => ?_⟩
  · by_cases h : x ∈ a :: B i
    · exact .inr ⟨_, _, (cs h).1, Hy h, .inr ⟨_, rfl, rfl⟩⟩
    · exact .inl (Hn h)
  · by_cases h : b ∈ a :: B i
    · rw [Fy h] at q
      rw [Hy h]
      exact q
    · rw [Fn h] at q
      rw [Hn h]
      exact k.fh b u q
  · rcases get_set hj with ⟨rfl, q⟩ | ⟨n, q⟩
    · cases q
      refine ⟨_, hs, .lst (RdL.of (by rw [Fy List.mem_cons_self, (cs List.mem_cons_self).2.1 rfl])) ?_⟩
      have all : ∀ (n : Nat) (bs : List Addr) (rs : List (List PyData)), bs.length = rs.length → (∀ j b, bs[j]? = some b → (B i)[n + j]? = some b) → (∀ j r, rs[j]? = some r → rows[n + j]? = some r) → DRs K F' (bs.map V.ref) (rs.map PyData.list) := fun n bs => by
        induction bs generalizing n with
        | nil =>
          intro rs hl _ _
          cases rs with
          | nil => exact .nil
          | cons _ _ => simp at hl
        | cons b bs ih =>
          intro rs hl hb hr
          cases rs with
          | nil => simp at hl
          | cons r rs =>
            have b0 := hb 0 b rfl
            have r0 := hr 0 r rfl
            have mb : b ∈ a :: B i := List.mem_cons_of_mem _ (List.mem_of_getElem? b0)
            refine .cons (.lst (RdL.of (Fy mb)) (((cs mb).2.2 _ _ b0 r0).mono ex)) (ih (n + 1) rs (by simpa using hl) (fun j c hj => ?_) fun j c hj => ?_)
            · have := hb (j + 1) c (by simpa using hj)
              rwa [show n + (j + 1) = n + 1 + j by omega] at this
            · have := hr (j + 1) c (by simpa using hj)
              rwa [show n + (j + 1) = n + 1 + j by omega] at this
      exact all 0 (B i) rows (Paired.length hpr) (fun j b hj => by simpa using hj) fun j r hj => by simpa using hj
    · obtain ⟨v, z1, z2⟩ := k.dat j e q
      exact ⟨v, z1, z2.mono ex⟩
  · rcases get_set hj with ⟨_, q⟩ | ⟨n, q⟩
    · cases q
    · obtain ⟨b, ws, z1, z2, z3, z4, z5⟩ := k.cel j _ us q
      exact ⟨b, ws, z1, by rw [Fn (nl z3)]; exact z2, by rw [Hn (nl z3)]; exact z3, z4.mono ex, z5⟩
  · rcases get_set z1 with ⟨_, e⟩ | ⟨n1, e1⟩
    · cases e
    rcases get_set z2 with ⟨_, e⟩ | ⟨n2, e2⟩
    · cases e
    exact k.sep j l q r us ws c e1 e2 z3 z4
  · obtain ⟨ys, q⟩ := k.pin j b e
    have n : i ≠ j := fun z => by subst z; rw [he] at q; cases q
    exact ⟨ys, by rw [set_ne n]; exact q⟩
  · rw [Hn fun h => by
      have := (oa.out b h).2.1
      rw [e] at this
      cases this]
    exact k.frame.stay b o e n
  · rw [Hn fun h => by rw [(cs h).1] at e; cases e]
    exact e
  · rw [Hn fun h => by rw [(cs h).1] at e; exact codeO_ls (Option.some.inj e)]
    exact e
  · by_cases h : b ∈ a :: B i
    · exact .inr (oa.out b h).2.1
    · rw [Fn h] at q
      exact k.newF b u q
  · by_cases h : b ∈ a :: B i
    · rw [Fy h] at e
      cases e
    · rw [Fn h] at e
      exact k.oldF.2 b ps e
  · obtain ⟨z1, z2, z3⟩ := k.prot b u e
    have nb : b ∉ a :: B i := fun h => by
      have := (oa.out b h).2.2.1
      rw [e] at this
      cases this
    refine ⟨by rw [Hn nb]; exact z1, by rw [Fn nb]; exact z2, fun j q us hj => ?_⟩
    rcases get_set hj with ⟨_, z⟩ | ⟨_, z⟩
    · cases z
    · exact z3 j q us z
  · obtain ⟨n, e⟩ := back e
    obtain ⟨b, z1, z2⟩ := db.at_ j w e
    have sep := db.sep j i w (.mt rows) b a e he z1 hs fun q => n q.symm
    refine ⟨b, z1, z2.rel.keep ex fun y hy => Hn (sep y hy), fun y hy => ?_⟩
    obtain ⟨y1, y2, y3, y4⟩ := z2.out y hy
    exact ⟨by rw [Fn (sep y hy)]; exact y1, y2, y3, by rw [Hn (sep y hy)]; exact y4⟩
  · exact db.sep j l w1 w2 b c (back e1).2 (back e2).2 h1 h2 n
abbrev dFrzW (i : Nat) (w : DS) (E : DEnds) (env : List SD) : Prop := match env[i]? with
  | some (.dic (.kk ds)) => w E (env.set i (.dat (.dict ds)))
  | some (.dic (.mt rows)) => w E (env.set i (.dat (.list (rows.map .list))))
  | _ => False
theorem ssfreezeW {w : DS} (i : Nat) (hP : Z.P = X.prog) (hW : Z.w = X.w) (h : PSs X sts (liftS X.K Z m w)) : PSs X sts (liftS X.K Z m (dFrzW i w)) := PSs.of (PSs.rc h) fun D σ H ⟨g, F, env, P, k, w, q⟩ => by
  unfold dFrzW at w
  split at w
  · rename_i ds e
    obtain ⟨a, vs, h1, h2, h3, h4⟩ := k.kkAt e
    refine ⟨fun od => upd H a (.frz (od a) (.dK vs)), fun od => ⟨fun x => ?_, ?_⟩⟩
    · by_cases n : x = a
      · subst n
        rw [hP, hW] at h3
        exact .inr ⟨_, _, h3, upd_same, .inl ⟨vs, rfl, rfl⟩⟩
      · exact .inl (upd_ne n)
    · obtain ⟨ex, k1⟩ := k.freezeKk e h1 h3 h4 (od a)
      exact ⟨g, _, _, P, k1, w, q.ex ex⟩
  · rename_i rows e
    obtain ⟨H', F', r, ex, k1⟩ := k.freezeMt e X.prog X.w
    exact ⟨fun _ => H', fun od => ⟨r od, g, F', _, P, k1, w, q.ex ex⟩⟩
  · exact w.elim
end
end DL

namespace DL
variable {T : List (PySem.Addr × PySem.Str)} {Z : Zx T}
open PySem PySem.Spec PyProof.Rows L2 PySem.W
open Evl (Ex)
section
variable {K : PySem.W.Frag} {g : Gx Z} {F F' : Hp} {env env' : List SD} {σ : L2.St} {H H' : Hp} {B : Nat → List Addr}
theorem DicsB.sub (d : DicsB K g F env σ H B) (h : ∀ (i : Nat) (w : Own), env'[i]? = some (.dic w) → env[i]? = some (.dic w)) : DicsB K g F env' σ H B :=
  ⟨fun i w e => d.at_ i w (h i w e), fun i j w w' a b e1 e2 => d.sep i j w w' a b (h i w e1) (h j w' e2)⟩
theorem wipe_up {vs : List Nat} {i : Nat} {v : V} (e : (wipe σ vs)[i]? = some (some v)) : σ[i]? = some (some v) := by
  rw [wipe_get] at e
  by_cases hj : i ∈ vs
  · rw [if_pos hj] at e
    cases q : σ[i]? with
    | none => rw [q] at e; cases e
    | some o => rw [q] at e; cases e
  · rw [if_neg hj] at e
    exact e
theorem DicsB.unwiped {vs : List Nat} (d : DicsB K g F env (wipe σ vs) H B) : DicsB K g F env σ H B :=
  ⟨fun i w e => let ⟨a, h1, h2⟩ := d.at_ i w e; ⟨a, wipe_up h1, h2⟩, fun i j w w' a b e1 e2 s1 s2 => by
    obtain ⟨a', y1, _⟩ := d.at_ i w e1
    obtain ⟨b', y2, _⟩ := d.at_ j w' e2
    have z1 := wipe_up y1
    have z2 := wipe_up y2
    rw [s1] at z1
    rw [s2] at z2
    cases z1
    cases z2
    exact d.sep i j w w' a b e1 e2 y1 y2⟩
end
section
variable {X : Cx} {tg iter : Expr} {scope : Scope} {own : List (Str × Nat)} {pos p2 : Pos} {wi : DI} {m : Nat}
end
end DL

namespace DL
variable {T : List (PySem.Addr × PySem.Str)} {Z : Zx T}
open PySem PySem.Spec PyProof.Rows L2
open Evl (Ex)
section
variable {X : Cx} {K : PySem.W.Frag}
end
section
variable {P : Program} {w : World} {K : PySem.W.Frag} {mg : Str → Option Value} {base : Heap}
theorem dfnLW (lam : List (Str × Str)) [LB : LamB K base mg T lam] (m : Nat) {gx qual : Str} {st : Stmt} {fd : FuncData} {N ps : List Str} {k : Nat} {S : DSp} (i : Nat) (Fn : Fun K qual qual st (He.ga K gx) fd) (sc : FnScope N ps (defScope st)) (len : ∀ as Q, S as Q → as.length = ps.length) (cels : CelsIn m S)
    (hi : lam[i]? = some (gx, qual ++ ".<locals>." ++ "<lambda>"))
    (hbody : ∀ {Z : Zx T} (cdv : Value) (A : Around) (outer : List Env) (s : Shared) (H : Hp), Z.P = P → Z.w = w → LamC base mg T cdv (qual ++ ".<locals>.") → Room k (A.deeper (envOfC qual (defScope st) s.heap.objs.size (He.ga K gx) cdv)) → (A.deeper (envOfC qual (defScope st) s.heap.objs.size (He.ga K gx) cdv)).guards = some [] →
      ∃ t : DS, PSs (cxOf CX0 P w K mg base N qual (defScope st) (He.ga K gx) cdv A outer s H E0).nox (defBody st) (liftS K Z m t) ∧
        ∀ as Q, S as Q → t (defEnds m Q) (as ++ List.replicate (N.length - ps.length) .un)) : FnG P w K mg base T (k + 1) (He.ga K gx) fd ps S := by
  obtain ⟨oc, od, kV, doc, pm, an, cdv, ct, osl, rfl, lk, hcd⟩ := Fn.ex
  obtain ⟨c, PT, h1, h2, h3⟩ := LB.out _ (List.mem_of_getElem? hi)
  have LC : LamC base mg T cdv (qual ++ ".<locals>.") := ⟨c, PT, tabIn_code h1 lk, h2, h3, fun p hp z => LB.uni p hp _ h3 z⟩
  refine ⟨len, fun A outer s H args us vs Q hr hg e0 hb rv ⟨F0, as, PP, ha, hS, hQ⟩ => ?_⟩
  have hl : vs.length = ps.length := ha.len.symm.trans (len as PP hS)
  have hpl : ps.length ≤ N.length := by
    have := congrArg List.length sc.pre
    rw [List.length_take] at this
    omega
  have KX : K.In s.heap := e0.mod.kin.keeps fun b o e => (e0.bs b o e).1
  refine codeAny_call_function hr.depth (KX _ _ lk) rfl sc.co sc.gen rfl (PySem.W.codeRec_of KX hcd) (hb _ _ _ _ (wpAny_newFunctionEnv_cells sc.kind (fun ⟨n, v⟩ hy => ?_) fun env he s1 x => ?_))
  · rcases sc.par n (List.of_mem_zip hy).1 with q | q
    · exact .inl q
    · exact .inr ⟨q, PySem.W.cellsFrom_some _ _ _ (.inl q)⟩
  · subst he
    obtain ⟨t, ht, hq⟩ := hbody (Z := entryZ T P w F0 H vs as) cdv A outer s H rfl rfl LC (hr.deeper _) hg
    have I : Inv (cxOf CX0 P w K mg base N qual (defScope st) (He.ga K gx) cdv A outer s H E0) [] (start N vs) H s1 := inv_start sc hr.hd e0 hl rv x
    refine ⟨(e0.mod.nolimit.keeps fun b o e => (e0.bs b o e).1).keeps x.toInCall.keep, codeAny_func (wpAny_mono (ht.nox.run [] s1 (start N vs) H { nx := fun _ H' => Q .non H', rt := Q } I ?_) (fun fl s' hs => ?_) fun e s' hs => hs)⟩
    · have al : as.length = ps.length := len as PP hS
      refine ⟨entryG T P w F0 H vs as, F0, _, _, entry_ok ha al hpl, hq as PP hS, ?_⟩
      exact .mk4 (.mk (fun env' σ' F' H' p _ k' => hQ _ _ _ _ _ p (post_of k' (cels _ _ hS) .non)) (fun _ _ _ _ p => p.elim) (fun _ _ _ _ p => p.elim) (fun r env' v σ' F' H' p _ k' r' => hQ _ _ _ _ _ p (post_of k' (cels _ _ hS) r'))) rfl
    · have fin : ∀ {σ' : L2.St} {H' : Hp} {v : V} {u : Value}, Inv (cxOf CX0 P w K mg base N qual (defScope st) (He.ga K gx) cdv A outer s H E0) [] σ' H' s' → RelV v u → Q v H' → CE outer P w H s Q u s' :=
        fun {σ' H' v u} J r q => ⟨v, H', J.os, J.bare, J.base, J.hok, r, q⟩
      match fl, hs with
      | .ret u, ⟨v, σ', H', J, r, q⟩ => exact fin J r q
      | .next, ⟨σ', H', J, q⟩ => exact fin (v := V.non) (u := Value.none) J rfl q
      | .brk, ⟨_, _, _, q⟩ => exact q.elim
      | .cont, ⟨_, _, _, q⟩ => exact q.elim
end
end DL

namespace DL
variable {T : List (PySem.Addr × PySem.Str)} {Z : Zx T}
open PySem PySem.Spec PyProof.Rows L2
open Evl (Ex)
section
variable {X : Cx}
end
def sortRD (b : Bool) (ds : List PyData) : List PyData := ds.mergeSort (PySem.W.dataLe b id)
theorem sortRD_perm (b : Bool) (ds : List PyData) : (sortRD b ds).Perm ds := List.mergeSort_perm _ _
theorem sortRD_pair (c : Bool) (ds : List PyData) : (sortRD c ds).Pairwise fun a b => PySem.W.dataLe c id a b = true := PySem.W.sort_pairwise (PySem.W.sortLe_total _ _ _) ds
section
variable {X : Cx} {a : Expr} {wa : DE} {p pos p1 kp : Pos} {nm : Option Str} {j : Nat}
end
end DL

namespace DL
variable {T : List (PySem.Addr × PySem.Str)} {Z : Zx T}
open PySem PySem.Spec PyProof.Rows L2
open Evl (Ex)
def isScal : PyData → Bool
  | .none => true
  | .bool _ => true
  | .int _ => true
  | .str _ => true
  | _ => false
def scalsQ (ys : List PyData) (p : Prop) : Prop := (ys.all isScal) = true ∧ p
theorem scal_dr {K : PySem.W.Frag} {F F' : Hp} {v : V} {d : PyData} (h : isScal d = true) (r : DR K F v d) : DR K F' v d := by
  cases d with
  | none => cases r; exact .non
  | bool b => cases r; exact .bl b
  | int i => cases r; exact .int i
  | str x => cases r; exact .str x
  | list _ => cases h
  | tuple _ => cases h
  | dict _ => cases h
theorem scals_drs {K : PySem.W.Frag} {F F' : Hp} : ∀ {vs : List V} {ys : List PyData}, (ys.all isScal) = true → DRs K F vs ys → DRs K F' vs ys
  | _, _, _, .nil => .nil
  | _, _, h, .cons a b => by
    rw [List.all_cons, Bool.and_eq_true] at h
    exact .cons (scal_dr h.1 a) (scals_drs h.2 b)
abbrev dBorX (w : DX) (env : List SD) (P : SD → List SD → Prop) : Prop := w (frz env) fun r _ => match r with
  | .cel false ys => scalsQ ys (P (.cel false ys) env)
  | _ => False
section
variable {X : Cx} {e : Expr}
theorem dborX {w : DX} (h : ∀ {Z : Zx T}, PE X e (liftX X.K Z w)) : PE X e (liftX X.K Z (dBorX w)) := PE.of (PE.anyZ fun Z => h (Z := Z)) fun σ H Q ⟨g, F, env, P, k, w, q⟩ => by
  obtain ⟨Z', g', F', k', e1, e2, ex⟩ := k.lend
  refine ⟨Z', g', F', frz env, _, k', w, fun r env1 v F1 H1 p e3 k1 r1 => ?_⟩
  split at p
  · rename_i ys
    obtain ⟨hs, p⟩ := p
    obtain ⟨a, vs, rfl, f1, h1, d1, n1, _, _⟩ := r1
    have n1 : H a = none := by
      have : Z'.H0 a = none := n1
      rwa [e1] at this
    have eh : Frm T H (fun _ => True) H1 := by
      have z := k1.frame
      rw [show g'.H0 = H from e1] at z
      exact z.weak fun a o _ _ i y => by rw [show g'.A0 i = none from e2 i] at y; cases y
    have fa : F a = none := by
      cases z : F a with
      | none => rfl
      | some o =>
        have := e3 a o (ex a o z)
        rw [f1] at this
        cases this
    refine q (.cel false ys) env (.ref a) F H1 p (Ex.refl F) (k.later eh ((ex.trans e3).trans k1.fh)) ⟨a, vs, rfl, fa, h1, scals_drs hs d1, k.fresh0 n1, ?_, fun j p' zs hj hσ => ?_⟩
    · cases z : g.Pr a with
      | none => rfl
      | some o =>
        have := (k.prot a o z).1
        rw [n1] at this
        cases this
    · obtain ⟨b, us, b1, _, b3, _⟩ := k.cel j p' zs hj
      rw [hσ] at b1
      cases b1
      rw [n1] at b3
      cases b3
  · exact p.elim
end
end DL

namespace DL
variable {T : List (PySem.Addr × PySem.Str)} {Z : Zx T}
open PySem PySem.Spec PyProof.Rows L2
open Evl (Ex)
section
variable {X : Cx} {a : Expr} {wa : DE} {pos p p2 pos2 : Pos}
def rLenSI (w : World) : List V → Hp → VK → Prop := fun vs H Q => ∃ (a : Addr) (S : Int → Bool) (n : Nat), vs = [V.ref a] ∧ H a = some (SetO w a S n) ∧ ∀ ms : List Int, ms.Nodup → (∀ k : Int, k ∈ ms ↔ S k = true) → Q (.int (ms.length : Nat)) H
theorem cr_lenSI : CallR X (.builtin "len") (rLenSI X.w) := by
  intro pins s σ H vs us Q I r h
  obtain ⟨a, S, n, rfl, ha, q⟩ := h
  rw [Vals.ref1 r]
  obtain ⟨o, es, ep, t, ho, hex, hd, hg, nd, hm, hb, hf, hn, _⟩ := setO_get I ha
  have sb : scanBound = 4096 := rfl
  refine call_len_set ho hex hd hf (by omega) ⟨.int (es.size : Nat), H, I.tok _, ⟨_, rfl⟩, ?_⟩
  have z := q (es.toList.map L2.keyOf) nd fun k => (hm k).symm
  rw [List.length_map, Array.length_toList] at z
  exact z
/-- how many of them there are -/
def lenSetIQ (d : PyData) (K : PyData → Prop) : Prop := match d with
  | .list ds => match intsD ds with
    | some ns => ns.length < 4000 ∧ ∀ ms : List Int, ms.Nodup → (∀ k : Int, k ∈ ms ↔ k ∈ ns) → K (.int (ms.length : Nat))
    | none => False
  | _ => False
theorem q_lenSetI {ns : List Int} {K : PyData → Prop} : lenSetIQ (.list (ns.map .int)) K = (ns.length < 4000 ∧ ∀ ms : List Int, ms.Nodup → (∀ k : Int, k ∈ ms ↔ k ∈ ns) → K (.int (ms.length : Nat))) := by
  unfold lenSetIQ
  dsimp only
  rw [ints_map]
abbrev dLenSetI (wa : DE) (env : List SD) (P : PyData → List SD → Prop) : Prop := wa env fun d env1 => lenSetIQ d fun x => P x env1
theorem dlenSetI (hc : X.calm = true) (hm : X.mg "len" = none) (hm2 : X.mg "set" = none) (ha : PE X a (liftE X.K Z wa)) (hg : Gl X "len" := by rfl) (hg2 : Gl X "set" := by rfl)
    (n1 : starEach [a] X.env = (false, eval a X.env) :: starEach [] X.env := by rfl)
    (n2 : starEach [.Call (.Name "set" p2) [a] [] pos2] X.env = (false, eval (.Call (.Name "set" p2) [a] [] pos2) X.env) :: starEach [] X.env := by rfl) :
    PE X (.Call (.Name "len" p) [.Call (.Name "set" p2) [a] [] pos2] [] pos) (liftE X.K Z (dLenSetI wa)) :=
  PE.of (pe_callB cr_lenSI hg hm (by decide +kernel) (pa_cons (pe_callTy (call_setI hc) hg2 hm2 (by decide +kernel) (pa_cons ha pa_nil n1) (by decide) (by decide) n1 (by rfl)) pa_nil n2) (by decide) (by decide) n2 (by rfl)) fun σ H Q ⟨g, F, env, P, k, w, q⟩ =>
    ⟨g, F, env, _, k, w, fun d env1 v F1 H1 p e1 k1 r1 => by
      unfold lenSetIQ at p
      split at p
      · rename_i ds
        split at p
        · rename_i ns e
          obtain ⟨l, us, rfl, h1, h2⟩ := r1.inv_lst
          cases ints_rel h2 e
          have sb : ns.length + 1 < scanBound := by unfold scanBound; have := p.1; omega
          refine ⟨l, ns, rfl, (h1.mono k1.fh).sq, sb, fun a1 c hp1 hc1 => ?_⟩
          exact ⟨a1, _, c, rfl, upd_same, fun ms s1 s2 => q _ env1 _ F1 _ (p.2 ms s1 fun z => (s2 z).trans decide_eq_true_iff) e1 (k1.extra (o := SetO X.w a1 (fun j => decide (j ∈ ns)) c) hp1) (.int _)⟩
        · exact p.elim
      · exact p.elim⟩
end
end DL

namespace DL
variable {T : List (PySem.Addr × PySem.Str)} {Z : Zx T}
open PySem PySem.Spec PySem.W PySem.Calls PyProof.Rows L2
open Evl (Ex)
/-- two tuples that begin with unlike numbers, or may be compared place by place -/
def numLike (d d' : PyData) : Prop := alike d d' = true ∨ ∃ n m r r', d = .tuple (.int n :: r) ∧ d' = .tuple (.int m :: r') ∧ n ≠ m
def AllNum (ds : List PyData) : Prop := ∀ d ∈ ds, ∀ d' ∈ ds, numLike d d'
theorem num_unique {h : Heap} {d d' : PyData} {v : Value} {as as' : List Addr} (hl : numLike d d') (r : Reads h v d as) (r' : Reads h v d' as') : d = d' := by
  rcases hl with hl | ⟨n, m, q, q', rfl, rfl, ne⟩
  · exact alike_unique _ _ _ _ _ hl r r'
  · exfalso
    cases r with
    | @tuple a o xs k _ _ h1 h2 h3 h4 =>
      cases r' with
      | tuple k1 k2 k3 k4 =>
        rw [h1] at k1
        cases k1
        rw [h3] at k3
        cases k3
        generalize xs.toList = us at h4 k4
        cases h4 with
        | cons x1 x2 =>
          cases k4 with
          | cons y1 y2 =>
            cases x1
            cases y1
            exact ne rfl
theorem num_some {h : Heap} {ds : List PyData} (hal : AllNum ds) {v : Value} {d : PyData} {as : List Addr} (hd : d ∈ ds) (r : Reads h v d as) : (dataKind h ds).keyOf v = some (keyToks d) := by
  have q : ∃ d, d ∈ ds ∧ ∃ as, Reads h v d as := ⟨d, hd, as, r⟩
  have e : (dataKind h ds).keyOf v = some (keyToks q.choose) := by
    show (open Classical in if q : ∃ d, d ∈ ds ∧ ∃ as, Reads h v d as then some (keyToks q.choose) else none) = _
    rw [dif_pos q]
  obtain ⟨h1, as', h2⟩ := q.choose_spec
  rw [e, num_unique (hal _ h1 _ hd) h2 r]
theorem lt_num {n m : Int} {r r' : List PyData} (ne : n ≠ m) : dataLt (.tuple (.int n :: r)) (.tuple (.int m :: r')) = decide (n < m) := by
  rw [dataLt_tuple, dataLt_cons (by simp [alike]), dataLt_int, if_neg]
  rw [PyData.eqv]
  simpa using ne
section
variable {prog : Program} {w : World} {A : Around} {E : Value → Shared → Prop} {s : Shared}
theorem sorts_num {vs : List Value} {ds : List PyData} (e : EachIs (fun v d => ∃ as, Reads s.heap v d as) vs ds) (hal : AllNum ds) (ht : ∀ d ∈ ds, ∃ n r, d = .tuple (.int n :: r)) (hu : ∀ d, d ∈ ds → A.units + d.depth < cLine) : SortsAt prog w A s (dataKind s.heap ds) vs := by
  have room : ∀ {d d' : PyData}, d ∈ ds → A.units + min d.depth d'.depth < cLine := fun {d d'} hd => Nat.lt_of_le_of_lt (Nat.add_le_add_left (Nat.min_le_left _ _) _) (hu d hd)
  refine ⟨fun v hv => ?_, tuples' (Value.type "int" != Value.type "tuple"), ?_, fun h2 E Q hq => ?_⟩
  · obtain ⟨d, hd, as, r⟩ := e.left v hv
    exact ⟨_, num_some hal hd r⟩
  · intro E x y a b Q ha hb hq
    obtain ⟨d, as, hd, ra, rfl⟩ := dataKind_inv ha
    obtain ⟨d', as', hd', rb, rfl⟩ := dataKind_inv hb
    have hdd := hal d hd d' hd'
    have hroom := room (d' := d') hd
    obtain ⟨x1, r1, rfl⟩ := ht d hd
    obtain ⟨x2, r2, rfl⟩ := ht d' hd'
    have hq' : Q (dataLt (.tuple (.int x1 :: r1)) (.tuple (.int x2 :: r2))) s := hq
    rcases hdd with hdd | ⟨n, m, q, q', e1, e2, ne⟩
    · rw [dataLt_tuple] at hq'
      cases ra with
      | @tuple l o xs n _ _ h1 h2 h3 h4 =>
        cases rb with
        | @tuple l' o' xs' n' _ _ k1 k2 k3 k4 =>
          have n1 : xs.size = (PyData.int x1 :: r1).length := by simpa using SeqAt.ReadsAll.length _ _ _ h4
          have n2 : xs'.size = (PyData.int x2 :: r2).length := by simpa using SeqAt.ReadsAll.length _ _ _ k4
          refine kat_lt h1 h3 k1 k3 (katLex_alike (.int x1 :: r1) (.int x2 :: r2) 0 _ _ _ _ h4 k4 (by simpa [alike] using hdd) (by have q := SeqAt.room_in hroom; omega) (fun hb _ x r t ex => ?_) (by rw [n1, n2]) hq')
          obtain ⟨rfl, rfl⟩ := List.cons.inj ex
          exact nofun
    · cases e1
      cases e2
      rw [lt_num ne] at hq'
      cases ra with
      | @tuple l o xs n _ _ h1 h2 h3 h4 =>
        cases rb with
        | @tuple l' o' xs' n' _ _ k1 k2 k3 k4 =>
          refine kat_lt h1 h3 k1 k3 ?_
          generalize decide (xs.size < xs'.size) = fin
          generalize xs.toList = us at h4
          generalize xs'.toList = ws at k4
          cases h4 with
          | cons u1 u2 =>
            cases k4 with
            | cons w1 w2 =>
              cases u1
              cases w1
              refine kat_cons (SeqAt.EqAt.int_int _ _ _ _ prog w _ _ ?_)
              refine kat_go (fun e1 => absurd (by simpa using e1) ne) (fun _ => kat_no (oneLt_int hq'))
  · have ht' : ∀ d, d ∈ ds → ∃ x r, d = .tuple (x :: r) := fun d hd => by
      obtain ⟨n, r, h⟩ := ht d hd
      exact ⟨_, _, h⟩
    obtain ⟨fs, t1, t2, t3⟩ := each_katTups e ht'
    refine kat_kind (T := Value.type "int") t1 (by omega) (fun f hf => ?_) (beq_self_eq_true _) hq
    obtain ⟨x, r, as, m1, m2⟩ := t3 f hf
    obtain ⟨n, r', e1⟩ := ht _ m1
    cases e1
    exact looks_reads m2
theorem sorted_num {β : Type} {R : Value → β → Prop} {enc : β → PyData} {vs : List Value} {bs : List β} {l : Addr} {b : Bool} {Q : Value → Shared → Prop} (hl : s.heap.IsList l vs.toArray) (e : EachIs R vs bs) (er : EachIs (fun v b => ∃ as, Reads s.heap v (enc b) as) vs bs) (hal : AllNum (bs.map enc)) (ht : ∀ d ∈ bs.map enc, ∃ n r, d = PyData.tuple (.int n :: r)) (hL : bs.length ≤ sizeLine)
    (hu : ∀ b, b ∈ bs → A.units + 2 + (enc b).depth < cLine) (h : ∀ out, out.length = bs.length → EachIs R out (bs.mergeSort (dataLe b enc)) → Q (.ref (s.heap.objs.size + 1)) { s with heap := sortedAll s.heap vs (List.toArray out) }) :
    wpAny (model prog w) A (call (.builtin "sorted") [.ref l] [(Str.ofString "reverse", .bool b)]) Q E s := by
  have er' : EachIs (fun v b => ∃ as, Reads (sortingHeap (copyHeap s.heap vs) (s.heap.objs.size + 1) vs) v (enc b) as) vs bs := er.mono fun _ _ ⟨as, r⟩ => ⟨as, PyProof.Rows.Reads.keeps (fun _ _ => sorting_copy_old) r⟩
  have ek : EachIs (fun v d => (dataKind (sortingHeap (copyHeap s.heap vs) (s.heap.objs.size + 1) vs) (bs.map enc)).keyOf v = some (keyToks d)) vs (bs.map enc) :=
    (each_mem (each_map (R := fun v d => ∃ as, Reads (sortingHeap (copyHeap s.heap vs) (s.heap.objs.size + 1) vs) v d as) enc er')).mono fun _ _ ⟨⟨_, r⟩, hd⟩ => num_some hal hd r
  exact sorted_rev_vals hl (sorts_num (s := { s with heap := sortingHeap (copyHeap s.heap vs) (s.heap.objs.size + 1) vs }) (each_map (R := fun v d => ∃ as, Reads (sortingHeap (copyHeap s.heap vs) (s.heap.objs.size + 1) vs) v d as) enc er') hal ht (bound_map hu)) (by rw [e.length]; exact hL)
    (h _ (by rw [sortVals_length b rfl]; exact e.length) (sortVals_each (κ := dataKind (sortingHeap (copyHeap s.heap vs) (s.heap.objs.size + 1) vs) (bs.map enc)) (fun b => keyToks (enc b)) e (each_of_map enc ek)))
end
section
variable {X : Cx}
def rSortND (K : PySem.W.Frag) (b : Bool) : List V → List V → Hp → VK → Prop := fun vs ks H Q => ∃ (a : Addr) (xs : List V) (ds : List PyData), vs = [V.ref a] ∧ ks = [.bl b] ∧ SqL K H a xs ∧ DpAll K H xs ds ∧ AllNum ds ∧ (∀ d ∈ ds, ∃ n r, d = PyData.tuple (.int n :: r)) ∧ (∀ d ∈ ds, d.depth ≤ 60) ∧
  ∀ (zs : List (V × PyData)) (p : Addr), zs = (xs.zip ds).mergeSort (PySem.W.dataLe b Prod.snd) → H p = none → Q (.ref p) (upd H p (.lst (zs.map Prod.fst)))
theorem cr_sortedND (hu : X.A.units + 65 < cLine) {b : Bool} : CallRK X (.builtin "sorted") [Str.ofString "reverse"] (rSortND X.K b) := by
  intro pins s σ H vs ks us ws Q I r rz h
  obtain ⟨a, xs, ds, rfl, rfl, hs, hd, hal, hk, hdep, q⟩ := h
  rw [Vals.ref1 r]
  obtain ⟨w1, rfl, e1⟩ := vals1 rz
  obtain rfl : w1 = Value.bool b := e1
  obtain ⟨its, rv, pl, hz⟩ := I.list hs
  obtain ⟨as, h4⟩ := Dp.readsAll I ds _ its hd rv
  have hlen := DpAll.len hd
  have e := each_zip (R := fun _ _ => True) rv h4
  have es : (xs.zip ds).map Prod.snd = ds := zip_snd hlen
  have lz : (xs.zip ds).length = xs.length := by rw [List.length_zip, hlen, Nat.min_self]
  refine sorted_num (R := fun v (p : V × PyData) => RelV p.1 v) (enc := Prod.snd) (bs := xs.zip ds) pl.isList (e.mono fun _ _ z => z.1) (e.mono fun _ _ z => z.2) (by rw [es]; exact hal) (by rw [es]; exact hk) (by rw [lz]; exact hz) (fun p hp => ?_) fun out hol ho => ?_
  · have : p.2 ∈ ds := by rw [← es]; exact List.mem_map.mpr ⟨p, hp, rfl⟩
    have := hdep _ this
    omega
  · obtain ⟨c, hc⟩ := sortedAll_at s.heap its (List.toArray out)
    have hn := I.hok.fresh (Nat.le_succ s.heap.objs.size)
    refine ⟨.ref (s.heap.objs.size + 1), upd H (s.heap.objs.size + 1) (.lst (((xs.zip ds).mergeSort (PySem.W.dataLe b Prod.snd)).map Prod.fst)), I.laid (t' := s.toks) (fun b u hb => sortedAll_old hb) (Nat.le_succ _) ⟨?_, out, c, vals_each (R := fun _ _ => True) ho, hc⟩, rfl, q _ _ rfl hn⟩
    rw [List.length_map, List.length_mergeSort, lz]
    exact hz
end
def sortNOk (ds : List PyData) : Prop := AllNum ds ∧ (∀ d ∈ ds, ∃ n r, d = PyData.tuple (.int n :: r)) ∧ (∀ d ∈ ds, d.depth ≤ 60) ∧ PyData.hasDictAll ds = false
def sortedNQ (b : Bool) (d : PyData) (K : List PyData → Prop) : Prop := match d with
  | .list ds => sortNOk ds ∧ K (sortRD b ds)
  | _ => False
theorem q_sortedN {b : Bool} {ds : List PyData} {K : List PyData → Prop} : sortedNQ b (.list ds) K = (sortNOk ds ∧ K (sortRD b ds)) := rfl
abbrev dSortedN (b : Bool) (wa : DE) (env : List SD) (P : SD → List SD → Prop) : Prop := wa env fun d env1 => sortedNQ b d fun xs => P (.cel false xs) env1
section
variable {X : Cx} {a : Expr} {wa : DE} {p pos p1 kp : Pos} {nm : Option Str} {j : Nat}
theorem dsortedN {b : Bool} {k : Nat} (hr : Room k X.A) (hm : X.mg "sorted" = none) (ha : PE X a (liftE X.K Z wa)) (hg : Gl X "sorted" := by rfl)
    (n1 : starEach [a] X.env = (false, eval a X.env) :: starEach [] X.env := by rfl) (n2 : backTo pos (starEach [a] X.env) = (false, eval a X.env) :: backTo pos (starEach [] X.env) := by rfl) (n3 : (backTo pos (starEach [a] X.env)).any (·.1) = false := by rfl)
    (h1 : (backToKw pos (keywordEach [⟨nm, .Constant (.bool b) j p1, kp⟩] X.env)).all (·.1.isSome) = true := by rfl) (h2 : (backToKw pos (keywordEach [⟨nm, .Constant (.bool b) j p1, kp⟩] X.env)).any (·.1.isNone) = false := by rfl) (h3 : (backToKw pos (keywordEach [⟨nm, .Constant (.bool b) j p1, kp⟩] X.env)).filterMap (·.1) = [Str.ofString "reverse"] := by rfl) :
    PE X (.Call (.Name "sorted" p) [a] [⟨nm, .Constant (.bool b) j p1, kp⟩] pos) (liftX X.K Z (dSortedN b wa)) :=
  PE.of (pe_callBK (cr_sortedND (b := b) hr.u65) hg hm (by decide +kernel) (pa_cons ha pa_nil n1) (pk_cons pe_bl pk_nil) (by decide) (by decide) n2 n3 h1 h2 h3) fun σ H Q ⟨g, F, env, P, k, w, q⟩ =>
    ⟨g, F, env, _, k, w, fun d env1 v F1 H1 p e1 k1 r1 => by
      unfold sortedNQ at p
      split at p
      · rename_i ds
        obtain ⟨⟨s1, s2, s3, s4⟩, p⟩ := p
        obtain ⟨l, us, rfl, h1, h2⟩ := r1.inv_lst
        refine ⟨l, us, ds, rfl, rfl, (h1.mono k1.fh).sq, DRs.dp (drsH k1 h2) s4, s1, s2, s3, fun zs a2 ez hp2 => ?_⟩
        subst ez
        have hl := h2.length
        have em : ((us.zip ds).mergeSort (PySem.W.dataLe b Prod.snd)).map Prod.snd = sortRD b ds := by
          have := PySem.W.sort_maps (r := PySem.W.dataLe b (Prod.snd (α := V))) (s := PySem.W.dataLe b id) Prod.snd (l := us.zip ds) (fun _ _ _ _ => rfl)
          rw [this, zip_snd hl]
          rfl
        have dr := drs_of (zs := (us.zip ds).mergeSort (PySem.W.dataLe b Prod.snd)) fun p hp => drs_zip h2 p ((List.mergeSort_perm _ _).mem_iff.mp hp)
        rw [em] at dr
        obtain ⟨k3, r3⟩ := k1.newCell hp2 dr
        exact q _ env1 _ F1 _ p e1 k3 r3
      · exact p.elim⟩
end
end DL

namespace DL
variable {T : List (PySem.Addr × PySem.Str)} {Z : Zx T}
open PySem PySem.Spec PyProof.Rows L2 PySem.W
open Evl (Ex)
section
variable {X : Cx}
def rSortKk (K : PySem.W.Frag) : List V → Hp → VK → Prop := fun vs H Q => ∃ (a : Addr) (kvs : List (L2.Key × V)) (kd : List PyData), vs = [V.ref a] ∧ Rd H a (.dK kvs) ∧ DpAll K H (kvs.map fun p => kV p.1) kd ∧ AllAlike kd ∧ PySem.W.Sortable kd ∧ (∀ d ∈ kd, d.depth ≤ 60) ∧
  ∀ (zs : List (V × PyData)) (p : Addr), zs = ((kvs.map fun p => kV p.1).zip kd).mergeSort (dataLe false Prod.snd) → H p = none → Q (.ref p) (upd H p (.lst (zs.map Prod.fst)))
theorem cr_sortedKk (hu : X.A.units + 65 < cLine) (hcalm : X.calm = true) : CallR X (.builtin "sorted") (rSortKk X.K) := by
  intro pins s σ H vs us Q I r h
  obtain ⟨a, kvs, kd, rfl, e, hd, hal, hk, hdep, q⟩ := h
  rw [Vals.ref1 r]
  obtain ⟨z2, lo, ws, rk, hdd⟩ := dk_rd I.hok e
  obtain ⟨ep, hat⟩ := hdd.dictAt
  have hl : kvs.length = ws.length := Paired.length rk
  refine Calls.call_function_entry PyProof.Rows.kind_sorted PyProof.Rows.plain_sorted PyProof.Rows.entry_sorted (PyProof.Rows.args_sorted1 _) ?_
  unfold Builtin.«sorted»
  refine wpAny_bind (m := checkCount "sorted" 1 1 _) (wpAny_pure ?_)
  refine wpAny_bind (PySem.W.kdu_collect (A := X.A.in1) (PySem.W.kdl_dict (knd := mixKind X.prog X.w) (kvs := ws) (ep := ep) lo) (I.ok.hd hcalm) hat (by rw [← hl]; exact z2) fun h' tk acc hk' hacc => ?_)
  have hal2 : acc.toList.length = kvs.length := by rw [Array.length_toList, hacc.1, hl]
  have rv : Vals (kvs.map fun p => kV p.1) acc.toList := vals_of_at (by rw [List.length_map, hal2]) fun j x u h1 h2 => by
    obtain ⟨k, y, hky, hi⟩ := hacc.2 j u (by rw [← Array.getElem?_toList]; exact h2)
    have e1 : (kvs.map (·.1))[j]? = some k := by
      rw [KV.keys rk, List.getElem?_map, hky] <;> rfl
    have e2 : (kvs.map fun kv => kV kv.1)[j]? = some (kV k) := by
      have e3 : (kvs.map fun kv => kV kv.1) = (kvs.map (·.1)).map kV := by rw [List.map_map] <;> rfl
      rw [e3, List.getElem?_map, e1] <;> rfl
    rw [e2] at h1
    cases h1
    exact keyIs_rel hi
  have I1 : Inv X pins σ H { s with heap := h', toks := tk } := I.kept hk'
  obtain ⟨as, h6⟩ := Dp.readsAll I1 kd _ acc.toList hd rv
  have hlen := DpAll.len hd
  have e0 := each_zip (R := fun _ _ => True) rv h6
  generalize hks : (kvs.map fun p => kV p.1) = ks at *
  have lk : ks.length = kvs.length := by rw [← hks, List.length_map]
  have es2 : (ks.zip kd).map Prod.snd = kd := zip_snd hlen
  have lz : (ks.zip kd).length = kvs.length := by rw [List.length_zip, hlen, Nat.min_self, ← hlen, lk]
  refine wpAny_bind (wpAny_newList ?_ (by rw [hal2]; exact z2))
  have hoL : (h'.push (seqObj "list" acc.toList.toArray 0)).get? h'.objs.size = some (seqObj "list" acc.toList.toArray 0) := Heap.get?_push_size _ rfl
  show wpAny _ _ _ _ _ { s with heap := h'.push (seqObj "list" acc.toList.toArray 0), toks := tk }
  have old : ∀ (b : Addr) (u : Obj), h'.get? b = some u → (sortingHeap (h'.push (seqObj "list" acc.toList.toArray 0)) h'.objs.size acc.toList).get? b = some u := fun b u hb =>
    sortingHeap_old (Nat.ne_of_lt (Heap.lt_size hb)) (Heap.get?_push_of_some _ hb)
  have er : EachIs (fun v (p : V × PyData) => ∃ as, Reads (sortingHeap (h'.push (seqObj "list" acc.toList.toArray 0)) h'.objs.size acc.toList) v p.2 as) acc.toList (ks.zip kd) := e0.mono fun _ _ z => let ⟨as, r⟩ := z.2; ⟨as, PyProof.Rows.Reads.keeps old r⟩
  have hal3 : AllAlike ((ks.zip kd).map Prod.snd) := by rw [es2]; exact hal
  have hout := sortVals_data (R := fun v (p : V × PyData) => RelV p.1 v) (enc := Prod.snd) false (e0.mono fun _ _ z => z.1) er hal3
  refine wpAny_bind (wpAny_holding (wpAny_call_entry PyProof.Rows.slot_list_sort ⟨_, hoL, rfl⟩ PyProof.Rows.entry_list_sort
    (list_sort_vals (κ := dataKind (sortingHeap (h'.push (seqObj "list" acc.toList.toArray 0)) h'.objs.size acc.toList) ((ks.zip kd).map Prod.snd)) (s := { s with heap := h'.push (seqObj "list" acc.toList.toArray 0), toks := tk }) hoL
      (SortsAt.data (s := { s with heap := sortingHeap (h'.push (seqObj "list" acc.toList.toArray 0)) h'.objs.size acc.toList, toks := tk }) (each_map (R := fun v d => ∃ as, Reads (sortingHeap (h'.push (seqObj "list" acc.toList.toArray 0)) h'.objs.size acc.toList) v d as) Prod.snd er) hal3 (by rw [es2]; exact hk) fun d hd => ?_) (by rw [hal2]; exact z2) ⟨_, rfl, ?_⟩) (PyProof.Rows.args_list_sort _)))
  · rw [es2] at hd
    have := hdep d hd
    show X.A.units + 1 + 1 + d.depth < cLine
    omega
  · generalize hO : sortVals (dataKind (sortingHeap (h'.push (seqObj "list" acc.toList.toArray 0)) h'.objs.size acc.toList) ((ks.zip kd).map Prod.snd)) false acc.toList acc.toList = out at hout ⊢
    obtain ⟨e', he'⟩ := PyProof.Rows.sortedHeap_at (vs := acc.toList) (out := out.toArray) hoL
    have ll : (List.map Prod.fst ((ks.zip kd).mergeSort (dataLe false Prod.snd))).length ≤ sizeLine := by
      rw [List.length_map, List.length_mergeSort, lz]
      exact z2
    refine wpAny_pure ⟨_, rfl, .ref h'.objs.size, upd H h'.objs.size (.lst (((ks.zip kd).mergeSort (dataLe false Prod.snd)).map Prod.fst)), I1.laid (t' := tk) (fun b u eb => ?_) (Nat.le_refl _)
      (show ObjOk X.prog X.w _ _ _ (.lst _) from ⟨ll, out, e', vals_each (R := fun _ _ => True) hout, he'⟩), rfl, q _ _ rfl (I1.hok.fresh (Nat.le_refl _))⟩
    have hb : b < h'.objs.size := Heap.lt_size eb
    rw [PyProof.Rows.sortedHeap_old (Nat.ne_of_lt hb) (by rw [size_push']; exact Nat.lt_succ_of_lt hb)]
    exact Heap.get?_push_of_some _ eb
end
/-- the keys, sorted -/
def sortKkQ (d : PyData) (K : List PyData → Prop) : Prop := match d with
  | .dict ds => isMap ds = true ∧ sortOk (ds.map (·.1)) ∧ K (sortD (ds.map (·.1)))
  | _ => False
abbrev dSortKk (wa : DE) (env : List SD) (P : SD → List SD → Prop) : Prop := wa env fun d env1 => sortKkQ d fun xs => P (.cel false xs) env1
section
variable {X : Cx} {a : Expr} {wa : DE} {p pos : Pos}
theorem dsortKk {k0 : Nat} (hr : Room k0 X.A) (hc : X.calm = true) (hm : X.mg "sorted" = none) (ha : PE X a (liftE X.K Z wa)) (hg : Gl X "sorted" := by rfl)
    (n1 : starEach [a] X.env = (false, eval a X.env) :: starEach [] X.env := by rfl) :
    PE X (.Call (.Name "sorted" p) [a] [] pos) (liftX X.K Z (dSortKk wa)) :=
  PE.of (pe_callB (cr_sortedKk hr.u65 hc) hg hm (by decide +kernel) (pa_cons ha pa_nil n1) (by decide) (by decide) n1 (by rfl)) fun σ H Q ⟨g, F, env, P, k, w, q⟩ =>
    ⟨g, F, env, _, k, w, fun d env1 v F1 H1 p e1 k1 r1 => by
      unfold sortKkQ at p
      split at p
      · rename_i ds
        obtain ⟨hm, ⟨s1, s2, s3, s4⟩, p⟩ := p
        obtain ⟨a, o, vs, rfl, h1, h2⟩ := r1.inv_map hm
        have kd := h2.keys
        refine ⟨a, vs, ds.map (·.1), rfl, .inr ⟨o, k1.fh _ _ h1⟩, DRs.dp (drsH k1 kd) s4, s1, s2, s3, fun zs a2 ez hp2 => ?_⟩
        subst ez
        have hl := kd.length
        have em : (((vs.map fun p => kV p.1).zip (ds.map (·.1))).mergeSort (dataLe false Prod.snd)).map Prod.snd = sortD (ds.map (·.1)) := by
          have := sort_maps (r := dataLe false (Prod.snd (α := V))) (s := dataLe false id) Prod.snd (l := (vs.map fun p => kV p.1).zip (ds.map (·.1))) (fun _ _ _ _ => rfl)
          rw [this, zip_snd hl]
          rfl
        have dr := drs_of (zs := ((vs.map fun p => kV p.1).zip (ds.map (·.1))).mergeSort (dataLe false Prod.snd)) fun p hp => drs_zip kd p ((List.mergeSort_perm _ _).mem_iff.mp hp)
        rw [em] at dr
        obtain ⟨k3, r3⟩ := k1.newCell hp2 dr
        exact q _ env1 _ F1 _ p e1 k3 r3
      · exact p.elim⟩
end
end DL

namespace K67
open PySem PySem.Spec PyProof.Rows L2 DL
abbrev prg : Program := PySem.Challenge.pw_prizelog_k67_names_of_prizes
def top (i : Nat) : Stmt := prg.main.body.getD i (.Pass ⟨0, 0, 0, 0⟩)
def fa : List He.Fa := [.free "isinstance", .free "int", .free "bool", .free "tuple", .free "len", .free "all", .free "abs", .free "zip", .free "str", .free "sum", .free "set", .free "sorted", .free "range", .free "list", .free "enumerate", .free "max", .free "min", .int "MOST_ROWS" 20, .int "LAST_HOUR" 100000, .int "FARTHEST" 10000, .int "MOST_SIGNS" 8, .int "WHOLE" 8, .int "MOST_CLASSES" 6, .int "MOST_RANKS" 20, .int "MOST_GROSS" 1000000000000, .int "MOST_RATE" 10000, .int "MOST_HEADS" 1000, .int "MOST_BOUNTY" 1000000000, .int "MOST_PAGES" 60, .int "MOST_DAY" 1000000, .int "MOST_HOUR" 100000, .int "MOST_MILES" 100000, .int "MOST_PENCE" 1000000000000, .glo "is_whole", .glo "is_within", .glo "are_wholes", .glo "divisor_of", .glo "is_fraction", .glo "is_hour_tracks", .glo "is_log_row", .glo "is_log", .glo "is_name", .glo "are_heads", .glo "are_eighths", .glo "is_pair", .glo "is_scheme", .glo "is_part", .glo "is_sale", .glo "is_hour", .glo "is_hour_pages", .glo "is_day", .glo "is_muster", .glo "is_taking", .glo "is_body", .glo "is_page", .glo "are_pages", .glo "need_day", .glo "need_book", .glo "standing", .glo "prizes_on", .glo "_law_pot_of", .glo "_law_draw", .glo "_law_name", .glo "_law_shuffled", .glo "_law_log", .glo "_law_scheme", .glo "_law_sale", .glo "_law_folk", .glo "_law_core", .glo "_law_more", .glo "_law_book", .glo "_law_day", .glo "_law_stand", .glo "_law_more_prizes", .glo "law", .keep "is_whole", .keep "is_within", .keep "are_wholes", .keep "divisor_of", .keep "is_fraction", .keep "is_hour_tracks", .keep "is_log_row", .keep "is_log", .keep "is_name", .keep "are_heads", .keep "are_eighths", .keep "is_pair", .keep "is_scheme", .keep "is_part", .keep "is_sale", .keep "is_hour", .keep "is_hour_pages", .keep "is_day", .keep "is_muster", .keep "is_taking", .keep "is_body", .keep "is_page", .keep "are_pages", .keep "need_day", .keep "need_book", .keep "standing", .keep "prizes_on", .keep "_law_pot_of", .keep "_law_draw", .keep "_law_name", .keep "_law_shuffled", .keep "_law_log", .keep "_law_scheme", .keep "_law_sale", .keep "_law_folk", .keep "_law_core", .keep "_law_more", .keep "_law_book", .keep "_law_day", .keep "_law_stand", .keep "_law_more_prizes", .keep "law"]
def dD (x : Str) (i : Nat) : He.FnD := ⟨(x, none), x, x, defArgs (top i), defBody (top i), defScope (top i)⟩
def dA (x y : Str) (i : Nat) : He.FnD := ⟨(x, none), y, y, defArgs (top i), defBody (top i), defScope (top i)⟩
def fn : List He.FnD := [dD "is_whole" 1, dD "is_within" 2, dD "are_wholes" 3, dD "divisor_of" 4, dD "is_fraction" 5, dA "is_hour_tracks" "is_hour" 14, dD "is_log_row" 16, dD "is_log" 17, dD "is_name" 21, dD "are_heads" 26, dD "are_eighths" 27, dD "is_pair" 28, dD "is_scheme" 29, dD "is_part" 35, dD "is_sale" 36, dD "is_hour" 43, dA "is_hour_pages" "is_hour" 43, dD "is_day" 45, dD "is_muster" 46, dD "is_taking" 47, dD "is_body" 48, dD "is_page" 49, dD "are_pages" 50, dD "need_day" 51, dD "need_book" 52, dD "standing" 53, dD "prizes_on" 55, dD "_law_pot_of" 57, dD "_law_draw" 58, dD "_law_name" 59, dD "_law_shuffled" 60, dD "_law_log" 61, dD "_law_scheme" 62, dD "_law_sale" 63, dD "_law_folk" 64, dD "_law_core" 65, dD "_law_more" 66, dD "_law_book" 67, dD "_law_day" 68, dD "_law_stand" 69, dD "_law_more_prizes" 70, dD "law" 71]
def fx : List Fx := [.txt "LETTERS" "abcdefghijklmnopqrstuvwxyz"]
def lam : List (Str × Str) := [("standing", "standing.<locals>.<lambda>")]
abbrev Tp (K : PySem.W.Frag) (mg : Str → Option Value) : Prop := TopX fa fn fx K mg
section
variable {K : PySem.W.Frag} {mg : Str → Option Value}
theorem m_isinstance (T : Tp K mg) : mg "isinstance" = none := T.free "isinstance" 0
theorem m_int (T : Tp K mg) : mg "int" = none := T.free "int" 1
theorem m_bool (T : Tp K mg) : mg "bool" = none := T.free "bool" 2
theorem m_tuple (T : Tp K mg) : mg "tuple" = none := T.free "tuple" 3
theorem m_len (T : Tp K mg) : mg "len" = none := T.free "len" 4
theorem m_all (T : Tp K mg) : mg "all" = none := T.free "all" 5
theorem m_abs (T : Tp K mg) : mg "abs" = none := T.free "abs" 6
theorem m_zip (T : Tp K mg) : mg "zip" = none := T.free "zip" 7
theorem m_str (T : Tp K mg) : mg "str" = none := T.free "str" 8
theorem m_sum (T : Tp K mg) : mg "sum" = none := T.free "sum" 9
theorem m_set (T : Tp K mg) : mg "set" = none := T.free "set" 10
theorem m_sorted (T : Tp K mg) : mg "sorted" = none := T.free "sorted" 11
theorem m_range (T : Tp K mg) : mg "range" = none := T.free "range" 12
theorem m_list (T : Tp K mg) : mg "list" = none := T.free "list" 13
theorem m_enumerate (T : Tp K mg) : mg "enumerate" = none := T.free "enumerate" 14
theorem m_max (T : Tp K mg) : mg "max" = none := T.free "max" 15
theorem m_min (T : Tp K mg) : mg "min" = none := T.free "min" 16
theorem c_MOST_ROWS (T : Tp K mg) : ∃ t, mg "MOST_ROWS" = some (.int 20 t) := T.int "MOST_ROWS" 20 17
theorem c_LAST_HOUR (T : Tp K mg) : ∃ t, mg "LAST_HOUR" = some (.int 100000 t) := T.int "LAST_HOUR" 100000 18
theorem c_FARTHEST (T : Tp K mg) : ∃ t, mg "FARTHEST" = some (.int 10000 t) := T.int "FARTHEST" 10000 19
theorem c_MOST_SIGNS (T : Tp K mg) : ∃ t, mg "MOST_SIGNS" = some (.int 8 t) := T.int "MOST_SIGNS" 8 20
theorem c_WHOLE (T : Tp K mg) : ∃ t, mg "WHOLE" = some (.int 8 t) := T.int "WHOLE" 8 21
theorem c_MOST_CLASSES (T : Tp K mg) : ∃ t, mg "MOST_CLASSES" = some (.int 6 t) := T.int "MOST_CLASSES" 6 22
theorem c_MOST_RANKS (T : Tp K mg) : ∃ t, mg "MOST_RANKS" = some (.int 20 t) := T.int "MOST_RANKS" 20 23
theorem c_MOST_GROSS (T : Tp K mg) : ∃ t, mg "MOST_GROSS" = some (.int 1000000000000 t) := T.int "MOST_GROSS" 1000000000000 24
theorem c_MOST_RATE (T : Tp K mg) : ∃ t, mg "MOST_RATE" = some (.int 10000 t) := T.int "MOST_RATE" 10000 25
theorem c_MOST_HEADS (T : Tp K mg) : ∃ t, mg "MOST_HEADS" = some (.int 1000 t) := T.int "MOST_HEADS" 1000 26
theorem c_MOST_BOUNTY (T : Tp K mg) : ∃ t, mg "MOST_BOUNTY" = some (.int 1000000000 t) := T.int "MOST_BOUNTY" 1000000000 27
theorem c_MOST_PAGES (T : Tp K mg) : ∃ t, mg "MOST_PAGES" = some (.int 60 t) := T.int "MOST_PAGES" 60 28
theorem c_MOST_DAY (T : Tp K mg) : ∃ t, mg "MOST_DAY" = some (.int 1000000 t) := T.int "MOST_DAY" 1000000 29
theorem c_MOST_HOUR (T : Tp K mg) : ∃ t, mg "MOST_HOUR" = some (.int 100000 t) := T.int "MOST_HOUR" 100000 30
theorem c_MOST_MILES (T : Tp K mg) : ∃ t, mg "MOST_MILES" = some (.int 100000 t) := T.int "MOST_MILES" 100000 31
theorem c_MOST_PENCE (T : Tp K mg) : ∃ t, mg "MOST_PENCE" = some (.int 1000000000000 t) := T.int "MOST_PENCE" 1000000000000 32
theorem cs_LETTERS (T : Tp K mg) : ∃ t, mg "LETTERS" = some (.str "abcdefghijklmnopqrstuvwxyz" t) := T.txt "LETTERS" "abcdefghijklmnopqrstuvwxyz" 0
end
/-! ### the head -/
abbrev R : PySem.W.OpenRow := PySem.W.OpenLaw.row PySem.Challenge.rw_prizelog_k67_names_of_prizes
abbrev hk : PySem.W.Hook := hookL 5 fa fn fx lam
def ob (s : PySem.W.SharedT) : He.Al × Bool × Bool × Bool := obsL 5 fa fn fx lam (HandSHeadRun.getT s)
theorem ob_eq (s : PySem.W.SharedT) : ob s = hk.obs s.abs := obsL_eq (HandSHeadRun.getT_eq s)
def loose : List Str := "is_whole" :: "is_within" :: "are_wholes" :: "divisor_of" :: "is_fraction" :: "PrizeError" :: "NoNumber" :: "NoPages" :: "MOST_ROWS" :: "LAST_HOUR" :: "FARTHEST" :: "is_hour" :: "is_hour_tracks" :: "is_log_row" :: "is_log" :: "LETTERS" :: "MOST_SIGNS" :: "is_name" :: "WHOLE" :: "MOST_CLASSES" :: "MOST_RANKS" :: "are_heads" :: "are_eighths" :: "is_pair" :: "is_scheme" :: "MOST_GROSS" :: "MOST_RATE" :: "MOST_HEADS" :: "MOST_BOUNTY" :: "is_part" :: "is_sale" :: "MOST_PAGES" :: "MOST_DAY" :: "MOST_HOUR" :: "MOST_MILES" :: "MOST_PENCE" :: "is_hour_pages" :: "is_day" :: "is_muster" :: "is_taking" :: "is_body" :: "is_page" :: "are_pages" :: "need_day" :: "need_book" :: "standing" :: "prizes_on" :: "_law_pot_of" :: "_law_draw" :: "_law_name" :: "_law_shuffled" :: "_law_log" :: "_law_scheme" :: "_law_sale" :: "_law_folk" :: "_law_core" :: "_law_more" :: "_law_book" :: "_law_day" :: "_law_stand" :: "_law_more_prizes" :: []
theorem run (w : World) : HandSHeadRun.RunEq R (PySem.W.view R.prog [71]) hk ob 20000 loose w := by
  intro os
  kernel_rfl
def q_is_whole (thing : PyData) (K : PyData → Prop) : Prop :=
  vAnd (isiB thing "int") (fun k1 => k1 (.bool (!(isiB thing "bool")))) fun t2 =>
  K t2
def q_is_within (thing : PyData) (least : PyData) (most : PyData) (K : PyData → Prop) : Prop :=
  q_is_whole thing fun i1 =>
  bT i1 fun b2 =>
  vAnd b2 (fun k8 => oLe least thing fun t3 =>
  bT t3 fun b4 =>
  vAnd b4 (fun k6 => oLe thing most fun t5 =>
  k6 t5) fun t7 =>
  k8 t7) fun t9 =>
  K t9
def qb_are_wholes_1 (d : PyData) (i : PyData × PyData) (s : Unit) (sk : (PyData × PyData) → Unit → Prop) (yd : PyData → (PyData × PyData) → Unit → Prop) : Prop :=
  q_is_whole d fun i5 =>
  yd i5 (i.1, i.2) ()
def q_are_wholes (thing : PyData) (many : PyData) (K : PyData → Prop) : Prop :=
  vAnd (isiB thing "tuple") (fun k12 => nLen [thing] fun t1 =>
  oEq t1 many fun t2 =>
  bT t2 fun b3 =>
  vAnd b3 (fun k10 => itemsQ thing fun l4 =>
  qLc qb_are_wholes_1 (thing, many) l4 [] () fun l6 s8 =>
  nAll [(.list l6)] fun t9 =>
  k10 t9) fun t11 =>
  k12 t11) fun t13 =>
  K t13
def qb_divisor_of_1 (K : PyData → Prop) (i : Unit) (s : PyData × PyData) (nx bk : Unit → (PyData × PyData) → Prop) : Prop :=
  oGt s.2 (.int 0) fun t3 =>
  bT t3 fun b4 =>
  bIf b4
  (oMod s.1 s.2 fun t5 =>
  nx () (s.2, t5))
  (bk () (s.1, s.2))
def q_divisor_of (one : PyData) (other : PyData) (K : PyData → Prop) : Prop :=
  nAbs [one] fun t1 =>
  nAbs [other] fun t2 =>
  qWhile (qb_divisor_of_1 K) () (t1, t2) fun s7 =>
  K s7.1
def q_is_fraction (thing : PyData) (K : PyData → Prop) : Prop :=
  q_are_wholes thing (.int 2) fun a1 =>
  bT a1 fun b2 =>
  vAnd b2 (fun k12 => oIx thing (.int 1) fun t3 =>
  oGt t3 (.int 0) fun t4 =>
  bT t4 fun b5 =>
  vAnd b5 (fun k10 => oIx thing (.int 0) fun t6 =>
  oIx thing (.int 1) fun t7 =>
  q_divisor_of t6 t7 fun d8 =>
  oEq d8 (.int 1) fun t9 =>
  k10 t9) fun t11 =>
  k12 t11) fun t13 =>
  K t13
def q_is_hour_tracks (thing : PyData) (K : PyData → Prop) : Prop :=
  q_is_whole thing fun i1 =>
  bT i1 fun b2 =>
  vAnd b2 (fun k8 => oLe (.int 0) thing fun t3 =>
  bT t3 fun b4 =>
  vAnd b4 (fun k6 => oLe thing (.int (100000)) fun t5 =>
  k6 t5) fun t7 =>
  k8 t7) fun t9 =>
  K t9
def qb_is_log_row_1 (d : PyData) (i : PyData) (s : Unit) (sk : PyData → Unit → Prop) (yd : PyData → PyData → Unit → Prop) : Prop :=
  q_is_whole d fun i13 =>
  bT i13 fun b14 =>
  vAnd b14 (fun k17 => nAbs [d] fun t15 =>
  oLe t15 (.int (10000)) fun t16 =>
  k17 t16) fun t18 =>
  yd t18 i ()
def q_is_log_row (thing : PyData) (K : PyData → Prop) : Prop :=
  tOr (!(isiB thing "tuple")) (fun k9 => nLen [thing] fun t1 =>
  oNe t1 (.int 3) fun t2 =>
  bT t2 fun b3 =>
  tOr b3 (fun k7 => oIx thing (.int 0) fun t4 =>
  q_is_hour_tracks t4 fun i5 =>
  bT i5 fun b6 =>
  k7 (!b6)) fun b8 =>
  k9 b8) fun b10 =>
  bIf b10
  (K (.bool false))
  (oSl thing (some 1) none fun l11 =>
  itemsQ l11 fun l12 =>
  qLc qb_is_log_row_1 thing l12 [] () fun l19 s21 =>
  nAll [(.list l19)] fun t22 =>
  K t22)
def qb_is_log_1 (d : PyData) (i : PyData) (s : Unit) (sk : PyData → Unit → Prop) (yd : PyData → PyData → Unit → Prop) : Prop :=
  q_is_log_row d fun i9 =>
  yd i9 i ()
def qb_is_log_2 (d : PyData) (i : PyData) (s : Unit) (sk : PyData → Unit → Prop) (yd : PyData → PyData → Unit → Prop) : Prop :=
  tupQ d fun r =>
  consQ r fun one' r1 =>
  consQ r1 fun other' r2 =>
  nilQ r2 (oIx one' (.int 0) fun t21 =>
  oIx other' (.int 0) fun t22 =>
  oLt t21 t22 fun t23 =>
  yd t23 i ())
def q_is_log (thing : PyData) (K : PyData → Prop) : Prop :=
  tOr (!(isiB thing "tuple")) (fun k17 => nLen [thing] fun t1 =>
  oLe (.int 1) t1 fun t2 =>
  bT t2 fun b3 =>
  vAnd b3 (fun k5 => oLe t1 (.int (20)) fun t4 =>
  k5 t4) fun t6 =>
  bT t6 fun b7 =>
  tOr (!b7) (fun k15 => itemsQ thing fun l8 =>
  qLc qb_is_log_1 thing l8 [] () fun l10 s12 =>
  nAll [(.list l10)] fun t13 =>
  bT t13 fun b14 =>
  k15 (!b14)) fun b16 =>
  k17 b16) fun b18 =>
  bIf b18
  (K (.bool false))
  (oSl thing (some 1) none fun l19 =>
  zipQ [thing, l19] fun l20 =>
  qLc qb_is_log_2 thing l20 [] () fun l24 s26 =>
  nAll [(.list l24)] fun t27 =>
  K t27)
def qb_is_name_1 (d : PyData) (i : PyData) (s : Unit) (sk : PyData → Unit → Prop) (yd : PyData → PyData → Unit → Prop) : Prop :=
  oIn d (.str "abcdefghijklmnopqrstuvwxyz") fun t11 =>
  yd t11 i ()
def q_is_name (thing : PyData) (K : PyData → Prop) : Prop :=
  tOr (!(isiB thing "str")) (fun k8 => nLen [thing] fun t1 =>
  oLe (.int 1) t1 fun t2 =>
  bT t2 fun b3 =>
  vAnd b3 (fun k5 => oLe t1 (.int (8)) fun t4 =>
  k5 t4) fun t6 =>
  bT t6 fun b7 =>
  k8 (!b7)) fun b9 =>
  bIf b9
  (K (.bool false))
  (itemsQ thing fun l10 =>
  qLc qb_is_name_1 thing l10 [] () fun l12 s14 =>
  nAll [(.list l12)] fun t15 =>
  K t15)
def qb_are_heads_1 (d : PyData) (i : PyData) (s : Unit) (sk : PyData → Unit → Prop) (yd : PyData → PyData → Unit → Prop) : Prop :=
  q_is_whole d fun i7 =>
  bT i7 fun b8 =>
  vAnd b8 (fun k10 => oGe d (.int 0) fun t9 =>
  k10 t9) fun t11 =>
  yd t11 i ()
def q_are_heads (thing : PyData) (many : PyData) (K : PyData → Prop) : Prop :=
  tOr (!(isiB thing "tuple")) (fun k4 => nLen [thing] fun t1 =>
  oNe t1 many fun t2 =>
  bT t2 fun b3 =>
  k4 b3) fun b5 =>
  bIf b5
  (K (.bool false))
  (itemsQ thing fun l6 =>
  qLc qb_are_heads_1 thing l6 [] () fun l12 s14 =>
  nAll [(.list l12)] fun t15 =>
  K t15)
def q_are_eighths (thing : PyData) (K : PyData → Prop) : Prop :=
  tOr (!(isiB thing "tuple")) (fun k8 => nLen [thing] fun t1 =>
  oLe (.int 1) t1 fun t2 =>
  bT t2 fun b3 =>
  vAnd b3 (fun k5 => oLe t1 (.int (6)) fun t4 =>
  k5 t4) fun t6 =>
  bT t6 fun b7 =>
  k8 (!b7)) fun b9 =>
  bIf b9
  (K (.bool false))
  (nLen [thing] fun t10 =>
  q_are_heads thing t10 fun a11 =>
  bT a11 fun b12 =>
  vAnd b12 (fun k15 => nSum [thing] fun t13 =>
  oEq t13 (.int (8)) fun t14 =>
  k15 t14) fun t16 =>
  K t16)
def q_is_pair (thing : PyData) (classes : PyData) (K : PyData → Prop) : Prop :=
  tOr (!(isiB thing "tuple")) (fun k9 => nLen [thing] fun t1 =>
  oNe t1 (.int 2) fun t2 =>
  bT t2 fun b3 =>
  tOr b3 (fun k7 => oIx thing (.int 0) fun t4 =>
  q_is_name t4 fun i5 =>
  bT i5 fun b6 =>
  k7 (!b6)) fun b8 =>
  k9 b8) fun b10 =>
  bIf b10
  (K (.bool false))
  (oIx thing (.int 1) fun t11 =>
  q_is_whole t11 fun i12 =>
  bT i12 fun b13 =>
  vAnd b13 (fun k20 => oIx thing (.int 1) fun t14 =>
  oLe (.int 0) t14 fun t15 =>
  bT t15 fun b16 =>
  vAnd b16 (fun k18 => oLt t14 classes fun t17 =>
  k18 t17) fun t19 =>
  k20 t19) fun t21 =>
  K t21)
def qb_is_scheme_1 (d : PyData) (i : PyData × PyData) (s : Unit) (sk : (PyData × PyData) → Unit → Prop) (yd : PyData → (PyData × PyData) → Unit → Prop) : Prop :=
  nLen [i.1] fun t22 =>
  q_is_pair d t22 fun i23 =>
  yd i23 (i.1, i.2) ()
def qb_is_scheme_2 (d : PyData) (i : PyData) (s : Unit) (sk : PyData → Unit → Prop) (yd : PyData → PyData → Unit → Prop) : Prop :=
  tupQ d fun r =>
  consQ r fun one' r1 =>
  consQ r1 fun other' r2 =>
  nilQ r2 (oIx one' (.int 0) fun t31 =>
  oIx other' (.int 0) fun t32 =>
  oLt t31 t32 fun t33 =>
  yd t33 i ())
def q_is_scheme (thing : PyData) (K : PyData → Prop) : Prop :=
  tOr (!(isiB thing "tuple")) (fun k9 => nLen [thing] fun t1 =>
  oNe t1 (.int 2) fun t2 =>
  bT t2 fun b3 =>
  tOr b3 (fun k7 => oIx thing (.int 0) fun t4 =>
  q_are_eighths t4 fun a5 =>
  bT a5 fun b6 =>
  k7 (!b6)) fun b8 =>
  k9 b8) fun b10 =>
  bIf b10
  (K (.bool false))
  (tupQ thing fun r11 =>
  consQ r11 fun eighths12 r13 =>
  consQ r13 fun ranks14 r15 =>
  nilQ r15 (tOr (!(isiB ranks14 "tuple")) (fun k19 => nLen [ranks14] fun t16 =>
  oGt t16 (.int (20)) fun t17 =>
  bT t17 fun b18 =>
  k19 b18) fun b20 =>
  bIf b20
  (K (.bool false))
  (itemsQ ranks14 fun l21 =>
  qLc qb_is_scheme_1 (eighths12, ranks14) l21 [] () fun l24 s26 =>
  nAll [(.list l24)] fun t27 =>
  bT t27 fun b28 =>
  bIf (!b28)
  (K (.bool false))
  (oSl ranks14 (some 1) none fun l29 =>
  zipQ [ranks14, l29] fun l30 =>
  qLc qb_is_scheme_2 ranks14 l30 [] () fun l34 s36 =>
  nAll [(.list l34)] fun t37 =>
  K t37))))
def q_is_part (thing : PyData) (K : PyData → Prop) : Prop :=
  q_is_fraction thing fun i1 =>
  bT i1 fun b2 =>
  vAnd b2 (fun k10 => oIx thing (.int 0) fun t3 =>
  oLe (.int 0) t3 fun t4 =>
  bT t4 fun b5 =>
  vAnd b5 (fun k8 => oIx thing (.int 1) fun t6 =>
  oLe t3 t6 fun t7 =>
  k8 t7) fun t9 =>
  k10 t9) fun t11 =>
  K t11
def qb_is_sale_1 (d : PyData) (i : PyData × PyData) (s : Unit) (sk : (PyData × PyData) → Unit → Prop) (yd : PyData → (PyData × PyData) → Unit → Prop) : Prop :=
  tupQ d fun r =>
  consQ r fun number' r1 =>
  consQ r1 fun bound' r2 =>
  nilQ r2 (q_is_within number' (.int 0) bound' fun i12 =>
  yd i12 (i.1, i.2) ())
def q_is_sale (thing : PyData) (K : PyData → Prop) : Prop :=
  tOr (!(isiB thing "tuple")) (fun k9 => nLen [thing] fun t1 =>
  oNe t1 (.int 6) fun t2 =>
  bT t2 fun b3 =>
  tOr b3 (fun k7 => oIx thing (.int 5) fun t4 =>
  q_is_part t4 fun i5 =>
  bT i5 fun b6 =>
  k7 (!b6)) fun b8 =>
  k9 b8) fun b10 =>
  bIf b10
  (K (.bool false))
  (zipQ [thing, (.tuple [(.int (1000000000000)), (.int (1000000000000)), (.int (10000)), (.int (1000)), (.int (1000000000))])] fun l11 =>
  qLc qb_is_sale_1 (thing, (.tuple [(.int (1000000000000)), (.int (1000000000000)), (.int (10000)), (.int (1000)), (.int (1000000000))])) l11 [] () fun l13 s15 =>
  nAll [(.list l13)] fun t16 =>
  K t16)
def q_is_hour (thing : PyData) (K : PyData → Prop) : Prop :=
  q_is_within thing (.int 0) (.int (100000)) fun i1 =>
  K i1
def q_is_hour_pages (thing : PyData) (K : PyData → Prop) : Prop :=
  q_is_within thing (.int 0) (.int (100000)) fun i1 =>
  K i1
def q_is_day (thing : PyData) (K : PyData → Prop) : Prop :=
  q_is_within thing (.int 0) (.int (1000000)) fun i1 =>
  K i1
def q_is_muster (body : PyData) (K : PyData → Prop) : Prop :=
  oIx body (.int 1) fun t1 =>
  q_is_name t1 fun i2 =>
  bT i2 fun b3 =>
  vAnd b3 (fun k21 => oIx body (.int 2) fun t4 =>
  q_is_hour_pages t4 fun i5 =>
  bT i5 fun b6 =>
  vAnd b6 (fun k19 => oIx body (.int 3) fun t7 =>
  oEq t7 (.str "") fun t8 =>
  bT t8 fun b9 =>
  vOr b9 (fun k12 => oIx body (.int 3) fun t10 =>
  q_is_name t10 fun i11 =>
  k12 i11) fun t13 =>
  bT t13 fun b14 =>
  vAnd b14 (fun k17 => oIx body (.int 4) fun t15 =>
  q_is_name t15 fun i16 =>
  k17 i16) fun t18 =>
  k19 t18) fun t20 =>
  k21 t20) fun t22 =>
  K t22
def q_is_taking (body : PyData) (K : PyData → Prop) : Prop :=
  oIx body (.int 1) fun t1 =>
  q_is_name t1 fun i2 =>
  bT i2 fun b3 =>
  tOr (!b3) (fun k17 => oIx body (.int 2) fun t4 =>
  q_is_name t4 fun i5 =>
  bT i5 fun b6 =>
  tOr (!b6) (fun k15 => oIx body (.int 3) fun t7 =>
  q_is_hour_pages t7 fun i8 =>
  bT i8 fun b9 =>
  tOr (!b9) (fun k13 => oIx body (.int 4) fun t10 =>
  q_is_hour_pages t10 fun i11 =>
  bT i11 fun b12 =>
  k13 (!b12)) fun b14 =>
  k15 b14) fun b16 =>
  k17 b16) fun b18 =>
  bIf b18
  (K (.bool false))
  (oIx body (.int 3) fun t19 =>
  oIx body (.int 4) fun t20 =>
  oLe t19 t20 fun t21 =>
  bT t21 fun b22 =>
  vAnd b22 (fun k25 => oIx body (.int 5) fun t23 =>
  q_is_within t23 (.int 0) (.int (100000)) fun i24 =>
  k25 i24) fun t26 =>
  K t26)
def q_is_body (number : PyData) (body : PyData) (K : PyData → Prop) : Prop :=
  oIx body (.int 0) fun t1 =>
  nLen [body] fun t2 =>
  oEq t1 (.str "log") fun t3 =>
  bT t3 fun b4 =>
  bIf b4
  (oEq t2 (.int 3) fun t5 =>
  bT t5 fun b6 =>
  vAnd b6 (fun k14 => oIx body (.int 1) fun t7 =>
  q_is_name t7 fun i8 =>
  bT i8 fun b9 =>
  vAnd b9 (fun k12 => oIx body (.int 2) fun t10 =>
  q_is_log t10 fun i11 =>
  k12 i11) fun t13 =>
  k14 t13) fun t15 =>
  K t15)
  (oEq t1 (.str "muster") fun t16 =>
  bT t16 fun b17 =>
  bIf b17
  (oEq t2 (.int 5) fun t18 =>
  bT t18 fun b19 =>
  vAnd b19 (fun k21 => q_is_muster body fun i20 =>
  k21 i20) fun t22 =>
  K t22)
  (oEq t1 (.str "scheme") fun t23 =>
  bT t23 fun b24 =>
  bIf b24
  (oEq t2 (.int 3) fun t25 =>
  bT t25 fun b26 =>
  vAnd b26 (fun k34 => oIx body (.int 1) fun t27 =>
  q_is_hour_pages t27 fun i28 =>
  bT i28 fun b29 =>
  vAnd b29 (fun k32 => oIx body (.int 2) fun t30 =>
  q_is_scheme t30 fun i31 =>
  k32 i31) fun t33 =>
  k34 t33) fun t35 =>
  K t35)
  (oEq t1 (.str "taking") fun t36 =>
  bT t36 fun b37 =>
  bIf b37
  (oEq t2 (.int 6) fun t38 =>
  bT t38 fun b39 =>
  vAnd b39 (fun k41 => q_is_taking body fun i40 =>
  k41 i40) fun t42 =>
  K t42)
  (oEq t1 (.str "sale") fun t43 =>
  bT t43 fun b44 =>
  bIf b44
  (oEq t2 (.int 8) fun t45 =>
  bT t45 fun b46 =>
  vAnd b46 (fun k54 => oIx body (.int 1) fun t47 =>
  q_is_name t47 fun i48 =>
  bT i48 fun b49 =>
  vAnd b49 (fun k52 => oSl body (some 2) none fun l50 =>
  q_is_sale l50 fun i51 =>
  k52 i51) fun t53 =>
  k54 t53) fun t55 =>
  K t55)
  (oEq t1 (.str "finding") fun t56 =>
  bT t56 fun b57 =>
  bIf b57
  (oEq t2 (.int 3) fun t58 =>
  bT t58 fun b59 =>
  vAnd b59 (fun k67 => oIx body (.int 1) fun t60 =>
  q_is_name t60 fun i61 =>
  bT i61 fun b62 =>
  vAnd b62 (fun k65 => oIx body (.int 2) fun t63 =>
  q_is_day t63 fun i64 =>
  k65 i64) fun t66 =>
  k67 t66) fun t68 =>
  K t68)
  (oEq t1 (.str "strike") fun t69 =>
  bT t69 fun b70 =>
  bIf b70
  (oEq t2 (.int 2) fun t71 =>
  bT t71 fun b72 =>
  vAnd b72 (fun k76 => oIx body (.int 1) fun t73 =>
  oSub number (.int 1) fun t74 =>
  q_is_within t73 (.int 0) t74 fun i75 =>
  k76 i75) fun t77 =>
  K t77)
  (oEq t1 (.str "had") fun t78 =>
  bT t78 fun b79 =>
  vAnd b79 (fun k96 => oEq t2 (.int 4) fun t80 =>
  bT t80 fun b81 =>
  vAnd b81 (fun k94 => oIx body (.int 1) fun t82 =>
  q_is_name t82 fun i83 =>
  bT i83 fun b84 =>
  vAnd b84 (fun k92 => oIx body (.int 2) fun t85 =>
  q_is_name t85 fun i86 =>
  bT i86 fun b87 =>
  vAnd b87 (fun k90 => oIx body (.int 3) fun t88 =>
  q_is_within t88 (.int 1) (.int (1000000000000)) fun i89 =>
  k90 i89) fun t91 =>
  k92 t91) fun t93 =>
  k94 t93) fun t95 =>
  k96 t95) fun t97 =>
  K t97)))))))
def q_is_page (thing : PyData) (K : PyData → Prop) : Prop :=
  tOr (!(isiB thing "tuple")) (fun k14 => nLen [thing] fun t1 =>
  oNe t1 (.int 3) fun t2 =>
  bT t2 fun b3 =>
  tOr b3 (fun k12 => oIx thing (.int 0) fun t4 =>
  q_is_day t4 fun i5 =>
  bT i5 fun b6 =>
  tOr (!b6) (fun k10 => oIx thing (.int 1) fun t7 =>
  q_is_day t7 fun i8 =>
  bT i8 fun b9 =>
  k10 (!b9)) fun b11 =>
  k12 b11) fun b13 =>
  k14 b13) fun b15 =>
  bIf b15
  (K (.bool false))
  (oIx thing (.int 2) fun t16 =>
  tOr (!(isiB t16 "tuple")) (fun k24 => oIx thing (.int 2) fun t17 =>
  oEmp false t17 (.tuple []) fun t18 =>
  bT t18 fun b19 =>
  tOr b19 (fun k22 => oIx thing (.int 2) fun t20 =>
  oIx t20 (.int 0) fun t21 =>
  k22 (!(isiB t21 "str"))) fun b23 =>
  k24 b23) fun b25 =>
  bIf b25
  (K (.bool false))
  (oIx thing (.int 1) fun t26 =>
  oIx thing (.int 2) fun t27 =>
  q_is_body t26 t27 fun i28 =>
  K i28))
def qb_are_pages_1 (d : PyData) (i : PyData) (s : Unit) (sk : PyData → Unit → Prop) (yd : PyData → PyData → Unit → Prop) : Prop :=
  q_is_page d fun i5 =>
  yd i5 i ()
def qb_are_pages_2 (d : PyData) (i : PyData) (s : Unit) (sk : PyData → Unit → Prop) (yd : PyData → PyData → Unit → Prop) : Prop :=
  oIx d (.int 1) fun t16 =>
  yd t16 i ()
def q_are_pages (thing : PyData) (K : PyData → Prop) : Prop :=
  tOr (!(isiB thing "tuple")) (fun k13 => nLen [thing] fun t1 =>
  oGt t1 (.int (60)) fun t2 =>
  bT t2 fun b3 =>
  tOr b3 (fun k11 => itemsQ thing fun l4 =>
  qLc qb_are_pages_1 thing l4 [] () fun l6 s8 =>
  nAll [(.list l6)] fun t9 =>
  bT t9 fun b10 =>
  k11 (!b10)) fun b12 =>
  k13 b12) fun b14 =>
  bIf b14
  (K (.bool false))
  (itemsQ thing fun l15 =>
  qLc qb_are_pages_2 thing l15 [] () fun l17 s19 =>
  lenSetIQ (.list l17) fun t20 =>
  nLen [thing] fun t21 =>
  oEq t20 t21 fun t22 =>
  K t22)
def q_need_day (thing : PyData) (K : PyData → Prop) : Prop :=
  q_is_day thing fun i1 =>
  bT i1 fun b2 =>
  bIf (!b2)
  (False)
  (K .none)
def q_need_book (pages : PyData) (day : PyData) (K : PyData → Prop) : Prop :=
  q_are_pages pages fun a1 =>
  bT a1 fun b2 =>
  bIf (!b2)
  (False)
  (q_need_day day fun n3 =>
  K .none)
def qb_standing_1 (d : PyData) (i : PyData × PyData) (s : Unit) (sk : (PyData × PyData) → Unit → Prop) (yd : PyData → (PyData × PyData) → Unit → Prop) : Prop :=
  oIx d (.int 0) fun t2 =>
  oLe t2 i.2 fun t3 =>
  bT t3 fun b4 =>
  bIf b4
  (yd d (i.1, i.2) ())
  (sk (i.1, i.2) ())
def qb_standing_2 (K : PyData → Prop) (d : PyData) (i : Unit) (s : KVM × List PyData) (nx bk : Unit → (KVM × List PyData) → Prop) : Prop :=
  oIx d (.int 1) fun t11 =>
  oInM true t11 (.dict s.1) fun t12 =>
  bT t12 fun b13 =>
  bIf b13
  (insQ s.2 (.int 0) d fun found14 =>
  oIx d (.int 2) fun t15 =>
  oIx t15 (.int 0) fun t16 =>
  oEq t16 (.str "strike") fun t17 =>
  bT t17 fun b18 =>
  bIf b18
  (oIx d (.int 2) fun t19 =>
  oIx t19 (.int 1) fun t20 =>
  putMQ s.1 t20 (.bool true) fun struck21 =>
  nx () (struck21, found14))
  (nx () (s.1, found14)))
  (nx () (s.1, s.2))
def q_standing (pages : PyData) (day : PyData) (K : PyData → Prop) : Prop :=
  itemsQ pages fun l1 =>
  qLc qb_standing_1 (pages, day) l1 [] () fun l5 s7 =>
  sortedKQ (.ix .it 1) (.list l5) fun l8 =>
  oRevA (.list l8) fun l9 =>
  itemsQ l9 fun l10 =>
  qFor (qb_standing_2 K) () l10 ([], []) fun s23 =>
  K (.list s23.2)
def qb_prizes_on_1 (K : PyData → Prop) (d : PyData) (i : Unit) (s : List PyData) (nx bk : Unit → (List PyData) → Prop) : Prop :=
  oIx d (.int 2) fun t4 =>
  oIx t4 (.int 0) fun t5 =>
  oIn t5 (.tuple [(.str "taking"), (.str "sale")]) fun t6 =>
  bT t6 fun b7 =>
  jn (fun J12 => bIf b7
  (oIx d (.int 2) fun t8 =>
  oIx t8 (.int 1) fun t9 =>
  apQ s t9 fun found10 =>
  J12 found10)
  (J12 s)) fun found11 =>
  oIx d (.int 2) fun t13 =>
  oIx t13 (.int 0) fun t14 =>
  oEq t14 (.str "had") fun t15 =>
  bT t15 fun b16 =>
  bIf b16
  (oIx d (.int 2) fun t17 =>
  oIx t17 (.int 2) fun t18 =>
  apQ found11 t18 fun found19 =>
  nx () found19)
  (nx () found11)
def q_prizes_on (pages : PyData) (day : PyData) (K : PyData → Prop) : Prop :=
  q_need_book pages day fun n1 =>
  q_standing pages day fun s2 =>
  itemsQ s2 fun l3 =>
  qFor (qb_prizes_on_1 K) () l3 [] fun s21 =>
  sortSetT (.list s21) fun l22 =>
  nTuple [(.list l22)] fun t23 =>
  K t23
def q_law_pot_of (script : PyData) (k : PyData) (K : List PyData → Prop) : Prop :=
  nLen [script] fun t1 =>
  oLt k t1 fun t2 =>
  bT t2 fun b3 =>
  jn (fun J10 => bIf b3
  (oIx script k fun t4 =>
  nAbs [t4] fun t5 =>
  oPow (.int 10) (.int 60) fun t6 =>
  oPow t6 (.int 14) fun t7 =>
  oMod t5 t7 fun cell8 =>
  J10 cell8)
  (J10 (.int 0))) fun cell9 =>
  oPow (.int 10) (.int 18) fun t11 =>
  oGe cell9 t11 fun t12 =>
  nInt [t12] fun t13 =>
  oMul cell9 t13 fun t14 =>
  oMod cell9 (.int 2147483629) fun t15 =>
  oMul (.int 7919) k fun t16 =>
  oAdd t15 t16 fun t17 =>
  oAdd t17 (.int 1) fun t18 =>
  oPow t18 (.int 5) fun t19 =>
  oMod t19 (.int 2147483647) fun t20 =>
  K [t14, t20]
def q_law_draw (pot : List PyData) (many : PyData) (K : PyData → List PyData → Prop) : Prop :=
  ixQ pot (.int 0) fun t1 =>
  oGt t1 (.int 0) fun t2 =>
  bT t2 fun b3 =>
  bIf b3
  (ixQ pot (.int 0) fun t4 =>
  oMod t4 many fun found5 =>
  ixQ pot (.int 0) fun t6 =>
  oDiv t6 many fun t7 =>
  stQ pot (.int 0) t7 fun pot8 =>
  K found5 pot8)
  (ixQ pot (.int 1) fun t9 =>
  oMul t9 (.int 69621) fun t10 =>
  oAdd t10 (.int 12345) fun t11 =>
  oMod t11 (.int 2147483647) fun t12 =>
  stQ pot (.int 1) t12 fun pot13 =>
  ixQ pot13 (.int 1) fun t14 =>
  ixQ pot13 (.int 1) fun t15 =>
  oMul t14 t15 fun t16 =>
  oMod t16 (.int 2147483629) fun t17 =>
  oDiv t17 (.int 64) fun t18 =>
  oMod t18 many fun t19 =>
  K t19 pot13)
def qb_law_name_1 (d : PyData) (i : PyData × PyData) (s : List PyData) (sk : (PyData × PyData) → (List PyData) → Prop) (yd : PyData → (PyData × PyData) → (List PyData) → Prop) : Prop :=
  q_law_draw s (.int 26) fun d4 pot5 =>
  oIx i.2 d4 fun t6 =>
  yd t6 (i.1, i.2) pot5
def q_law_name (pot : List PyData) (last : PyData) (K : PyData → List PyData → Prop) : Prop :=
  q_law_draw pot (.int 8) fun d1 pot2 =>
  rng1 [d1] fun l3 =>
  qLc qb_law_name_1 (last, (.str "abcdefghijklmnopqrstuvwxyz")) l3 [] pot2 fun l7 s9 =>
  nJoin "" (.list l7) fun t10 =>
  oIx (.str "abcdefghijklmnopqrstuvwxyz") last fun t11 =>
  oAdd t10 t11 fun t12 =>
  K t12 s9
def qb_law_shuffled_1 (d : PyData) (i : PyData) (s : List PyData × List PyData) (sk : PyData → (List PyData × List PyData) → Prop) (yd : PyData → PyData → (List PyData × List PyData) → Prop) : Prop :=
  q_law_draw s.1 (.int ((List.length s.2 : Nat) : Int)) fun d4 pot5 =>
  popQ s.2 d4 fun t6 left7 =>
  yd t6 i (pot5, left7)
def q_law_shuffled (pot : List PyData) (some_ : PyData) (K : PyData → List PyData → Prop) : Prop :=
  nList [some_] fun l1 =>
  nLen [some_] fun t2 =>
  rng1 [t2] fun l3 =>
  qLc qb_law_shuffled_1 some_ l3 [] (pot, l1) fun l8 s10 =>
  nTuple [(.list l8)] fun t11 =>
  K t11 s10.1
def qb_law_log_1 (K : PyData → List PyData → Prop) (d : PyData) (i : Unit) (s : List PyData × PyData × List PyData) (nx bk : Unit → (List PyData × PyData × List PyData) → Prop) : Prop :=
  q_law_draw s.1 (.int 13) fun d7 pot8 =>
  oSub d7 (.int 6) fun t9 =>
  q_law_draw pot8 (.int 13) fun d10 pot11 =>
  oSub d10 (.int 6) fun t12 =>
  apQ s.2.2 (.tuple [s.2.1, t9, t12]) fun found13 =>
  oAdd s.2.1 (.int 1) fun t14 =>
  q_law_draw pot11 (.int 12) fun d15 pot16 =>
  oAdd t14 d15 fun hour17 =>
  nx () (pot16, hour17, found13)
def q_law_log (pot : List PyData) (K : PyData → List PyData → Prop) : Prop :=
  q_law_draw pot (.int 12) fun hour1 pot2 =>
  q_law_draw pot2 (.int 4) fun d3 pot4 =>
  oAdd (.int 1) d3 fun t5 =>
  rng1 [t5] fun l6 =>
  qFor (qb_law_log_1 K) () l6 (pot4, hour1, []) fun s19 =>
  K (.tuple s19.2.2) s19.1
def qb_law_scheme_1 (K : PyData → List PyData → Prop) (d : PyData) (i : PyData × PyData) (s : List PyData × List PyData) (nx bk : (PyData × PyData) → (List PyData × List PyData) → Prop) : Prop :=
  q_law_draw s.1 i.2 fun at_6 pot7 =>
  ixQ s.2 at_6 fun t8 =>
  oAdd t8 (.int 1) fun t9 =>
  stQ s.2 at_6 t9 fun eighths10 =>
  nx (i.1, i.2) (pot7, eighths10)
def qb_law_scheme_2 (d : PyData) (i : PyData × PyData × List PyData) (s : List PyData) (sk : (PyData × PyData × List PyData) → (List PyData) → Prop) (yd : PyData → (PyData × PyData × List PyData) → (List PyData) → Prop) : Prop :=
  q_law_draw s (.int 4) fun d15 pot16 =>
  oGt d15 (.int 0) fun t17 =>
  bT t17 fun b18 =>
  bIf b18
  (q_law_draw pot16 i.2.1 fun d19 pot20 =>
  yd (.tuple [d, d19]) (i.1, i.2.1, i.2.2) pot20)
  (sk (i.1, i.2.1, i.2.2) pot16)
def q_law_scheme (pot : List PyData) (ranks : PyData) (K : PyData → List PyData → Prop) : Prop :=
  q_law_draw pot (.int 4) fun d1 pot2 =>
  oAdd (.int 1) d1 fun classes3 =>
  repQ (.int 0) classes3 fun l4 =>
  rng1 [(.int 8)] fun l5 =>
  qFor (qb_law_scheme_1 K) (ranks, classes3) l5 (pot2, l4) fun s12 =>
  sortedQ ranks fun l13 =>
  itemsQ (.list l13) fun l14 =>
  qLc qb_law_scheme_2 (ranks, classes3, s12.2) l14 [] s12.1 fun l21 s23 =>
  K (.tuple [(.tuple s12.2), (.tuple l21)]) s23
def q_law_sale (pot : List PyData) (K : PyData → List PyData → Prop) : Prop :=
  q_law_draw pot (.int 4) fun way1 pot2 =>
  q_law_draw pot2 (.int 60) fun d3 pot4 =>
  q_law_draw pot4 (.int 60) fun d5 pot6 =>
  oPow (.int 10) (.int 12) fun t7 =>
  oAdd t7 (.int 1) fun t8 =>
  q_law_draw pot6 t8 fun d9 pot10 =>
  oPow (.int 10) (.int 12) fun t11 =>
  oIx (.tuple [d3, d5, d9, t11]) way1 fun gross12 =>
  q_law_draw pot10 (.int 20) fun d13 pot14 =>
  oPow (.int 10) (.int 12) fun t15 =>
  oAdd t15 (.int 1) fun t16 =>
  q_law_draw pot14 t16 fun d17 pot18 =>
  q_law_draw pot18 (.int 20) fun d19 pot20 =>
  q_law_draw pot20 (.int 4) fun d21 pot22 =>
  oIx (.tuple [(.int 0), d13, d17, d19]) d21 fun charges23 =>
  q_law_draw pot22 (.int 10001) fun d24 pot25 =>
  q_law_draw pot25 (.int 4) fun d26 pot27 =>
  oIx (.tuple [(.int 0), d24, (.int 500), (.int 10000)]) d26 fun rate28 =>
  q_law_draw pot27 (.int 4) fun d29 pot30 =>
  oIx (.tuple [(.tuple [(.int 1), (.int 1)]), (.tuple [(.int 1), (.int 8)]), (.tuple [(.int 1), (.int 2)]), (.tuple [(.int 0), (.int 1)])]) d29 fun part31 =>
  q_law_draw pot30 (.int 4) fun d32 pot33 =>
  q_law_draw pot33 (.int 9) fun d34 pot35 =>
  oPow (.int 10) (.int 9) fun t36 =>
  q_law_draw pot35 (.int 9) fun d37 pot38 =>
  oDiv d37 (.int 8) fun t39 =>
  oIx (.tuple [d34, t36]) t39 fun t40 =>
  K (.tuple [gross12, charges23, rate28, d32, t40, part31]) pot38
def qb_law_folk_1 (d : PyData) (i : Unit) (s : List PyData) (sk : Unit → (List PyData) → Prop) (yd : PyData → Unit → (List PyData) → Prop) : Prop :=
  q_law_name s d fun n5 pot6 =>
  yd n5 () pot6
def qb_law_folk_2 (d : PyData) (i : List PyData) (s : List PyData) (sk : (List PyData) → (List PyData) → Prop) (yd : PyData → (List PyData) → (List PyData) → Prop) : Prop :=
  oAdd (.int 5) d fun t14 =>
  q_law_name s t14 fun n15 pot16 =>
  yd n15 i pot16
def qb_law_folk_3 (d : PyData) (i : List PyData × List PyData) (s : List PyData) (sk : (List PyData × List PyData) → (List PyData) → Prop) (yd : PyData → (List PyData × List PyData) → (List PyData) → Prop) : Prop :=
  oAdd (.int 12) d fun t21 =>
  q_law_name s t21 fun n22 pot23 =>
  yd n22 (i.1, i.2) pot23
def q_law_folk (pot : List PyData) (K : PyData → List PyData → Prop) : Prop :=
  q_law_draw pot (.int 4) fun d1 pot2 =>
  oAdd (.int 1) d1 fun t3 =>
  rng1 [t3] fun l4 =>
  qLc qb_law_folk_1 () l4 [] pot2 fun l7 s9 =>
  q_law_draw s9 (.int 6) fun d10 pot11 =>
  oAdd (.int 1) d10 fun t12 =>
  rng1 [t12] fun l13 =>
  qLc qb_law_folk_2 l7 l13 [] pot11 fun l17 s19 =>
  rng1 [(.int 3)] fun l20 =>
  qLc qb_law_folk_3 (l7, l17) l20 [] s19 fun l24 s26 =>
  q_law_name s26 (.int 20) fun n27 pot28 =>
  q_law_name pot28 (.int 21) fun n29 pot30 =>
  K (.tuple [(.list l7), (.list l17), (.list l24), (.list [n27, n29])]) pot30
def qb_law_core_2 (d : PyData) (i : PyData × PyData × PyData × PyData × List PyData × PyData) (s : List PyData) (sk : (PyData × PyData × PyData × PyData × List PyData × PyData) → (List PyData) → Prop) (yd : PyData → (PyData × PyData × PyData × PyData × List PyData × PyData) → (List PyData) → Prop) : Prop :=
  q_law_log s fun l15 pot16 =>
  yd (.tuple [(.str "log"), i.2.2.2.2.2, l15]) (i.1, i.2.1, i.2.2.1, i.2.2.2.1, i.2.2.2.2.1, i.2.2.2.2.2) pot16
def qb_law_core_1 (K : PyData → List PyData → Prop) (d : PyData) (i : PyData × PyData × PyData × PyData) (s : List PyData × List PyData) (nx bk : (PyData × PyData × PyData × PyData) → (List PyData × List PyData) → Prop) : Prop :=
  q_law_draw s.1 (.int 3) fun d11 pot12 =>
  oAdd (.int 1) d11 fun t13 =>
  rng1 [t13] fun l14 =>
  qLc qb_law_core_2 (i.1, i.2.1, i.2.2.1, i.2.2.2, s.2, d) l14 [] pot12 fun l17 s19 =>
  exQ s.2 l17 fun found20 =>
  nx (i.1, i.2.1, i.2.2.1, i.2.2.2) (s19, found20)
def qb_law_core_3 (K : PyData → List PyData → Prop) (d : PyData) (i : PyData × PyData × PyData) (s : List PyData × List PyData) (nx bk : (PyData × PyData × PyData) → (List PyData × List PyData) → Prop) : Prop :=
  tupQ d fun r24 =>
  consQ r24 fun k25 r26 =>
  consQ r26 fun man27 r28 =>
  nilQ r28 (oIx i.1 (.int 0) fun t29 =>
  oAdd (.list [t29]) i.1 fun t30 =>
  oAdd t30 (.list [(.str "")]) fun t31 =>
  nLen [i.1] fun t32 =>
  oAdd t32 (.int 2) fun t33 =>
  q_law_draw s.1 t33 fun d34 pot35 =>
  oGt k25 (.int 0) fun t36 =>
  nInt [t36] fun t37 =>
  oMul d34 t37 fun t38 =>
  oIx t31 t38 fun ship39 =>
  q_law_draw pot35 (.int 8) fun d40 pot41 =>
  q_law_draw pot41 (.int 3) fun d42 pot43 =>
  oIx i.2.1 d42 fun t44 =>
  apQ s.2 (.tuple [(.str "muster"), man27, d40, ship39, t44]) fun found45 =>
  nx (i.1, i.2.1, i.2.2) (pot43, found45))
def q_law_core (pot : List PyData) (folk_here : PyData) (K : PyData → List PyData → Prop) : Prop :=
  tupQ folk_here fun r1 =>
  consQ r1 fun ships2 r3 =>
  consQ r3 fun men4 r5 =>
  consQ r5 fun ranks6 r7 =>
  consQ r7 fun prizes8 r9 =>
  nilQ r9 (itemsQ ships2 fun l10 =>
  qFor (qb_law_core_1 K) (ships2, men4, ranks6, prizes8) l10 (pot, []) fun s22 =>
  enumQ [men4] fun l23 =>
  qFor (qb_law_core_3 K) (ships2, ranks6, prizes8) l23 (s22.1, s22.2) fun s47 =>
  q_law_draw s47.1 (.int 6) fun d48 pot49 =>
  q_law_scheme pot49 ranks6 fun s50 pot51 =>
  apQ s47.2 (.tuple [(.str "scheme"), d48, s50]) fun found52 =>
  q_law_draw pot51 (.int 14) fun d53 pot54 =>
  oAdd (.int 6) d53 fun low55 =>
  oIx prizes8 (.int 0) fun t56 =>
  oIx ships2 (.int 0) fun t57 =>
  q_law_draw pot54 (.int 20) fun d58 pot59 =>
  oAdd low55 d58 fun t60 =>
  q_law_draw pot59 (.int 9) fun d61 pot62 =>
  apQ found52 (.tuple [(.str "taking"), t56, t57, low55, t60, d61]) fun found63 =>
  oIx prizes8 (.int 0) fun t64 =>
  q_law_sale pot62 fun s65 pot66 =>
  oAdd (.tuple [(.str "sale"), t64]) s65 fun t67 =>
  apQ found63 t67 fun found68 =>
  q_law_draw pot66 (.int 6) fun d69 pot70 =>
  oEq d69 (.int 0) fun t71 =>
  bT t71 fun b72 =>
  jn (fun J79 => bIf b72
  (q_law_draw pot70 (.int ((List.length found68 : Nat) : Int)) fun d73 pot74 =>
  popQ found68 d73 fun t75 found76 =>
  J79 pot74 found76)
  (J79 pot70 found68)) fun pot77 found78 =>
  K (.list found78) pot77)
def q_law_more (pot : List PyData) (folk_here : PyData) (numbers : PyData) (own : PyData) (K : PyData → List PyData → Prop) : Prop :=
  tupQ folk_here fun r1 =>
  consQ r1 fun ships2 r3 =>
  consQ r3 fun men4 r5 =>
  consQ r5 fun ranks6 r7 =>
  consQ r7 fun prizes8 r9 =>
  nilQ r9 (nLen [ships2] fun t10 =>
  q_law_draw pot t10 fun d11 pot12 =>
  oIx ships2 d11 fun ship13 =>
  nLen [men4] fun t14 =>
  q_law_draw pot12 t14 fun d15 pot16 =>
  oIx men4 d15 fun man17 =>
  q_law_draw pot16 (.int 5) fun d18 pot19 =>
  oDiv d18 (.int 4) fun t20 =>
  oIx prizes8 t20 fun prize21 =>
  nLen [numbers] fun t22 =>
  q_law_draw pot19 t22 fun d23 pot24 =>
  oIx numbers d23 fun number25 =>
  q_law_draw pot24 (.int 12) fun way26 pot27 =>
  oEq way26 (.int 0) fun t28 =>
  bT t28 fun b29 =>
  bIf b29
  (q_law_log pot27 fun l30 pot31 =>
  K (.tuple [(.str "log"), ship13, l30]) pot31)
  (oEq way26 (.int 1) fun t32 =>
  bT t32 fun b33 =>
  bIf b33
  (oAdd ships2 (.list [(.str "")]) fun t34 =>
  nLen [ships2] fun t35 =>
  oAdd t35 (.int 1) fun t36 =>
  q_law_draw pot27 t36 fun d37 pot38 =>
  oIx t34 d37 fun aboard39 =>
  q_law_draw pot38 (.int 40) fun d40 pot41 =>
  q_law_draw pot41 (.int 3) fun d42 pot43 =>
  oIx ranks6 d42 fun t44 =>
  K (.tuple [(.str "muster"), man17, d40, aboard39, t44]) pot43)
  (oEq way26 (.int 2) fun t45 =>
  bT t45 fun b46 =>
  bIf b46
  (q_law_draw pot27 (.int 30) fun d47 pot48 =>
  q_law_scheme pot48 ranks6 fun s49 pot50 =>
  K (.tuple [(.str "scheme"), d47, s49]) pot50)
  (oEq way26 (.int 3) fun t51 =>
  bT t51 fun b52 =>
  bIf b52
  (q_law_draw pot27 (.int 20) fun low53 pot54 =>
  q_law_draw pot54 (.int 20) fun d55 pot56 =>
  oAdd low53 d55 fun t57 =>
  q_law_draw pot56 (.int 9) fun d58 pot59 =>
  K (.tuple [(.str "taking"), prize21, ship13, low53, t57, d58]) pot59)
  (oEq way26 (.int 4) fun t60 =>
  bT t60 fun b61 =>
  bIf b61
  (q_law_sale pot27 fun s62 pot63 =>
  oAdd (.tuple [(.str "sale"), prize21]) s62 fun t64 =>
  K t64 pot63)
  (oLt way26 (.int 7) fun t65 =>
  bT t65 fun b66 =>
  bIf b66
  (q_law_draw pot27 (.int 9) fun d67 pot68 =>
  oPow (.int 10) (.int 12) fun t69 =>
  q_law_draw pot68 t69 fun d70 pot71 =>
  q_law_draw pot71 (.int 4) fun d72 pot73 =>
  oDiv d72 (.int 3) fun t74 =>
  oIx (.tuple [d67, d70]) t74 fun t75 =>
  oAdd (.int 1) t75 fun t76 =>
  K (.tuple [(.str "had"), man17, prize21, t76]) pot73)
  (oLt way26 (.int 9) fun t77 =>
  bT t77 fun b78 =>
  tAnd b78 (fun k81 => oLt number25 own fun t79 =>
  bT t79 fun b80 =>
  k81 b80) fun b82 =>
  bIf b82
  (K (.tuple [(.str "strike"), number25]) pot27)
  (K (.tuple [(.str "finding"), ship13, number25]) pot27))))))))
def qb_law_book_1 (K : PyData → List PyData → Prop) (d : PyData) (i : PyData × PyData × PyData) (s : List PyData × List PyData × PyData) (nx bk : (PyData × PyData × PyData) → (List PyData × List PyData × PyData) → Prop) : Prop :=
  q_law_draw s.1 i.2.2 fun d11 pot12 =>
  apQ s.2.1 (.tuple [d11, s.2.2, d]) fun found13 =>
  oAdd s.2.2 (.int 1) fun t14 =>
  q_law_draw pot12 (.int 3) fun d15 pot16 =>
  oAdd t14 d15 fun number17 =>
  nx (i.1, i.2.1, i.2.2) (pot16, found13, number17)
def qb_law_book_3 (d : PyData) (i : PyData × PyData × PyData × PyData × PyData) (s : Unit) (sk : (PyData × PyData × PyData × PyData × PyData) → Unit → Prop) (yd : PyData → (PyData × PyData × PyData × PyData × PyData) → Unit → Prop) : Prop :=
  oIx d (.int 1) fun t25 =>
  yd t25 (i.1, i.2.1, i.2.2.1, i.2.2.2.1, i.2.2.2.2) ()
def qb_law_book_2 (K : PyData → List PyData → Prop) (d : PyData) (i : PyData × PyData) (s : List PyData × List PyData × PyData) (nx bk : (PyData × PyData) → (List PyData × List PyData × PyData) → Prop) : Prop :=
  itemsQ (.list s.2.1) fun l24 =>
  qLc qb_law_book_3 ((.list s.1), i.1, i.2, (.list s.2.1), s.2.2) l24 [] () fun l26 s28 =>
  scalsQ l26 (oAdd s.2.2 (.int 1) fun t29 =>
  oAdd (.list l26) (.list [t29]) fun numbers30 =>
  q_law_draw s.1 i.2 fun d31 pot32 =>
  q_law_more pot32 i.1 numbers30 s.2.2 fun m33 pot34 =>
  apQ s.2.1 (.tuple [d31, s.2.2, m33]) fun found35 =>
  oAdd s.2.2 (.int 1) fun t36 =>
  q_law_draw pot34 (.int 3) fun d37 pot38 =>
  oAdd t36 d37 fun number39 =>
  nx (i.1, i.2) (pot38, found35, number39))
def q_law_book (pot : List PyData) (folk_here : PyData) (most : PyData) (K : PyData → List PyData → Prop) : Prop :=
  oPow (.int 10) (.int 6) fun t1 =>
  oAdd t1 (.int 1) fun t2 =>
  q_law_draw pot (.int 4) fun d3 pot4 =>
  oIx (.tuple [(.int 10), (.int 10), (.int 3), t2]) d3 fun far5 =>
  q_law_draw pot4 (.int 3) fun number6 pot7 =>
  q_law_core pot7 folk_here fun c8 pot9 =>
  itemsQ c8 fun l10 =>
  qFor (qb_law_book_1 K) (folk_here, most, far5) l10 (pot9, [], number6) fun s19 =>
  oAdd most (.int 1) fun t20 =>
  q_law_draw s19.1 t20 fun d21 pot22 =>
  rng1 [d21] fun l23 =>
  qFor (qb_law_book_2 K) (folk_here, far5) l23 (pot22, s19.2.1, s19.2.2) fun s41 =>
  q_law_shuffled s41.1 (.list s41.2.1) fun s42 pot43 =>
  K s42 pot43
def qb_law_day_1 (d : PyData) (i : List PyData × PyData) (s : Unit) (sk : (List PyData × PyData) → Unit → Prop) (yd : PyData → (List PyData × PyData) → Unit → Prop) : Prop :=
  oIx d (.int 0) fun t2 =>
  yd t2 (i.1, i.2) ()
def q_law_day (pot : List PyData) (pages : PyData) (K : PyData → List PyData → Prop) : Prop :=
  itemsQ pages fun l1 =>
  qLc qb_law_day_1 (pot, pages) l1 [] () fun l3 s5 =>
  sortedQ (.list l3) fun l6 =>
  oAdd (.list l6) (.list [(.int 9)]) fun days7 =>
  nLen [days7] fun t8 =>
  q_law_draw pot t8 fun d9 pot10 =>
  oIx days7 d9 fun day_here11 =>
  oIx days7 (.int (-1)) fun t12 =>
  nMaxL [days7] fun t13 =>
  oSub day_here11 (.int 1) fun t14 =>
  nMax2 [(.int 0), t14] fun t15 =>
  q_law_draw pot10 (.int 12) fun d16 pot17 =>
  oPow (.int 10) (.int 6) fun t18 =>
  q_law_draw pot17 (.int 6) fun d19 pot20 =>
  oIx (.tuple [day_here11, t12, t13, t15, d16, t18]) d19 fun t21 =>
  K t21 pot20
def qb_law_stand_1 (d : PyData) (i : PyData × PyData × KVM × KVM) (s : Unit) (sk : (PyData × PyData × KVM × KVM) → Unit → Prop) (yd : PyData → (PyData × PyData × KVM × KVM) → Unit → Prop) : Prop :=
  oIx d (.int 1) fun t2 =>
  yd (.tuple [t2, d]) (i.1, i.2.1, i.2.2.1, i.2.2.2) ()
def qb_law_stand_2 (K : PyData → Prop) (d : PyData) (i : PyData) (s : KVM × KVM) (nx bk : PyData → (KVM × KVM) → Prop) : Prop :=
  tupQ d fun r8 =>
  consQ r8 fun number9 r10 =>
  consQ r10 fun page11 r12 =>
  nilQ r12 (oIx page11 (.int 0) fun t13 =>
  oLe t13 i fun t14 =>
  bT t14 fun b15 =>
  tAnd b15 (fun k18 => oInM true number9 (.dict s.2) fun t16 =>
  bT t16 fun b17 =>
  k18 b17) fun b19 =>
  bIf b19
  (putMQ s.1 number9 page11 fun found20 =>
  oIx page11 (.int 2) fun t21 =>
  oIx t21 (.int 0) fun t22 =>
  oEq t22 (.str "strike") fun t23 =>
  bT t23 fun b24 =>
  bIf b24
  (oIx page11 (.int 2) fun t25 =>
  oIx t25 (.int 1) fun t26 =>
  putMQ s.2 t26 number9 fun struck27 =>
  nx i (found20, struck27))
  (nx i (found20, s.2)))
  (nx i (s.1, s.2)))
def qb_law_stand_3 (d : PyData) (i : PyData × KVM) (s : Unit) (sk : (PyData × KVM) → Unit → Prop) (yd : PyData → (PyData × KVM) → Unit → Prop) : Prop :=
  oIxM i.1 d fun t32 =>
  yd t32 (i.1, i.2) ()
def q_law_stand (pages : PyData) (day_here : PyData) (K : PyData → Prop) : Prop :=
  itemsM pages fun l1 =>
  qLc qb_law_stand_1 (pages, day_here, [], []) l1 [] () fun l3 s5 =>
  sortedNQ true (.list l3) fun l6 =>
  itemsM (.list l6) fun l7 =>
  qFor (qb_law_stand_2 K) day_here l7 ([], []) fun s29 =>
  sortKkQ (.dict s29.1) fun l30 =>
  itemsM (.list l30) fun l31 =>
  qLc qb_law_stand_3 ((.dict s29.1), s29.2) l31 [] () fun l33 s35 =>
  K (.list l33)
def qb_law_more_prizes_1 (d : PyData) (i : List PyData × PyData × PyData × List PyData) (s : Unit) (sk : (List PyData × PyData × PyData × List PyData) → Unit → Prop) (yd : PyData → (List PyData × PyData × PyData × List PyData) → Unit → Prop) : Prop :=
  oIx d (.int 1) fun t3 =>
  yd t3 (i.1, i.2.1, i.2.2.1, i.2.2.2) ()
def qb_law_more_prizes_2 (K : PyData → List PyData → Prop) (d : PyData) (i : PyData) (s : List PyData × List PyData × PyData) (nx bk : PyData → (List PyData × List PyData × PyData) → Prop) : Prop :=
  q_law_draw s.1 (.int 26) fun d12 pot13 =>
  q_law_name pot13 d12 fun prize14 pot15 =>
  q_law_sale pot15 fun s16 pot17 =>
  oAdd (.tuple [(.str "sale"), prize14]) s16 fun t18 =>
  oIx i (.int 0) fun t19 =>
  oIx t19 (.int 0) fun t20 =>
  oIx i (.int 3) fun t21 =>
  oIx t21 (.int 0) fun t22 =>
  oIx i (.int 1) fun t23 =>
  oIx t23 (.int 0) fun t24 =>
  q_law_draw pot17 (.int ((List.length s.2.1 : Nat) : Int)) fun d25 pot26 =>
  ixQ s.2.1 d25 fun t27 =>
  oIx t27 (.int 1) fun t28 =>
  q_law_draw pot26 (.int 5) fun d29 pot30 =>
  oIx (.tuple [t18, (.tuple [(.str "taking"), prize14, t20, (.int 3), (.int 9), (.int 5)]), (.tuple [(.str "had"), prize14, t22, (.int 7)]), (.tuple [(.str "had"), t24, prize14, (.int 7)]), (.tuple [(.str "strike"), t28])]) d29 fun body31 =>
  q_law_draw pot30 (.int 10) fun d32 pot33 =>
  apQ s.2.1 (.tuple [d32, s.2.2, body31]) fun found34 =>
  oAdd s.2.2 (.int 1) fun number35 =>
  nx i (pot33, found34, number35)
def q_law_more_prizes (pot : List PyData) (folk_here : PyData) (pages : PyData) (K : PyData → List PyData → Prop) : Prop :=
  nList [pages] fun l1 =>
  itemsQ pages fun l2 =>
  qLc qb_law_more_prizes_1 (pot, folk_here, pages, l1) l2 [] () fun l4 s6 =>
  nMaxL [(.list l4)] fun t7 =>
  oAdd t7 (.int 1) fun number8 =>
  q_law_draw pot (.int 16) fun d9 pot10 =>
  rng1 [d9] fun l11 =>
  qFor (qb_law_more_prizes_2 K) folk_here l11 (pot10, l1, number8) fun s37 =>
  q_law_shuffled s37.1 (.list s37.2.1) fun s38 pot39 =>
  K s38 pot39
def qb_law_3 (d : PyData) (i : PyData × List PyData × PyData × PyData × PyData) (s : Unit) (sk : (PyData × List PyData × PyData × PyData × PyData) → Unit → Prop) (yd : PyData → (PyData × List PyData × PyData × PyData × PyData) → Unit → Prop) : Prop :=
  oIx d (.int 2) fun t17 =>
  oIx t17 (.int 0) fun t18 =>
  oIn t18 (.tuple [(.str "taking"), (.str "sale")]) fun t19 =>
  bT t19 fun b20 =>
  bIf b20
  (oIx d (.int 2) fun t21 =>
  oIx t21 (.int 1) fun t22 =>
  yd t22 (i.1, i.2.1, i.2.2.1, i.2.2.2.1, i.2.2.2.2) ())
  (sk (i.1, i.2.1, i.2.2.1, i.2.2.2.1, i.2.2.2.2) ())
def qb_law_4 (d : PyData) (i : PyData × List PyData × PyData × PyData × PyData × PyData) (s : Unit) (sk : (PyData × List PyData × PyData × PyData × PyData × PyData) → Unit → Prop) (yd : PyData → (PyData × List PyData × PyData × PyData × PyData × PyData) → Unit → Prop) : Prop :=
  oIx d (.int 2) fun t27 =>
  oIx t27 (.int 0) fun t28 =>
  oEq t28 (.str "had") fun t29 =>
  bT t29 fun b30 =>
  bIf b30
  (oIx d (.int 2) fun t31 =>
  oIx t31 (.int 2) fun t32 =>
  yd t32 (i.1, i.2.1, i.2.2.1, i.2.2.2.1, i.2.2.2.2.1, i.2.2.2.2.2) ())
  (sk (i.1, i.2.1, i.2.2.1, i.2.2.2.1, i.2.2.2.2.1, i.2.2.2.2.2) ())
def qb_law_2 (K : PyData → Prop) (d : PyData) (i : PyData × PyData) (s : List PyData) (nx bk : (PyData × PyData) → (List PyData) → Prop) : Prop :=
  q_law_day s i.2 fun day_here13 pot14 =>
  q_law_stand i.2 day_here13 fun stand_here15 =>
  itemsQ stand_here15 fun l16 =>
  qLc qb_law_3 (i.1, pot14, i.2, day_here13, stand_here15) l16 [] () fun l23 s25 =>
  itemsQ stand_here15 fun l26 =>
  qLc qb_law_4 (i.1, pot14, i.2, day_here13, stand_here15, (.list l23)) l26 [] () fun l33 s35 =>
  oAdd (.list l23) (.list l33) fun t36 =>
  sortSetT t36 fun l37 =>
  nTuple [(.list l37)] fun due38 =>
  q_prizes_on i.2 day_here13 fun p39 =>
  oNe p39 due38 fun t40 =>
  bT t40 fun b41 =>
  jn (fun k47 => bIf b41 (k47 true pot14) (q_law_shuffled pot14 i.2 fun s42 pot43 =>
  q_prizes_on s42 day_here13 fun p44 =>
  oNe p44 due38 fun t45 =>
  bT t45 fun b46 =>
  k47 b46 pot43)) fun b48 pot49 =>
  bIf b48
  (K (.bool false))
  (nx (i.1, i.2) pot49)
def qb_law_1 (K : PyData → Prop) (d : PyData) (i : PyData) (s : Unit) (nx bk : PyData → Unit → Prop) : Prop :=
  q_law_pot_of i d fun pot5 =>
  q_law_folk pot5 fun folk_here6 pot7 =>
  q_law_book pot7 folk_here6 (.int 8) fun b8 pot9 =>
  q_law_more_prizes pot9 folk_here6 b8 fun pages10 pot11 =>
  rng1 [(.int 4)] fun l12 =>
  qFor (qb_law_2 K) (i, pages10) l12 pot11 fun s51 =>
  nx i ()
def q_law (script : PyData) (K : PyData → Prop) : Prop :=
  nLen [script] fun t1 =>
  nMin2 [t1, (.int 12)] fun t2 =>
  nMax2 [(.int 1), t2] fun t3 =>
  rng1 [t3] fun l4 =>
  qFor (qb_law_1 K) script l4 () fun s53 =>
  oPow (.int 10) (.int 6) fun t54 =>
  q_prizes_on (.tuple []) t54 fun p55 =>
  oEmp false p55 (.tuple []) fun t56 =>
  K t56
local macro_rules | `(tactic| walk_at "q") => `(tactic| try simp only [q_bT, q_add, q_addT, q_addL, q_addS, q_sub, q_mul, q_mulT, q_div, q_mod, q_pow, q_neg, q_lt, q_le, q_gt, q_ge, q_oI, q_eq, q_ne, q_eqS, q_neS, q_isN, q_isNi, q_isNt, q_isNs, q_notN, q_notNi, q_notNt, q_ix, q_ixL, q_ixQ, q_len, q_lenT, q_lenS, q_abs, q_min, q_max, q_tupleOf, q_tupleOfT, q_int, q_intB, q_list, q_listT, q_tup, q_cons, q_nil, q_so, q_lst, q_items, q_itemsT, q_rev, q_zip, q_zipT, q_rng1, q_rng2, q_sumI, q_sumTI, q_allB, q_anyB, q_ap, q_jn, q_fd, q_rep, q_slT, q_slL, q_max3, q_min3, q_str, q_cat, q_catN, q_scalN, q_scalB, q_scalI, q_scalS, q_enumL, q_enumT, q_inL, q_inT, q_inS, q_ninL, q_ninT, q_ninS, Bool.true_eq_false, Bool.false_eq_true, false_imp_iff, true_imp_iff, q_eqB, q_neB, q_empL, q_empT, q_isB, q_revL, q_revT, List.isEmpty_cons, List.isEmpty_nil, bne_self_eq_false, Bool.bne_false, Bool.bne_true, q_same, q_tAnd_k, q_tOr_k, q_vAnd_k, q_vOr_k, q_tAnd_s, q_tOr_s, q_vAnd_s, q_vOr_s, q_vIf_k, q_tAnd_t, q_tAnd_f, q_tOr_t, q_tOr_f, q_vAnd_t, q_vAnd_f, q_vOr_t, q_vOr_f, q_vIf_t, q_vIf_f, at0, at1, at2, at3, at4, at5, at6, atLast, st0, st1, st2, st3, st4, bIf_t, bIf_f, true_and, and_true, Bool.not_true, Bool.not_false, Bool.true_and, Bool.false_and, Bool.and_true, Bool.and_false, Bool.true_or, Bool.or_true, Bool.false_or, Bool.or_false, Bool.not_not, decide_true, decide_false, List.length_cons, List.cons_append, List.nil_append, List.length_nil, List.length_map, List.length_append, isi_non_int, isi_non_bool, isi_non_str, isi_non_list, isi_non_tuple, isi_non_dict, isi_bl_int, isi_bl_bool, isi_bl_str, isi_bl_list, isi_bl_tuple, isi_bl_dict, isi_int_int, isi_int_bool, isi_int_str, isi_int_list, isi_int_tuple, isi_int_dict, isi_str_int, isi_str_bool, isi_str_str, isi_str_list, isi_str_tuple, isi_str_dict, isi_lst_int, isi_lst_bool, isi_lst_str, isi_lst_list, isi_lst_tuple, isi_lst_dict, isi_tup_int, isi_tup_bool, isi_tup_str, isi_tup_list, isi_tup_tuple, isi_tup_dict, isi_dct_int, isi_dct_bool, isi_dct_str, isi_dct_list, isi_dct_tuple, isi_dct_dict])
local macro_rules | `(tactic| walk_at "side") => `(tactic| first | assumption | exact rfl | omega | exact sz_of (by omega) (by omega) | decide | (refine ⟨?_, ?_⟩ <;> walk_at "side"))
local macro_rules | `(tactic| walk_at "sides") => `(tactic| repeat ((with_reducible refine And.intro ?_ ?_); (· walk_at "side"); walk_at "q"))
local macro_rules | `(tactic| walk_at "go") => `(tactic| (walk_at "q"; walk_at "sides"))
local macro_rules | `(tactic| walk_at "j") => `(tactic| try simp only [q_bT, q_add, q_addT, q_addL, q_addS, q_sub, q_mul, q_mulT, q_div, q_mod, q_pow, q_neg, q_lt, q_le, q_gt, q_ge, q_oI, q_eq, q_ne, q_eqS, q_neS, q_isN, q_isNi, q_isNt, q_isNs, q_notN, q_notNi, q_notNt, q_ix, q_ixL, q_ixQ, q_len, q_lenT, q_lenS, q_abs, q_min, q_max, q_tupleOf, q_tupleOfT, q_int, q_intB, q_list, q_listT, q_tup, q_cons, q_nil, q_so, q_lst, q_items, q_itemsT, q_rev, q_zip, q_zipT, q_rng1, q_rng2, q_sumI, q_sumTI, q_allB, q_anyB, q_ap, q_fd, q_rep, q_slT, q_slL, q_max3, q_min3, q_str, q_cat, q_catN, q_scalN, q_scalB, q_scalI, q_scalS, q_enumL, q_enumT, q_inL, q_inT, q_inS, q_ninL, q_ninT, q_ninS, Bool.true_eq_false, Bool.false_eq_true, false_imp_iff, true_imp_iff, q_eqB, q_neB, q_empL, q_empT, q_isB, q_revL, q_revT, List.isEmpty_cons, List.isEmpty_nil, bne_self_eq_false, Bool.bne_false, Bool.bne_true, q_same, q_tAnd_k, q_tOr_k, q_vAnd_k, q_vOr_k, q_tAnd_s, q_tOr_s, q_vAnd_s, q_vOr_s, q_vIf_k, q_tAnd_t, q_tAnd_f, q_tOr_t, q_tOr_f, q_vAnd_t, q_vAnd_f, q_vOr_t, q_vOr_f, q_vIf_t, q_vIf_f, at0, at1, at2, at3, at4, at5, at6, atLast, st0, st1, st2, st3, st4, bIf_t, bIf_f, true_and, and_true, Bool.not_true, Bool.not_false, Bool.true_and, Bool.false_and, Bool.and_true, Bool.and_false, Bool.true_or, Bool.or_true, Bool.false_or, Bool.or_false, Bool.not_not, decide_true, decide_false, List.length_cons, List.cons_append, List.nil_append, List.length_nil, List.length_map, List.length_append, isi_non_int, isi_non_bool, isi_non_str, isi_non_list, isi_non_tuple, isi_non_dict, isi_bl_int, isi_bl_bool, isi_bl_str, isi_bl_list, isi_bl_tuple, isi_bl_dict, isi_int_int, isi_int_bool, isi_int_str, isi_int_list, isi_int_tuple, isi_int_dict, isi_str_int, isi_str_bool, isi_str_str, isi_str_list, isi_str_tuple, isi_str_dict, isi_lst_int, isi_lst_bool, isi_lst_str, isi_lst_list, isi_lst_tuple, isi_lst_dict, isi_tup_int, isi_tup_bool, isi_tup_str, isi_tup_list, isi_tup_tuple, isi_tup_dict, isi_dct_int, isi_dct_bool, isi_dct_str, isi_dct_list, isi_dct_tuple, isi_dct_dict])
def isW : PyData → Bool
  | .int _ => true
  | _ => false
def isIn (a : PyData) (l m : Int) : Bool := match a with
  | .int i => decide (l ≤ i) && decide (i ≤ m)
  | _ => false
def areW (a : PyData) (n : Int) : Bool := match a with
  | .tuple ds => decide ((ds.length : Int) = n) && ds.all isW
  | _ => false
def isFr (a : PyData) : Bool := match a with
  | .tuple [.int p, .int q] => decide (0 < q) && decide (Int.gcd p q = 1)
  | _ => false
structure Sale (g c r h b p q : Int) : Prop where
  g0 : 0 ≤ g
  g1 : g ≤ 10 ^ 12
  c0 : 0 ≤ c
  c1 : c ≤ 10 ^ 12
  r0 : 0 ≤ r
  r1 : r ≤ 10000
  h0 : 0 ≤ h
  h1 : h ≤ 1000
  b0 : 0 ≤ b
  b1 : b ≤ 10 ^ 9
  p0 : 0 ≤ p
  pq : p ≤ q
  q0 : 0 < q
  q1 : q ≤ 10 ^ 40
  co : Int.gcd p q = 1
structure SaleB (g c r h b p q : Int) : Prop where
  g0 : 0 ≤ g
  g1 : g ≤ 10 ^ 70
  c0 : 0 ≤ c
  c1 : c ≤ 10 ^ 12
  r0 : 0 ≤ r
  r1 : r ≤ 10000
  h0 : 0 ≤ h
  h1 : h ≤ 1000
  b0 : 0 ≤ b
  b1 : b ≤ 10 ^ 9
  p0 : 0 ≤ p
  pq : p ≤ q
  q0 : 0 < q
  q1 : q ≤ 10 ^ 40
theorem Sale.B {g c r h b p q : Int} (s : Sale g c r h b p q) : SaleB g c r h b p q := ⟨s.g0, Int.le_trans s.g1 (by decide), s.c0, s.c1, s.r0, s.r1, s.h0, s.h1, s.b0, s.b1, s.p0, s.pq, s.q0, s.q1⟩
def saleD (g c r h b p q : Int) : PyData := .tuple [.int g, .int c, .int r, .int h, .int b, .tuple [.int p, .int q]]
def paid (g c : Int) : Int := if g < c then g else c
def caps (g c p q : Int) : Int := (g - paid g c) * p / q
def pot (g c h b p q : Int) : Int := caps g c p q + h * b
def fee (g c r h b p q : Int) : Int := pot g c h b p q * r / 10000
def PotOk (n : Int) (xs : List PyData) : Prop := ∃ g s t : Int, xs = [.int g, .int s, .int t] ∧ 0 ≤ s ∧ s ≤ 10 ^ 12 ∧ 0 ≤ t ∧ t ≤ n
theorem PotOk.mono {n m : Int} {xs : List PyData} (h : PotOk n xs) (e : n ≤ m) : PotOk m xs := by
  obtain ⟨g, s, t, h1, h2, h3, h4, h5⟩ := h
  exact ⟨g, s, t, h1, h2, h3, h4, by omega⟩
theorem gcd_step (i j : Int) (h0 : 0 < j) (hi : 0 ≤ i) : Int.gcd j (i % j) = Int.gcd i j := by
  obtain ⟨a, rfl⟩ := Int.eq_ofNat_of_zero_le hi
  obtain ⟨b, rfl⟩ := Int.eq_ofNat_of_zero_le (Int.le_of_lt h0)
  have e : ((a : Int) % (b : Int)) = ((a % b : Nat) : Int) := by simp
  rw [e]
  show Nat.gcd b (a % b) = Nat.gcd a b
  rw [Nat.gcd_comm a b, Nat.gcd_comm b (a % b)]
  exact (Nat.gcd_rec b a).symm
theorem caps_le {x p q : Int} (h0 : 0 ≤ x) (h1 : 0 ≤ p) (h2 : p ≤ q) (h3 : 0 < q) : 0 ≤ x * p / q ∧ x * p / q ≤ x := by
  refine ⟨Int.ediv_nonneg (Int.mul_nonneg h0 h1) (by omega), ?_⟩
  have : x * p ≤ x * q := Int.mul_le_mul_of_nonneg_left h2 h0
  exact Int.le_trans (Int.ediv_le_ediv h3 this) (by rw [Int.mul_ediv_cancel _ (by omega)]; exact Int.le_refl x)
theorem paid_in {g c : Int} (h0 : 0 ≤ g) (h1 : 0 ≤ c) : 0 ≤ paid g c ∧ paid g c ≤ g := by
  unfold paid
  split <;> omega
theorem sale_caps {g c r h b p q : Int} (s : Sale g c r h b p q) : 0 ≤ caps g c p q ∧ caps g c p q ≤ 10 ^ 12 := by
  have h1 := paid_in s.g0 s.c0
  have h2 := s.g1
  have h3 := caps_le (x := g - paid g c) (by omega) s.p0 s.pq s.q0
  unfold caps
  constructor
  · exact h3.1
  · exact Int.le_trans h3.2 (by omega)
theorem sale_pot {g c r h b p q : Int} (s : Sale g c r h b p q) : 0 ≤ pot g c h b p q ∧ pot g c h b p q ≤ 10 ^ 13 := by
  have h1 := sale_caps s
  have h2 : 0 ≤ h * b := Int.mul_nonneg s.h0 s.b0
  have h3 : h * b ≤ 1000 * 10 ^ 9 := Int.mul_le_mul s.h1 s.b1 s.b0 (by decide)
  unfold pot
  constructor <;> omega
def sharedOf (g c r h b p q : Int) : Int := pot g c h b p q - fee g c r h b p q
theorem Sale.sh {g c r h b p q : Int} (s : Sale g c r h b p q) : 0 ≤ sharedOf g c r h b p q ∧ sharedOf g c r h b p q ≤ 10 ^ 13 := by
  have h1 := sale_pot s
  have h2 := caps_le (x := pot g c h b p q) h1.1 s.r0 s.r1 (by decide : (0 : Int) < 10000)
  unfold sharedOf fee
  omega
theorem Sale.zero {g c r h b p q : Int} (s : Sale g c r h b p q) : Sale 0 c r h b p q := ⟨by omega, by omega, s.c0, s.c1, s.r0, s.r1, s.h0, s.h1, s.b0, s.b1, s.p0, s.pq, s.q0, s.q1, s.co⟩
theorem is_whole_q (a : PyData) (K : PyData → Prop) : q_is_whole a K = K (.bool (isW a)) := by
  cases a with
  | dict kv => rcases kv with _ | ⟨⟨kz, vz⟩, rz⟩ <;> (try cases kz) <;> rfl
  | _ => rfl
theorem is_within_q (a : PyData) (l m : Int) (K : PyData → Prop) : q_is_within a (.int l) (.int m) K = K (.bool (isIn a l m)) := by
  unfold q_is_within
  simp only [is_whole_q]
  cases a <;> simp only [isW, isIn] <;> walk_at "q"
def short (a : PyData) : Prop := match a with
  | .tuple ds => ds.length ≤ 100000
  | _ => True
theorem are_wholes_q (a : PyData) (n : Int) (hs : short a) (K : PyData → Prop) (h : K (.bool (areW a n))) : q_are_wholes a (.int n) K := by
  unfold q_are_wholes
  cases a with
  | tuple ds =>
    walk_at "q"
    by_cases hn : (ds.length : Int) = n
    · rw [decide_eq_true hn]
      walk_at "q"
      refine qLc_map (fun d => .bool (isW d)) hs (fun d hd sk yd hy => ?_) ?_
      · unfold qb_are_wholes_1
        rw [is_whole_q]
        exact hy
      · walk_at "q"
        have e : areW (.tuple ds) n = ds.all isW := by simp only [areW, hn, decide_true, Bool.true_and]
        rw [e] at h
        exact h
    · rw [decide_eq_false hn]
      walk_at "q"
      have e : areW (.tuple ds) n = false := by simp only [areW, hn, decide_false, Bool.false_and]
      rw [e] at h
      exact h
  | dict kv => rcases kv with _ | ⟨⟨kz, vz⟩, rz⟩ <;> (try cases kz) <;> (walk_at "q"; exact h)
  | _ => walk_at "q"; exact h
theorem divisor_of_q (i j : Int) (K : PyData → Prop) (h : K (.int (Int.gcd i j : Nat))) : q_divisor_of (.int i) (.int j) K := by
  unfold q_divisor_of
  walk_at "q"
  have ea : (if i < 0 then -i else i) = (i.natAbs : Int) := by split <;> omega
  have eb : (if j < 0 then -j else j) = (j.natAbs : Int) := by split <;> omega
  rw [ea, eb]
  refine qWhile_ind (m := j.natAbs) (fun m s => ∃ a b : Int, s = (.int a, .int b) ∧ 0 ≤ a ∧ 0 ≤ b ∧ b.toNat = m ∧ Int.gcd a b = Int.gcd i j) ⟨_, _, rfl, by omega, by omega, by omega, by simp [Int.gcd]⟩ ?_
  rintro m _ nx ⟨a, b, rfl, ha, hb, hm, hg⟩ hn
  unfold qb_divisor_of_1
  walk_at "q"
  refine bIf_d (fun h0 => ?_) fun h0 => ?_
  · walk_at "go"
    have hm1 := Int.emod_lt_of_pos a h0
    have hm0 := Int.emod_nonneg a (by omega : b ≠ 0)
    exact hn (a % b).toNat _ (by omega) ⟨b, a % b, rfl, by omega, hm0, rfl, by rw [gcd_step a b h0 ha]; exact hg⟩
  · have e : b = 0 := by omega
    subst e
    have : Int.gcd a 0 = a.natAbs := Int.gcd_zero_right a
    rw [← hg, this] at h
    have e2 : ((a.natAbs : Nat) : Int) = a := by omega
    rw [e2] at h
    exact h
theorem is_fraction_q (a : PyData) (hs : short a) (K : PyData → Prop) (h : K (.bool (isFr a))) : q_is_fraction a K := by
  unfold q_is_fraction
  refine are_wholes_q a 2 hs _ ?_
  walk_at "q"
  cases e : areW a 2 with
  | false =>
    have : isFr a = false := by
      unfold isFr
      split
      · exact absurd e (by simp [areW, isW])
      · rfl
    rw [this] at h
    exact h
  | true =>
    obtain ⟨p, q, rfl⟩ : ∃ p q, a = .tuple [.int p, .int q] := by
      unfold areW at e
      split at e
      · rename_i ds
        simp only [Bool.and_eq_true, decide_eq_true_eq] at e
        obtain ⟨h1, h2⟩ := e
        match ds, h1, h2 with
        | [x, y], _, h2 =>
          simp only [List.all_cons, List.all_nil, Bool.and_true, Bool.and_eq_true] at h2
          cases x <;> cases y <;> first | exact ⟨_, _, rfl⟩ | (exfalso; have := h2.1; have := h2.2; simp [isW] at *)
        | [], h1, _ => simp at h1
        | [_], h1, _ => simp at h1
        | _ :: _ :: _ :: _, h1, _ => simp at h1; omega
      · cases e
    walk_at "q"
    by_cases h1 : 0 < q
    · rw [decide_eq_true h1]
      walk_at "q"
      refine divisor_of_q p q _ ?_
      walk_at "q"
      have e2 : isFr (.tuple [.int p, .int q]) = decide ((Int.gcd p q : Int) = 1) := by
        simp only [isFr, h1, decide_true, Bool.true_and]
        exact decide_eq_decide.mpr ⟨fun h => by omega, fun h => by omega⟩
      rw [e2] at h
      exact h
    · rw [decide_eq_false h1]
      walk_at "q"
      have e2 : isFr (.tuple [.int p, .int q]) = false := by simp only [isFr, h1, decide_false, Bool.false_and]
      rw [e2] at h
      exact h
def alph : Str := "abcdefghijklmnopqrstuvwxyz"
theorem al_one (c : Nat) : inStr ⟨#[c]⟩ alph = decide (c ∈ alph.cps.toList) := by
  unfold inStr
  exact PySem.StrLaws.found_one alph c
def goodN (x : Str) : Bool := decide (1 ≤ x.length) && decide (x.length ≤ 8) && x.cps.toList.all fun c => decide (c ∈ alph.cps.toList)
def isNm : PyData → Bool
  | .str x => goodN x
  | _ => false
def isAl : PyData → Bool
  | .str x => inStr x alph
  | _ => false
theorem isNm_inv {d : PyData} (h : isNm d = true) : ∃ x, d = .str x ∧ goodN x = true := by
  cases d with
  | str x => exact ⟨x, rfl, h⟩
  | _ => cases h
theorem isi_s {d : PyData} (h : isiB d "str" = true) : ∃ x, d = .str x := by
  cases d with
  | str x => exact ⟨x, rfl⟩
  | dict kv => rcases kv with _ | ⟨⟨kz, vz⟩, rz⟩ <;> (try cases kz) <;> cases h
  | _ => cases h
theorem isNm_no {d : PyData} (h : isiB d "str" = false) : isNm d = false := by
  cases d with
  | str x => cases h
  | _ => rfl
theorem signs_len {x : Str} : (signsD x).length = x.length := by unfold signsD; simp [Str.length]
theorem signs_mem {x : Str} {d : PyData} (h : d ∈ signsD x) : ∃ c, d = .str ⟨#[c]⟩ ∧ c ∈ x.cps.toList := by
  unfold signsD at h
  obtain ⟨c, hc, rfl⟩ := List.mem_map.mp h
  exact ⟨c, rfl, hc⟩
theorem signs_all {x : Str} : (signsD x).all isAl = x.cps.toList.all fun c => decide (c ∈ alph.cps.toList) := by
  unfold signsD
  rw [List.all_map]
  congr 1
  funext c
  exact al_one c
theorem q_itemsS {x : Str} {K : List PyData → Prop} : itemsQ (.str x) K = K (signsD x) := At.eq
/-- texts short enough to be measured -/
def shS : PyData → Prop
  | .str x => x.length ≤ 100000
  | _ => True
theorem is_name_q (d : PyData) (hs : shS d) (K : PyData → Prop) (h : K (.bool (isNm d))) : q_is_name d K := by
  unfold q_is_name
  cases e : isiB d "str" with
  | false =>
    rw [isNm_no e] at h
    walk_at "q"
    exact h
  | true =>
    obtain ⟨x, rfl⟩ := isi_s e
    have hs : x.length ≤ 100000 := hs
    walk_at "q"
    have h : K (.bool (goodN x)) := h
    unfold goodN at h
    refine ⟨hs, bIf_of (fun hc => ?_) fun hc => ?_⟩
    · have e : (decide (1 ≤ x.length) && decide (x.length ≤ 8)) = false := by
        simp only [Bool.not_eq_true', Bool.and_eq_false_iff, decide_eq_false_iff_not] at hc ⊢
        omega
      rwa [e, Bool.false_and] at h
    · have e : (decide (1 ≤ x.length) && decide (x.length ≤ 8)) = true := by
        simp only [Bool.not_eq_false', Bool.and_eq_true, decide_eq_true_eq] at hc ⊢
        omega
      rw [e, Bool.true_and] at h
      rw [q_itemsS]
      refine qLc_map (fun d => .bool (isAl d)) (by rw [signs_len]; exact hs) (fun d hd sk yd hy => ?_) ?_
      · obtain ⟨c, rfl, _⟩ := signs_mem hd
        unfold qb_is_name_1
        rw [q_inS, Bool.bne_false]
        exact hy
      · walk_at "q"
        rw [signs_all]
        exact h
def rise : List Str → Bool
  | [] => true
  | [_] => true
  | x :: y :: r => strLt x y && rise (y :: r)
theorem pw_rise : ∀ {l : List Str}, (l.Pairwise fun a b => strLt a b = true) → rise l = true
  | [], _ => rfl
  | [x], _ => rfl
  | x :: y :: r, h => by
    obtain ⟨h1, h2⟩ := List.pairwise_cons.mp h
    rw [rise, h1 y List.mem_cons_self, pw_rise h2]
    rfl
theorem canLay_strs : ∀ {l : List Str}, (∀ x ∈ l, goodN x = true) → PyData.canLayAll0 (l.map .str) = true
  | [], _ => rfl
  | x :: r, h => by
    rw [List.map_cons, PyData.canLayAll0, PyData.canLay0, canLay_strs fun y hy => h y (List.mem_cons_of_mem _ hy), Bool.and_true]
    have g := h x List.mem_cons_self
    unfold goodN at g
    simp only [Bool.and_eq_true, decide_eq_true_eq, List.all_eq_true] at g
    unfold PyData.strOk
    rw [← Array.all_toList, List.all_eq_true]
    intro c hc
    have a : ∀ c ∈ alph.cps.toList, c < 0x110000 := by decide +kernel
    exact decide_eq_true (a c (g.2 c hc))
def isNt : PyData → Bool
  | .int i => decide (0 ≤ i)
  | _ => false
def toI : PyData → Int
  | .int i => i
  | _ => 0
def ltN (d : PyData) (n : Nat) : Bool := match d with
  | .int i => decide (i < (n : Int))
  | _ => false
def isPr (n : Nat) : PyData → Bool
  | .tuple [a, b] => isNm a && (isNt b && ltN b n)
  | _ => false
def nmD : PyData → Str
  | .tuple (.str x :: _) => x
  | _ => ""
def isEi : PyData → Bool
  | .tuple es => decide (1 ≤ es.length) && decide (es.length ≤ 6) && (es.all isNt && decide ((es.map toI).sum = 8))
  | _ => false
def isRk (n : Nat) : PyData → Bool
  | .tuple rs => decide (rs.length ≤ 20) && (rs.all (isPr n) && rise (rs.map nmD))
  | _ => false
def tln : PyData → Nat
  | .tuple es => es.length
  | _ => 0
def isSc : PyData → Bool
  | .tuple [a, b] => isEi a && isRk (tln a) b
  | _ => false
theorem isi_tp {d : PyData} (h : isiB d "tuple" = true) : ∃ xs, d = .tuple xs := by
  cases d with
  | tuple xs => exact ⟨xs, rfl⟩
  | dict kv => rcases kv with _ | ⟨⟨kz, vz⟩, rz⟩ <;> (try cases kz) <;> cases h
  | _ => cases h
theorem isSc_no {d : PyData} (h : isiB d "tuple" = false) : isSc d = false := by
  cases d with
  | tuple xs => cases h
  | _ => rfl
theorem isEi_no {d : PyData} (h : isiB d "tuple" = false) : isEi d = false := by
  cases d with
  | tuple xs => cases h
  | _ => rfl
theorem isRk_no {n : Nat} {d : PyData} (h : isiB d "tuple" = false) : isRk n d = false := by
  cases d with
  | tuple xs => cases h
  | _ => rfl
theorem isPr_no {n : Nat} {d : PyData} (h : isiB d "tuple" = false) : isPr n d = false := by
  cases d with
  | tuple xs => cases h
  | _ => rfl
theorem isSc_len {xs : List PyData} (h : xs.length ≠ 2) : isSc (.tuple xs) = false := by
  unfold isSc
  split
  · rename_i e; cases e; simp at h
  · rfl
theorem isPr_len {n : Nat} {xs : List PyData} (h : xs.length ≠ 2) : isPr n (.tuple xs) = false := by
  unfold isPr
  split
  · rename_i e; cases e; simp at h
  · rfl
theorem len2 {xs : List PyData} (h : xs.length = 2) : ∃ a b, xs = [a, b] := by
  match xs, h with
  | [a, b], _ => exact ⟨a, b, rfl⟩
theorem nt_ints : ∀ {es : List PyData}, es.all isNt = true → es = (es.map toI).map .int
  | [], _ => rfl
  | d :: r, h => by
    rw [List.all_cons, Bool.and_eq_true] at h
    rw [List.map_cons, List.map_cons, ← nt_ints h.2]
    cases d with
    | int i => rfl
    | _ => cases h.1
theorem isNt_W {d : PyData} : isNt d = (isW d && isNt d) := by
  cases d with
  | int i => simp [isW]
  | _ => rfl
theorem isNt_inv {d : PyData} (h : isNt d = true) : ∃ i : Int, d = .int i ∧ 0 ≤ i := by
  cases d with
  | int i => exact ⟨i, rfl, of_decide_eq_true h⟩
  | _ => cases h
theorem isW_inv {d : PyData} (h : isW d = true) : ∃ i : Int, d = .int i := by
  cases d with
  | int i => exact ⟨i, rfl⟩
  | _ => cases h
theorem sum_nt {es : List PyData} (h : es.all isNt = true) {P : PyData → Prop} : nSum [.tuple es] P = P (.int (es.map toI).sum) := by
  have e := nt_ints h
  generalize es.map toI = ns at e ⊢
  rw [e, q_sumTI]
theorem shS_of {b k : Nat} {d : PyData} (h : Sm b k d) (hb : b ≤ 100000 := by omega) : shS d := by
  cases d with
  | str x => have := h.bulk; rw [PyData.bulk] at this; exact Nat.le_trans this hb
  | _ => trivial
theorem are_heads_q (es : List PyData) (m : Nat) (hm : m ≤ 1000) (K : PyData → Prop) (h : K (.bool (decide (es.length = m) && es.all isNt))) : q_are_heads (.tuple es) (.int m) K := by
  unfold q_are_heads
  walk_at "q"
  by_cases e : es.length = m
  · rw [decide_eq_true (show ((es.length : Int) = (m : Int)) by omega)]
    walk_at "q"
    rw [decide_eq_true e, Bool.true_and] at h
    refine qLc_map (fun d => .bool (isNt d)) (by omega) (fun d hd sk yd hy => ?_) ?_
    · unfold qb_are_heads_1
      rw [is_whole_q]
      cases w : isW d with
      | false =>
        rw [isNt_W, w] at hy
        walk_at "q"
        exact hy
      | true =>
        obtain ⟨i, rfl⟩ := isW_inv w
        walk_at "q"
        exact hy
    · walk_at "q"
      exact h
  · rw [decide_eq_false (show ¬ ((es.length : Int) = (m : Int)) by omega)]
    walk_at "q"
    rw [decide_eq_false e, Bool.false_and] at h
    exact h
theorem are_eighths_q (d : PyData) (K : PyData → Prop) (h : K (.bool (isEi d))) : q_are_eighths d K := by
  unfold q_are_eighths
  cases e : isiB d "tuple" with
  | false =>
    rw [isEi_no e] at h
    walk_at "q"
    exact h
  | true =>
    obtain ⟨es, rfl⟩ := isi_tp e
    walk_at "q"
    unfold isEi at h
    dsimp only at h
    refine bIf_of (fun hc => ?_) fun hc => ?_
    · have e : (decide (1 ≤ es.length) && decide (es.length ≤ 6)) = false := by
        simp only [Bool.not_eq_true', Bool.and_eq_false_iff, decide_eq_false_iff_not] at hc ⊢
        omega
      rwa [e, Bool.false_and] at h
    · have e : (decide (1 ≤ es.length) && decide (es.length ≤ 6)) = true := by
        simp only [Bool.not_eq_false', Bool.and_eq_true, decide_eq_true_eq] at hc ⊢
        omega
      rw [e, Bool.true_and] at h
      simp only [Bool.and_eq_true, decide_eq_true_eq] at e
      refine are_heads_q es es.length (by omega) _ ?_
      rw [decide_eq_true rfl, Bool.true_and]
      walk_at "q"
      cases a : es.all isNt with
      | false => rw [a] at h; exact h
      | true =>
        rw [a] at h
        walk_at "q"
        rw [sum_nt a]
        walk_at "q"
        exact h
theorem is_pair_q {b k : Nat} (d : PyData) (n : Nat) (hs : Sm b k d) (hb : b ≤ 100000) (K : PyData → Prop) (h : K (.bool (isPr n d))) : q_is_pair d (.int n) K := by
  unfold q_is_pair
  cases e : isiB d "tuple" with
  | false =>
    rw [isPr_no e] at h
    walk_at "q"
    exact h
  | true =>
    obtain ⟨xs, rfl⟩ := isi_tp e
    walk_at "q"
    by_cases hl : xs.length = 2
    · obtain ⟨u, v, rfl⟩ := len2 hl
      have hu : shS u := shS_of (hs.inT u (by simp))
      walk_at "q"
      rw [decide_eq_true (show (((0 + 1 + 1 : Nat) : Int) = 2) from rfl)]
      walk_at "q"
      unfold isPr at h
      dsimp only at h
      refine is_name_q u hu _ ?_
      cases eu : isNm u with
      | false =>
        rw [eu] at h
        walk_at "q"
        exact h
      | true =>
        rw [eu, Bool.true_and] at h
        walk_at "q"
        rw [is_whole_q]
        cases w : isW v with
        | false =>
          rw [isNt_W, w] at h
          walk_at "q"
          exact h
        | true =>
          obtain ⟨i, rfl⟩ := isW_inv w
          walk_at "q"
          exact h
    · rw [decide_eq_false (show ¬ ((xs.length : Int) = 2) by omega)]
      rw [isPr_len hl] at h
      walk_at "q"
      exact h
theorem isPr_inv {n : Nat} {d : PyData} (h : isPr n d = true) : ∃ (x : Str) (i : Int), d = .tuple [.str x, .int i] ∧ goodN x = true ∧ 0 ≤ i ∧ i < n := by
  unfold isPr at h
  split at h
  · rename_i a b
    simp only [Bool.and_eq_true] at h
    obtain ⟨h1, h2, h3⟩ := h
    obtain ⟨x, rfl, hx⟩ := isNm_inv h1
    obtain ⟨i, rfl, hi⟩ := isNt_inv h2
    exact ⟨x, i, rfl, hx, hi, of_decide_eq_true h3⟩
  · cases h
/-- the names of two rows, told apart -/
def ltP : PyData → Bool
  | .tuple [.tuple (.str x :: _), .tuple (.str y :: _)] => strLt x y
  | _ => false
theorem rise_zip {n : Nat} : ∀ {rs : List PyData}, rs.all (isPr n) = true → (zipD rs (DL.cutD rs (some 1) none)).all ltP = rise (rs.map nmD)
  | [], _ => by
    have : DL.cutD [] (some 1) none = ([] : List PyData) := by unfold DL.cutD; simp
    rw [this]; rfl
  | [a], _ => by rw [cut1]; rfl
  | a :: b :: r, h => by
    rw [cut1]
    rw [List.all_cons, Bool.and_eq_true] at h
    have ih := rise_zip h.2
    rw [cut1] at ih
    rw [zipD, List.all_cons, ih]
    have hb := h.2
    rw [List.all_cons, Bool.and_eq_true] at hb
    obtain ⟨x, i, rfl, _⟩ := isPr_inv h.1
    obtain ⟨y, j, rfl, _⟩ := isPr_inv hb.1
    rfl
theorem zip_prs {n : Nat} : ∀ {rs ss : List PyData}, rs.all (isPr n) = true → ss.all (isPr n) = true → ∀ d ∈ zipD rs ss, ∃ (x y : Str) (i j : Int), d = .tuple [.tuple [.str x, .int i], .tuple [.str y, .int j]]
  | [], _, _, _, d, hd => by simp [zipD] at hd
  | _ :: _, [], _, _, d, hd => by simp [zipD] at hd
  | a :: r, b :: s, h, h', d, hd => by
    rw [List.all_cons, Bool.and_eq_true] at h h'
    rw [zipD] at hd
    rcases List.mem_cons.mp hd with rfl | hd
    · obtain ⟨x, i, rfl, _⟩ := isPr_inv h.1
      obtain ⟨y, j, rfl, _⟩ := isPr_inv h'.1
      exact ⟨x, y, i, j, rfl⟩
    · exact zip_prs h.2 h'.2 d hd
theorem is_scheme_q {b k : Nat} (d : PyData) (hs : Sm b k d) (hb : b ≤ 100000) (K : PyData → Prop) (h : K (.bool (isSc d))) : q_is_scheme d K := by
  unfold q_is_scheme
  cases e : isiB d "tuple" with
  | false =>
    rw [isSc_no e] at h
    walk_at "q"
    exact h
  | true =>
    obtain ⟨xs, rfl⟩ := isi_tp e
    walk_at "q"
    by_cases hl : xs.length = 2
    · obtain ⟨u, v, rfl⟩ := len2 hl
      have hv := hs.inT v (by simp)
      walk_at "q"
      rw [decide_eq_true (show (((0 + 1 + 1 : Nat) : Int) = 2) from rfl)]
      walk_at "q"
      unfold isSc at h
      dsimp only at h
      refine are_eighths_q u _ ?_
      cases eu : isEi u with
      | false =>
        rw [eu] at h
        walk_at "q"
        exact h
      | true =>
        rw [eu, Bool.true_and] at h
        obtain ⟨es, rfl⟩ : ∃ es, u = .tuple es := by
          cases u with
          | tuple es => exact ⟨es, rfl⟩
          | _ => cases eu
        walk_at "q"
        have h : K (.bool (isRk es.length v)) := h
        cases ev : isiB v "tuple" with
        | false =>
          rw [isRk_no ev] at h
          walk_at "q"
          exact h
        | true =>
          obtain ⟨rs, rfl⟩ := isi_tp ev
          walk_at "q"
          unfold isRk at h
          dsimp only at h
          refine bIf_d (fun h0 => ?_) fun h0 => ?_
          · rw [decide_eq_false (show ¬ rs.length ≤ 20 by omega)] at h
            exact h
          · rw [decide_eq_true (show rs.length ≤ 20 by omega), Bool.true_and] at h
            refine qLc_map (fun d => .bool (isPr es.length d)) (by omega) (fun d hd sk yd hy => ?_) ?_
            · unfold qb_is_scheme_1
              walk_at "q"
              exact is_pair_q d _ (hv.inT d hd) hb _ hy
            · walk_at "q"
              cases a : rs.all (isPr es.length) with
              | false => rw [a] at h; exact h
              | true =>
                rw [a, Bool.true_and] at h
                walk_at "q"
                have hc : (DL.cutD rs (some 1) none).all (isPr es.length) = true := List.all_eq_true.mpr fun x hx => List.all_eq_true.mp a x (cut_mem hx)
                refine qLc_map (fun d => .bool (ltP d)) (by rw [zipD_length]; omega) (fun d hd sk yd hy => ?_) ?_
                · obtain ⟨x, y, i, j, rfl⟩ := zip_prs a hc d hd
                  unfold qb_is_scheme_2
                  walk_at "q"
                  exact hy
                · walk_at "q"
                  rw [rise_zip a]
                  exact h
    · rw [decide_eq_false (show ¬ ((xs.length : Int) = 2) by omega)]
      rw [isSc_len hl] at h
      walk_at "q"
      exact h
theorem jn_by {α : Type} {f : (α → Prop) → Prop} {K : α → Prop} (P : α → Prop) (h : ∀ J : α → Prop, (∀ x, P x → J x) → f J) (k : ∀ x, P x → K x) : jn f K := h K k
def MPot (xs : List PyData) : Prop := ∃ g s : Int, xs = [.int g, .int s] ∧ 0 ≤ s ∧ s < 2147483647
theorem pickS_of {z : Str} {k : Int} {P : PyData → Prop} (h0 : 0 ≤ k) (h1 : k < z.cps.toList.length) (hz : z.length ≤ 100000) (h : ∀ c ∈ z.cps.toList, P (.str ⟨#[c]⟩)) : pickS z k P := by
  have hl : k.toNat < z.cps.toList.length := by omega
  have e : atI z.cps.toList k = some z.cps.toList[k.toNat] := by
    unfold atI
    rw [ixN_in h0 h1]
    exact List.getElem?_eq_getElem hl
  unfold pickS
  rw [e]
  exact ⟨hz, h _ (List.getElem_mem hl)⟩
theorem q_ixS {z : Str} {k : Int} {P : PyData → Prop} : oIx (.str z) (.int k) P = pickS z k P := rfl
theorem al_len : alph.cps.toList.length = 26 := by decide +kernel
theorem join_signs : ∀ cs : List Nat, (Str.join "" (cs.map fun c => (⟨#[c]⟩ : Str))).cps.toList = cs
  | [] => rfl
  | [c] => rfl
  | c :: d :: r => by
    have ih := join_signs (d :: r)
    rw [List.map_cons] at ih
    rw [List.map_cons, List.map_cons]
    show (((⟨#[c]⟩ : Str) ++ "" ++ Str.join "" (_ :: _)).cps.toList) = _
    show (#[c] ++ ("" : Str).cps ++ (Str.join "" ((⟨#[d]⟩ : Str) :: r.map fun c => (⟨#[c]⟩ : Str))).cps).toList = _
    rw [Array.toList_append, Array.toList_append, ih]
    rfl
theorem sgl_map : ∀ {ds : List PyData}, (∀ d ∈ ds, ∃ c ∈ alph.cps.toList, d = .str ⟨#[c]⟩) → ∃ cs : List Nat, (∀ c ∈ cs, c ∈ alph.cps.toList) ∧ ds = (cs.map fun c => (⟨#[c]⟩ : Str)).map .str
  | [], _ => ⟨[], by simp, rfl⟩
  | d :: r, h => by
    obtain ⟨cs, h1, h2⟩ := sgl_map (ds := r) fun x hx => h x (List.mem_cons_of_mem _ hx)
    obtain ⟨c, hc, rfl⟩ := h d List.mem_cons_self
    refine ⟨c :: cs, fun x hx => ?_, by rw [h2]; rfl⟩
    rcases List.mem_cons.mp hx with rfl | hx
    · exact hc
    · exact h1 x hx
theorem ssum_set : ∀ {l : List Int} {i : Nat} {a b : Int}, l[i]? = some a → (l.set i b).sum = l.sum - a + b
  | [], i, a, b, h => by simp at h
  | x :: r, 0, a, b, h => by
    simp at h
    subst h
    rw [List.set_cons_zero, List.sum_cons, List.sum_cons]
    omega
  | x :: r, i + 1, a, b, h => by
    have := ssum_set (l := r) (i := i) (b := b) (by simpa using h)
    rw [List.set_cons_succ, List.sum_cons, List.sum_cons, this]
    omega
theorem le_ssum : ∀ {l : List Int}, (∀ x ∈ l, 0 ≤ x) → 0 ≤ l.sum ∧ ∀ x ∈ l, x ≤ l.sum
  | [], _ => by simp
  | a :: r, h => by
    obtain ⟨h1, h2⟩ := le_ssum (l := r) fun x hx => h x (List.mem_cons_of_mem _ hx)
    have ha := h a List.mem_cons_self
    rw [List.sum_cons]
    refine ⟨by omega, fun x hx => ?_⟩
    rcases List.mem_cons.mp hx with rfl | hx
    · omega
    · have := h2 x hx; omega
theorem ints_sum (ns : List Int) : (ns.map PyData.int).map toI = ns := by
  induction ns with
  | nil => rfl
  | cons a b ih => rw [List.map_cons, List.map_cons, ih]; rfl
theorem ints_nt {ns : List Int} (h : ∀ x ∈ ns, 0 ≤ x) : (ns.map PyData.int).all isNt = true := by
  rw [List.all_map, List.all_eq_true]
  exact fun x hx => decide_eq_true (h x hx)
structure Sch (es rs : List PyData) : Prop where
  ok : isSc (.tuple [.tuple es, .tuple rs]) = true
  l1 : 1 ≤ es.length
  l6 : es.length ≤ 6
  l20 : rs.length ≤ 20
  pr : rs.all (isPr es.length) = true
  smE : Sm 6 1 (.tuple es)
  smR : Sm 400 3 (.tuple rs)
  few : ∀ x ∈ es, ∃ i : Int, x = .int i ∧ 0 ≤ i ∧ i ≤ 8
  smP : ∀ x ∈ rs, Sm 18 2 x
theorem good_rp {x : Str} (h : goodN x = true) (k : Nat) : Sm 8 k (.str x) := by
  unfold goodN at h
  simp only [Bool.and_eq_true, decide_eq_true_eq, List.all_eq_true] at h
  refine ⟨?_, by rw [PyData.bulk]; exact h.1.2, by rw [PyData.depth]; omega⟩
  rw [DL.rp]
  have a : ∀ c ∈ alph.cps.toList, c < 16 ^ 8 := by decide +kernel
  exact List.all_eq_true.mpr fun c hc => decide_eq_true (a c (h.2 c hc))
theorem pr_sm {n : Nat} (hn : n ≤ 6) {x : PyData} (h : isPr n x = true) : Sm 18 2 x := by
  obtain ⟨y, i, rfl, hy, i0, i1⟩ := isPr_inv h
  exact (Sm.tup (n := 2) (b := 8) (k := 1) (by simp) fun z hz => by
    simp only [List.mem_cons, List.not_mem_nil, or_false] at hz
    rcases hz with rfl | rfl
    · exact good_rp hy 1
    · exact Sm.int' (by omega) (by omega)).mono
theorem sch_of {ns : List Int} {rs : List PyData} (n1 : 1 ≤ ns.length) (n6 : ns.length ≤ 6) (h0 : ∀ x ∈ ns, 0 ≤ x) (h8 : ns.sum = 8) (r20 : rs.length ≤ 20) (hr : rs.all (isPr ns.length) = true) (hs : rise (rs.map nmD) = true) :
    Sch (ns.map .int) rs where
  ok := by
    unfold isSc isEi isRk tln
    dsimp only
    rw [ints_nt h0, ints_sum, h8, List.length_map, hr, hs]
    simp [n1, n6, r20]
  l1 := by simpa using n1
  l6 := by simpa using n6
  l20 := r20
  pr := by rw [List.length_map]; exact hr
  smE := (Sm.tup (n := 6) (b := 0) (k := 0) (by simpa using n6) fun x hx => by
    obtain ⟨i, hi, rfl⟩ := List.mem_map.mp hx
    have := (le_ssum h0).2 i hi
    have := h0 i hi
    exact Sm.int' (by omega) (by omega)).mono
  smR := (Sm.tup (n := 20) (b := 18) (k := 2) r20 fun x hx => pr_sm n6 (List.all_eq_true.mp hr x hx)).mono
  few := fun x hx => by
    obtain ⟨i, hi, rfl⟩ := List.mem_map.mp hx
    have := (le_ssum h0).2 i hi
    have := h0 i hi
    exact ⟨i, rfl, by omega, by omega⟩
  smP := fun x hx => pr_sm n6 (List.all_eq_true.mp hr x hx)
theorem Sch.sm {es rs : List PyData} (h : Sch es rs) : Sm 900 4 (.tuple [.tuple es, .tuple rs]) := (Sm.tup (n := 2) (b := 400) (k := 3) (by simp) fun z hz => by
  simp only [List.mem_cons, List.not_mem_nil, or_false] at hz
  rcases hz with rfl | rfl
  · exact h.smE.mono
  · exact h.smR).mono
theorem is_part_q {p q : Int} (h0 : 0 ≤ p) (h1 : p ≤ q) (h2 : 0 < q) (h3 : Int.gcd p q = 1) (K : PyData → Prop) (h : K (.bool true)) : q_is_part (.tuple [.int p, .int q]) K := by
  unfold q_is_part
  refine is_fraction_q _ (show short (.tuple [.int p, .int q]) from (by decide : 2 ≤ 100000)) _ ?_
  have : isFr (.tuple [.int p, .int q]) = true := by simp only [isFr, decide_eq_true h2, decide_eq_true h3]; rfl
  rw [this]
  walk_at "q"
  rw [decide_eq_true h0, decide_eq_true h1]
  exact h
theorem within_t {x m : Int} (h0 : 0 ≤ x) (h1 : x ≤ m) : isIn (.int x) 0 m = true := by simp only [isIn, decide_eq_true h0, decide_eq_true h1]; rfl
theorem is_sale_q {g c r h b p q : Int} (s : Sale g c r h b p q) (K : PyData → Prop) (hK : K (.bool true)) : q_is_sale (saleD g c r h b p q) K := by
  unfold q_is_sale saleD
  walk_at "q"
  rw [decide_eq_true (show (((0 + 1 + 1 + 1 + 1 + 1 + 1 : Nat) : Int) = 6) by rfl)]
  walk_at "q"
  refine is_part_q s.p0 s.pq s.q0 s.co _ ?_
  walk_at "q"
  refine qLc_map (fun _ => .bool true) (by simp [zipD]) (fun d hd sk yd hy => ?_) ?_
  · have in_ : ∀ x m : Int, 0 ≤ x → x ≤ m → qb_is_sale_1 (.tuple [.int x, .int m]) (saleD g c r h b p q, .tuple [.int 1000000000000, .int 1000000000000, .int 10000, .int 1000, .int 1000000000]) () sk yd := fun x m h0 h1 => by
      unfold qb_is_sale_1
      walk_at "q"
      rw [is_within_q, within_t h0 h1]
      exact hy
    simp only [zipD, List.mem_cons, List.not_mem_nil, or_false] at hd
    rcases hd with rfl | rfl | rfl | rfl | rfl
    · exact in_ _ _ s.g0 s.g1
    · exact in_ _ _ s.c0 s.c1
    · exact in_ _ _ s.r0 s.r1
    · exact in_ _ _ s.h0 s.h1
    · exact in_ _ _ s.b0 s.b1
  · exact hK
def hourOf : PyData → Int
  | .tuple (.int h :: _) => h
  | _ => 0
def isFar : PyData → Bool
  | .int i => decide ((if i < 0 then -i else i) ≤ 10000)
  | _ => false
def isRow : PyData → Bool
  | .tuple [h, x, y] => isIn h 0 100000 && (isFar x && isFar y)
  | _ => false
/-- rows, each behind the one ahead -/
def rowsFrom : Int → List PyData → Bool
  | _, [] => true
  | l, r :: rs => isRow r && (decide (l < hourOf r) && rowsFrom (hourOf r) rs)
def isLog : PyData → Bool
  | .tuple xs => decide (1 ≤ xs.length) && decide (xs.length ≤ 20) && rowsFrom (-1) xs
  | _ => false
theorem isRow_inv {d : PyData} (h : isRow d = true) : ∃ h x y : Int, d = .tuple [.int h, .int x, .int y] ∧ 0 ≤ h ∧ h ≤ 100000 := by
  unfold isRow at h
  split at h
  · rename_i a b c
    simp only [Bool.and_eq_true] at h
    obtain ⟨h1, h2, h3⟩ := h
    cases a <;> simp only [isIn, Bool.and_eq_true, decide_eq_true_eq, Bool.false_eq_true] at h1
    cases b <;> simp only [isFar, Bool.false_eq_true] at h2
    cases c <;> simp only [isFar, Bool.false_eq_true] at h3
    exact ⟨_, _, _, rfl, h1.1, h1.2⟩
  · cases h
theorem rows_split : ∀ (l : Int) (xs : List PyData), l < 0 ∨ xs = [] ∨ True → rowsFrom l xs = (xs.all isRow && ((xs.head?.all fun r => decide (l < hourOf r)) && (zipD xs (xs.drop 1)).all fun d => match d with | .tuple [a, b] => decide (hourOf a < hourOf b) | _ => false))
  | _, [], _ => rfl
  | l, [r], _ => by simp [rowsFrom, zipD]
  | l, r :: r2 :: rs, _ => by
    have := rows_split (hourOf r) (r2 :: rs) (.inr (.inr trivial))
    rw [rowsFrom, this]
    simp only [List.all_cons, List.drop_succ_cons, List.drop_zero, List.head?_cons, Option.all_some, zipD]
    cases isRow r <;> cases isRow r2 <;> cases rs.all isRow <;> cases decide (l < hourOf r) <;> cases decide (hourOf r < hourOf r2) <;> rfl
theorem is_hour_t (a : PyData) (K : PyData → Prop) : q_is_hour_tracks a K = K (.bool (isIn a 0 100000)) := by
  unfold q_is_hour_tracks
  simp only [is_whole_q]
  cases a <;> simp only [isW, isIn] <;> walk_at "q"
theorem is_log_row_q (a : PyData) (K : PyData → Prop) (h : K (.bool (isRow a))) : q_is_log_row a K := by
  unfold q_is_log_row
  cases a with
  | tuple xs =>
    walk_at "q"
    by_cases hn : (xs.length : Int) = 3
    · rw [decide_eq_true hn]
      walk_at "q"
      match xs, hn, h with
      | [a, b, c], _, h =>
        walk_at "q"
        rw [is_hour_t]
        walk_at "q"
        cases e : isIn a 0 100000 with
        | false =>
          walk_at "q"
          simpa only [isRow, e, Bool.false_and] using h
        | true =>
          walk_at "q"
          simp only [cut1]
          refine qLc_map (fun d => .bool (isFar d)) (by simp) (fun d hd sk yd hy => ?_) ?_
          · unfold qb_is_log_row_1
            rw [is_whole_q]
            cases d <;> simp only [isW] <;> walk_at "q" <;> exact hy
          · walk_at "q"
            simpa only [isRow, e, Bool.true_and, List.all_cons, List.all_nil, Bool.and_true] using h
    · rw [decide_eq_false hn]
      walk_at "q"
      have e : isRow (.tuple xs) = false := by
        unfold isRow
        split
        · rename_i e
          cases e
          exact absurd rfl hn
        · rfl
      rwa [e] at h
  | dict kv => rcases kv with _ | ⟨⟨kz, vz⟩, rz⟩ <;> (try cases kz) <;> exact h
  | _ => walk_at "q"; exact h
theorem is_log_q (a : PyData) (K : PyData → Prop) (h : K (.bool (isLog a))) : q_is_log a K := by
  unfold q_is_log
  cases a with
  | tuple xs =>
    walk_at "q"
    by_cases hn : decide (1 ≤ (xs.length : Int)) && decide ((xs.length : Int) ≤ 20)
    · rw [hn]
      simp only [Bool.and_eq_true, decide_eq_true_eq] at hn
      walk_at "q"
      refine qLc_map (fun d => .bool (isRow d)) (by omega) (fun d hd sk yd hy => by unfold qb_is_log_1; exact is_log_row_q d _ hy) ?_
      walk_at "q"
      have e0 : isLog (.tuple xs) = rowsFrom (-1) xs := by
        simp only [isLog, decide_eq_true (show 1 ≤ xs.length by omega), decide_eq_true (show xs.length ≤ 20 by omega), Bool.true_and]
      rw [e0, rows_split _ _ (.inl (by decide))] at h
      cases ea : xs.all isRow with
      | false =>
        walk_at "q"
        simpa only [ea, Bool.false_and] using h
      | true =>
        walk_at "q"
        have ec : DL.cutD xs (some 1) none = xs.drop 1 := by
          match xs, hn with
          | a :: l, _ => rw [cut1]; rfl
        rw [ec]
        walk_at "q"
        have hr : ∀ d ∈ xs, isRow d = true := List.all_eq_true.mp ea
        refine qLc_map (fun d => .bool (match d with | .tuple [a, b] => decide (hourOf a < hourOf b) | _ => false)) (by rw [zipD_length]; omega) (fun d hd sk yd hy => ?_) ?_
        · obtain ⟨i, hi⟩ := List.mem_iff_getElem?.mp hd
          obtain ⟨x, y, e1, e2, rfl⟩ := zipD_get hi
          obtain ⟨h1, _, _, rfl, _⟩ := isRow_inv (hr x (List.mem_of_getElem? e1))
          obtain ⟨h2, _, _, rfl, _⟩ := isRow_inv (hr y (List.mem_of_mem_drop (List.mem_of_getElem? e2)))
          unfold qb_is_log_2
          walk_at "q"
          exact hy
        · rw [q_allB]
          have eh : (xs.head?.all fun r => decide (-1 < hourOf r)) = true := by
            match xs, hr with
            | [], _ => rfl
            | a :: l, hr =>
              obtain ⟨h1, _, _, rfl, h0, _⟩ := isRow_inv (hr a List.mem_cons_self)
              simp only [List.head?_cons, Option.all_some, hourOf]
              exact decide_eq_true (by omega)
          rw [eh] at h
          simpa only [ea, Bool.true_and] using h
    · rw [Bool.not_eq_true] at hn
      rw [hn]
      walk_at "q"
      have e0 : isLog (.tuple xs) = false := by
        have : (decide (1 ≤ xs.length) && decide (xs.length ≤ 20)) = false := by
          rw [← hn]
          congr 1 <;> exact decide_eq_decide.mpr (by omega)
        simp only [isLog, this, Bool.false_and]
      rwa [e0] at h
  | dict kv => rcases kv with _ | ⟨⟨kz, vz⟩, rz⟩ <;> (try cases kz) <;> exact h
  | _ => walk_at "q"; exact h
structure Rw where
  h : Int
  x : Int
  y : Int
def rowD (r : Rw) : PyData := .tuple [.int r.h, .int r.x, .int r.y]
structure RowOk (r : Rw) : Prop where
  h0 : 0 ≤ r.h
  h1 : r.h ≤ 100000
  x0 : -10000 ≤ r.x
  x1 : r.x ≤ 10000
  y0 : -10000 ≤ r.y
  y1 : r.y ≤ 10000
theorem rowOk {h x y : Int} (h0 : 0 ≤ h) (h1 : h ≤ 100000) (x0 : -10000 ≤ x) (x1 : x ≤ 10000) (y0 : -10000 ≤ y) (y1 : y ≤ 10000) : RowOk ⟨h, x, y⟩ := ⟨h0, h1, x0, x1, y0, y1⟩
def Rises (rs : List Rw) : Prop := rs.Pairwise fun a b => a.h < b.h
structure LogOk (rs : List Rw) : Prop where
  n0 : 1 ≤ rs.length
  n1 : rs.length ≤ 20
  ok : ∀ r ∈ rs, RowOk r
  up : Rises rs
abbrev logD (rs : List Rw) : PyData := .tuple (rs.map rowD)
theorem isFar_iff {i : Int} : isFar (.int i) = true ↔ -10000 ≤ i ∧ i ≤ 10000 := by
  unfold isFar
  rw [decide_eq_true_eq]
  split <;> omega
theorem isRow_iff {r : Rw} : isRow (rowD r) = true ↔ RowOk r := by
  unfold isRow rowD
  simp only [Bool.and_eq_true, isFar_iff, isIn, decide_eq_true_eq]
  exact ⟨fun ⟨⟨h1, h2⟩, ⟨h3, h4⟩, h5, h6⟩ => ⟨h1, h2, h3, h4, h5, h6⟩, fun h => ⟨⟨h.h0, h.h1⟩, ⟨h.x0, h.x1⟩, h.y0, h.y1⟩⟩
theorem rows_of : ∀ (rs : List Rw) (l : Int), (∀ r ∈ rs, RowOk r ∧ l < r.h) → Rises rs → rowsFrom l (rs.map rowD) = true
  | [], _, _, _ => rfl
  | r :: rs, l, h, u => by
    obtain ⟨u1, u2⟩ := List.pairwise_cons.mp u
    rw [List.map_cons, rowsFrom, isRow_iff.mpr (h r (by simp)).1]
    have e : hourOf (rowD r) = r.h := rfl
    rw [e, decide_eq_true (h r (by simp)).2, rows_of rs r.h (fun q hq => ⟨(h q (by simp [hq])).1, u1 q hq⟩) u2]
    rfl
theorem LogOk.is {rs : List Rw} (h : LogOk rs) : isLog (logD rs) = true := by
  have e : isLog (logD rs) = (decide (1 ≤ (rs.map rowD).length) && decide ((rs.map rowD).length ≤ 20) && rowsFrom (-1) (rs.map rowD)) := rfl
  rw [e, List.length_map, decide_eq_true h.n0, decide_eq_true h.n1, rows_of rs (-1) (fun r hr => ⟨h.ok r hr, by have := (h.ok r hr).h0; omega⟩) h.up]
  rfl
theorem Rises.lt {rs : List Rw} (u : Rises rs) {i j : Nat} {a b : Rw} (ha : rs[i]? = some a) (hb : rs[j]? = some b) (h : i < j) : a.h < b.h := by
  obtain ⟨h1, rfl⟩ := List.getElem?_eq_some_iff.mp ha
  obtain ⟨h2, rfl⟩ := List.getElem?_eq_some_iff.mp hb
  exact List.pairwise_iff_getElem.mp u i j h1 h2 h
theorem Rises.push {rs : List Rw} (u : Rises rs) {r : Rw} (h : ∀ q ∈ rs, q.h < r.h) : Rises (rs ++ [r]) :=
  List.pairwise_append.mpr ⟨u, List.pairwise_singleton _ _, fun a ha b hb => by rw [List.mem_singleton.mp hb]; exact h a ha⟩
/-- the first row, the last row -/
theorem LogOk.first {rs : List Rw} (h : 1 ≤ rs.length) : ∃ r, rs[0]? = some r ∧ r ∈ rs ∧ ∀ P : PyData → Prop, pick (rs.map rowD) 0 P = P (.tuple [.int r.h, .int r.x, .int r.y]) := by
  cases rs with
  | nil => simp at h
  | cons r rs => exact ⟨r, rfl, by simp, fun P => at0⟩
theorem LogOk.last {rs : List Rw} (h : 1 ≤ rs.length) : ∃ r, rs[rs.length - 1]? = some r ∧ r ∈ rs ∧ ∀ P : PyData → Prop, pick (rs.map rowD) (-1) P = P (.tuple [.int r.h, .int r.x, .int r.y]) := by
  have hne : rs ≠ [] := fun e => by rw [e] at h; simp at h
  have e := List.dropLast_concat_getLast hne
  refine ⟨rs.getLast hne, ?_, List.getLast_mem hne, fun P => ?_⟩
  · rw [List.getLast_eq_getElem]
    simp
  · have e2 : rs.map rowD = rs.dropLast.map rowD ++ [rowD (rs.getLast hne)] := by
      rw [← List.map_singleton, ← List.map_append, e]
    rw [e2]
    exact atLast
theorem pot_of_q (ns : List Int) (k : Int) (k0 : 0 ≤ k) (k1 : k ≤ 1000) (K : List PyData → Prop) (h : ∀ xs, MPot xs → K xs) : q_law_pot_of (.list (ns.map .int)) (.int k) K := by
  unfold q_law_pot_of
  walk_at "j"
  have z := sz_of (i := 10) (by decide) (by decide)
  have z60 : Sz (10 ^ Int.toNat 60) := sz_of (by decide) (by decide)
  have zz : (0 : Int) < (10 ^ Int.toNat 60) ^ Int.toNat 14 := by decide +kernel
  refine jn_by (fun d => ∃ c : Int, d = .int c ∧ 0 ≤ c ∧ c < (10 ^ Int.toNat 60) ^ Int.toNat 14) (fun J hJ => ?_) ?_
  · refine bIf_d (fun hk => ?_) fun _ => ?_
    · refine pick_mem k0 (by simpa using hk) fun d mem => ?_
      obtain ⟨c, _, rfl⟩ := List.mem_map.mp mem
      walk_at "q"
      refine ⟨⟨z, by decide, by decide⟩, ⟨z60, by decide, by decide⟩, zz, ?_⟩
      exact hJ _ ⟨_, rfl, Int.emod_nonneg _ (Int.ne_of_gt zz), Int.emod_lt_of_pos _ zz⟩
    · exact hJ _ ⟨0, rfl, Int.le_refl _, zz⟩
  · rintro _ ⟨c, rfl, c0, c1⟩
    have zc : Sz c := by
      unfold Sz
      have e : (10 : Int) ^ 1000 = (((10 : Nat) ^ 1000 : Nat) : Int) := by rw [Int.natCast_pow]; rfl
      have : (10 ^ Int.toNat 60 : Int) ^ Int.toNat 14 ≤ 10 ^ 1000 := by decide +kernel
      rw [e] at this
      omega
    walk_at "q"
    have b1 := Int.emod_nonneg c (by decide : (2147483629 : Int) ≠ 0)
    have b2 := Int.emod_lt_of_pos c (by decide : (0 : Int) < 2147483629)
    generalize c % 2147483629 = m at b1 b2 ⊢
    refine ⟨⟨z, by decide, by decide⟩, ⟨zc, ?_⟩, by decide, ⟨sz_of (by decide) (by decide), sz_of (by omega) (by omega)⟩, ⟨sz_of (by omega) (by omega), by decide, by decide⟩, by decide, ?_⟩
    · split <;> exact sz_of (by decide) (by decide)
    · exact h _ ⟨_, _, rfl, Int.emod_nonneg _ (by decide), Int.emod_lt_of_pos _ (by decide)⟩
theorem draw_q {m : Int} {xs : List PyData} (hp : MPot xs) (m0 : 0 < m) (m1 : m ≤ 10 ^ 50) (K : PyData → List PyData → Prop) (h : ∀ r xs', 0 ≤ r → r < m → MPot xs' → K (.int r) xs') : q_law_draw xs (.int m) K := by
  obtain ⟨g, s, rfl, s0, s1⟩ := hp
  unfold q_law_draw
  walk_at "q"
  refine bIf_d (fun h0 => ?_) fun h0 => ?_
  · walk_at "sides"
    exact h _ _ (Int.emod_nonneg _ (by omega)) (Int.emod_lt_of_pos _ m0) ⟨_, s, rfl, s0, s1⟩
  · have b1 := Int.emod_nonneg (s * 69621 + 12345) (by decide : (2147483647 : Int) ≠ 0)
    have b2 := Int.emod_lt_of_pos (s * 69621 + 12345) (by decide : (0 : Int) < 2147483647)
    generalize (s * 69621 + 12345) % 2147483647 = A at b1 b2 ⊢
    walk_at "sides"
    exact h _ _ (Int.emod_nonneg _ (by omega)) (Int.emod_lt_of_pos _ m0) ⟨g, A, rfl, b1, b2⟩
theorem pickS_b {z : Str} {k c : Nat} {P : PyData → Prop} (h : z.cps.toList[k]? = some c) (hz : z.length ≤ 100000) (hP : P (.str ⟨#[c]⟩)) : pickS z (k : Int) P := by
  have hl := (List.getElem?_eq_some_iff.mp h).1
  have e : atI z.cps.toList (k : Int) = some c := by
    unfold atI
    rw [ixN_in (by omega) (by omega), Int.toNat_natCast]
    exact h
  unfold pickS
  rw [e]
  exact ⟨hz, hP⟩
def letB (k : Nat) : Nat := alph.cps.toList.getD k 0
theorem letB_get {k : Nat} (h : k < 26) : alph.cps.toList[k]? = some (letB k) := by
  unfold letB
  rw [List.getD_eq_getElem?_getD, List.getElem?_eq_getElem (by rw [al_len]; exact h)]
  rfl
/-- a name that ends so -/
def NmB (k : Nat) (x : Str) : Prop := goodN x = true ∧ ∃ cs : List Nat, x.cps.toList = cs ++ [letB k]
theorem name_b {xs : List PyData} (hp : MPot xs) {k : Nat} (k1 : k < 26) (K : PyData → List PyData → Prop) (h : ∀ x xs', NmB k x → MPot xs' → K (.str x) xs') : q_law_name xs (.int (k : Int)) K := by
  unfold q_law_name
  have hal : ("abcdefghijklmnopqrstuvwxyz" : Str).cps.toList.length = 26 := al_len
  refine draw_q hp (by decide) (by decide) _ fun m xs m0 m1 hp => ?_
  walk_at "q"
  refine ⟨⟨by omega, by omega⟩, ?_⟩
  refine qLc_each (fun y => ∃ c ∈ alph.cps.toList, y = .str ⟨#[c]⟩) (fun _ s => MPot s) hp (by rw [range_len]; omega) (fun k d s sk yd hd hs hy => ?_) fun acc s hl ha hs => ?_
  · unfold qb_law_name_1
    refine draw_q hs (by decide) (by decide) _ fun r xs r0 r1 hp => ?_
    rw [q_ixS]
    refine pickS_of r0 ?_ (by decide +kernel) fun c hc => hy _ _ ⟨c, hc, rfl⟩ hp
    rw [hal]
    exact r1
  · rw [range_len] at hl
    obtain ⟨cs, hc, rfl⟩ := sgl_map ha
    rw [List.length_map, List.length_map] at hl
    unfold nJoin
    dsimp only
    rw [DL.strs_map]
    refine ⟨?_, ?_⟩
    · unfold joinOk
      have e : (((cs.map fun c => (⟨#[c]⟩ : Str)).map (·.length)).sum) = cs.length := by
        clear hl hc ha
        induction cs with
        | nil => rfl
        | cons c r ih => rw [List.map_cons, List.map_cons, List.sum_cons, ih, List.length_cons]; show 1 + r.length = _; omega
      rw [e]
      have : ("" : Str).length = 0 := rfl
      rw [this]
      omega
    · dsimp only
      rw [q_ixS]
      refine pickS_b (letB_get k1) (by decide +kernel) ?_
      have hc2 : letB k ∈ alph.cps.toList := List.mem_of_getElem? (letB_get k1)
      obtain ⟨c, hcB⟩ : ∃ c, c = letB k := ⟨_, rfl⟩
      rw [← hcB] at hc2 ⊢
      have ejn : (Txt.join "" (cs.map fun c => (⟨#[c]⟩ : Str))).cps.toList = cs := by
        unfold Txt.join
        rw [PySem.StrLaws.glued_eq_join]
        exact join_signs cs
      have ej : (Txt.join "" (cs.map fun c => (⟨#[c]⟩ : Str)) ++ (⟨#[c]⟩ : Str)).cps.toList = cs ++ [c] := by
        show ((Txt.join "" (cs.map fun c => (⟨#[c]⟩ : Str))).cps ++ #[c]).toList = _
        rw [Array.toList_append, ejn]
      have hl2 : (Txt.join "" (cs.map fun c => (⟨#[c]⟩ : Str)) ++ (⟨#[c]⟩ : Str)).length = cs.length + 1 := by
        show (Txt.join "" (cs.map fun c => (⟨#[c]⟩ : Str)) ++ (⟨#[c]⟩ : Str)).cps.size = _
        rw [← Array.length_toList, ej]
        simp
      have hg : goodN (Txt.join "" (cs.map fun c => (⟨#[c]⟩ : Str)) ++ (⟨#[c]⟩ : Str)) = true := by
        unfold goodN
        rw [hl2, ej]
        simp only [Bool.and_eq_true, decide_eq_true_eq, List.all_eq_true]
        refine ⟨⟨by omega, by omega⟩, fun x hx => ?_⟩
        rcases List.mem_append.mp hx with z | z
        · exact hc x z
        · rw [List.mem_singleton.mp z]; exact hc2
      rw [q_addS]
      refine ⟨?_, h _ _ ⟨hg, cs, by rw [ej, hcB]⟩ hs⟩
      have : (Txt.join "" (cs.map fun c => (⟨#[c]⟩ : Str))).length = cs.length := by
        show (Txt.join "" (cs.map fun c => (⟨#[c]⟩ : Str))).cps.size = _
        rw [← Array.length_toList, ejn]
      rw [this]
      show cs.length + 1 ≤ 100000
      omega
theorem popQ_b {xs : List PyData} {t : Int} {d : PyData} {K : PyData → List PyData → Prop} (h0 : 0 ≤ t) (h1 : t < xs.length) (hl : xs.length ≤ 100000) (hd : xs[t.toNat]? = some d) (h : K d (xs.eraseIdx t.toNat)) : popQ xs (.int t) K := by
  unfold popQ
  dsimp only
  rw [ixN_in h0 h1]
  dsimp only
  rw [hd]
  exact ⟨hl, h⟩
theorem erase_permB {α : Type} : ∀ {l : List α} {i : Nat} (h : i < l.length), (l[i] :: l.eraseIdx i).Perm l
  | [], _, h => absurd h (Nat.not_lt_zero _)
  | a :: l, 0, _ => List.Perm.refl _
  | a :: l, i + 1, h => by
    have ih := erase_permB (l := l) (i := i) (by simpa using h)
    show (l[i]'(by simpa using h) :: a :: l.eraseIdx i).Perm (a :: l)
    exact (List.Perm.swap a _ _).trans (List.Perm.cons a ih)
theorem shuffled_b {xs ds : List PyData} {D : PyData} (hD : D = .list ds ∨ D = .tuple ds) (hl : ds.length ≤ 1000) (hp : MPot xs) (K : PyData → List PyData → Prop) (h : ∀ es xs', es.Perm ds → MPot xs' → K (.tuple es) xs') : q_law_shuffled xs D K := by
  have main : qLc qb_law_shuffled_1 D (rangeD 0 ds.length) [] (xs, ds) fun l8 s10 => nTuple [(.list l8)] fun t11 => K t11 s10.1 := by
    refine qLc_ind (fun k acc s => ∃ xs gs, s = (xs, gs) ∧ acc.length = k ∧ (acc ++ gs).Perm ds ∧ MPot xs) ⟨xs, ds, rfl, rfl, List.Perm.refl _, hp⟩ (fun k acc s hk hi => ?_) (fun k d acc s sk yd hd hi hsk hyd => ?_) fun acc s hi => ?_
    · obtain ⟨_, _, _, e, _⟩ := hi
      rw [range_len] at hk
      omega
    · obtain ⟨hk, rfl⟩ := range_get hd
      obtain ⟨xs, gs, rfl, al, pm, hp⟩ := hi
      have pl := pm.length_eq
      rw [List.length_append] at pl
      unfold qb_law_shuffled_1
      dsimp only
      refine draw_q hp (by omega) (by omega) _ fun t xs t0 t1 hp => ?_
      have ht : t.toNat < gs.length := by omega
      refine popQ_b t0 (by omega) (by omega) (List.getElem?_eq_getElem ht) ?_
      refine hyd _ _ ⟨xs, gs.eraseIdx t.toNat, rfl, by rw [List.length_append, al]; rfl, ?_, hp⟩
      rw [List.append_assoc]
      exact (List.Perm.append_left acc (erase_permB ht)).trans pm
    · obtain ⟨xs, gs, rfl, al, pm, hp⟩ := hi
      rw [range_len] at al
      have : gs = [] := List.length_eq_zero_iff.mp (by have := pm.length_eq; rw [List.length_append] at this; omega)
      subst this
      rw [List.append_nil] at pm
      walk_at "q"
      exact h _ _ pm hp
  unfold q_law_shuffled
  rcases hD with rfl | rfl
  · walk_at "q"
    refine ⟨by omega, ?_⟩
    rw [Int.toNat_natCast]

    exact main
  · walk_at "q"
    refine ⟨by omega, ?_⟩
    rw [Int.toNat_natCast]
    exact main
theorem log_b {xs : List PyData} (hp : MPot xs) (K : PyData → List PyData → Prop) (h : ∀ rs xs', LogOk rs → rs.length ≤ 4 → MPot xs' → K (logD rs) xs') : q_law_log xs K := by
  unfold q_law_log
  refine draw_q hp (by decide) (by decide) _ fun hr xs h0 h1 hp => ?_
  refine draw_q hp (by decide) (by decide) _ fun m xs m0 m1 hp => ?_
  walk_at "q"
  refine ⟨by omega, ?_⟩
  refine qFor_range (fun k s => ∃ (xs : List PyData) (t : Int) (rs : List Rw), s = (xs, .int t, rs.map rowD) ∧ MPot xs ∧ rs.length = k ∧ 0 ≤ t ∧ t ≤ 12 + 12 * (k : Int) ∧ (∀ r ∈ rs, RowOk r ∧ r.h < t) ∧ Rises rs) ⟨_, hr, [], rfl, hp, rfl, h0, by omega, by simp, List.Pairwise.nil⟩ (fun k s nx hk hs hnx => ?_) fun s hs => ?_
  · obtain ⟨xs, t, rs, rfl, hp, hl, t0, t1, ok, up⟩ := hs
    unfold qb_law_log_1
    dsimp only
    refine draw_q hp (by decide) (by decide) _ fun x xs x0 x1 hp => ?_
    walk_at "q"
    refine draw_q hp (by decide) (by decide) _ fun y xs y0 y1 hp => ?_
    walk_at "q"
    refine ⟨by omega, ?_⟩
    refine draw_q hp (by decide) (by decide) _ fun z xs z0 z1 hp => ?_
    walk_at "q"
    refine hnx _ ⟨xs, t + 1 + z, rs ++ [⟨t, x - 6, y - 6⟩], ?_, hp, by rw [List.length_append, hl]; rfl, by omega, by omega, fun r hr => ?_, up.push fun q hq => (ok q hq).2⟩
    · rw [List.map_append]
      rfl
    · rcases List.mem_append.mp hr with w | w
      · exact ⟨(ok r w).1, by have := (ok r w).2; omega⟩
      · rw [List.mem_singleton.mp w]
        exact ⟨rowOk t0 (by omega) (by omega) (by omega) (by omega) (by omega), by show t < t + 1 + z; omega⟩
  · obtain ⟨xs, t, rs, rfl, hp, hl, t0, t1, ok, up⟩ := hs
    exact h rs xs ⟨by omega, by omega, fun r hr => (ok r hr).1, up⟩ (by omega) hp
theorem log_ok {rs : List Rw} (h : LogOk rs) (K : PyData → Prop) (hK : K (.bool true)) : q_is_log (logD rs) K := by
  refine is_log_q _ _ ?_
  rw [h.is]
  exact hK
theorem sale_b {xs : List PyData} (hp : MPot xs) (K : PyData → List PyData → Prop) (hK : ∀ g c r h b p q xs', Sale g c r h b p q → MPot xs' → K (saleD g c r h b p q) xs') : q_law_sale xs K := by
  unfold q_law_sale
  have e12 : (10 : Int) ^ Int.toNat 12 = 1000000000000 := by decide
  have e9 : (10 : Int) ^ Int.toNat 9 = 1000000000 := by decide
  have z10 : Sz 10 := sz_of (by decide) (by decide)
  refine draw_q hp (by decide) (by decide) _ fun way xs w0 w1 hp => ?_
  refine draw_q hp (by decide) (by decide) _ fun d3 xs a0 a1 hp => ?_
  refine draw_q hp (by decide) (by decide) _ fun d5 xs b0 b1 hp => ?_
  walk_at "q"
  refine ⟨⟨z10, by decide, by decide⟩, ?_⟩
  simp only [e12, e9]
  refine draw_q hp (by decide) (by decide) _ fun d9 xs c0 c1 hp => ?_
  walk_at "q"
  refine ⟨⟨z10, by decide, by decide⟩, ?_⟩
  refine pick_mem w0 (by simpa using w1) fun d hd => ?_
  obtain ⟨g, rfl, g0, g1⟩ : ∃ g : Int, d = .int g ∧ 0 ≤ g ∧ g ≤ 1000000000000 := by
    simp only [List.mem_cons, List.not_mem_nil, or_false] at hd
    rcases hd with rfl | rfl | rfl | rfl <;> exact ⟨_, rfl, by omega, by omega⟩
  refine draw_q hp (by decide) (by decide) _ fun d13 xs f0 f1 hp => ?_
  walk_at "q"
  refine ⟨⟨z10, by decide, by decide⟩, ?_⟩
  refine draw_q hp (by decide) (by decide) _ fun d17 xs h0 h1 hp => ?_
  refine draw_q hp (by decide) (by decide) _ fun d19 xs i0 i1 hp => ?_
  refine draw_q hp (by decide) (by decide) _ fun d21 xs j0 j1 hp => ?_
  walk_at "q"
  refine pick_mem j0 (by simpa using j1) fun d hd => ?_
  obtain ⟨c, rfl, c0, c1⟩ : ∃ c : Int, d = .int c ∧ 0 ≤ c ∧ c ≤ 1000000000000 := by
    simp only [List.mem_cons, List.not_mem_nil, or_false] at hd
    rcases hd with rfl | rfl | rfl | rfl <;> exact ⟨_, rfl, by omega, by omega⟩
  refine draw_q hp (by decide) (by decide) _ fun d24 xs k0 k1 hp => ?_
  refine draw_q hp (by decide) (by decide) _ fun d26 xs l0 l1 hp => ?_
  walk_at "q"
  refine pick_mem l0 (by simpa using l1) fun d hd => ?_
  obtain ⟨r, rfl, r0, r1⟩ : ∃ r : Int, d = .int r ∧ 0 ≤ r ∧ r ≤ 10000 := by
    simp only [List.mem_cons, List.not_mem_nil, or_false] at hd
    rcases hd with rfl | rfl | rfl | rfl <;> exact ⟨_, rfl, by omega, by omega⟩
  refine draw_q hp (by decide) (by decide) _ fun d29 xs m0 m1 hp => ?_
  walk_at "q"
  refine pick_mem m0 (by simpa using m1) fun d hd => ?_
  obtain ⟨p, q, rfl, p0, pq, q0, q8, co⟩ : ∃ p q : Int, d = .tuple [.int p, .int q] ∧ 0 ≤ p ∧ p ≤ q ∧ 0 < q ∧ q ≤ 8 ∧ Int.gcd p q = 1 := by
    simp only [List.mem_cons, List.not_mem_nil, or_false] at hd
    rcases hd with rfl | rfl | rfl | rfl <;> exact ⟨_, _, rfl, by decide, by decide, by decide, by decide, by decide⟩
  refine draw_q hp (by decide) (by decide) _ fun hh xs n0 n1 hp => ?_
  refine draw_q hp (by decide) (by decide) _ fun d34 xs o0 o1 hp => ?_
  walk_at "q"
  refine ⟨⟨z10, by decide, by decide⟩, ?_⟩
  refine draw_q hp (by decide) (by decide) _ fun d37 xs s0 s1 hp => ?_
  walk_at "q"
  refine ⟨⟨by decide, sz_of (by decide) (by decide)⟩, ?_⟩
  refine pick_mem (by omega) (by simp; omega) fun d hd => ?_
  obtain ⟨b, rfl, b0, b1⟩ : ∃ b : Int, d = .int b ∧ 0 ≤ b ∧ b ≤ 1000000000 := by
    simp only [List.mem_cons, List.not_mem_nil, or_false] at hd
    rcases hd with rfl | rfl <;> exact ⟨_, rfl, by omega, by omega⟩
  exact hK g c r hh b p q xs ⟨g0, by omega, c0, by omega, r0, r1, n0, by omega, b0, by omega, p0, pq, q0, by omega, co⟩ hp
theorem NmB.ne {a b : Nat} {x y : Str} (h : NmB a x) (k : NmB b y) (ne : letB a ≠ letB b) : x ≠ y := fun e => by
  obtain ⟨cs, hc⟩ := h.2
  obtain ⟨ds, hd⟩ := k.2
  subst e
  rw [hc] at hd
  have := congrArg List.getLast? hd
  rw [List.getLast?_append, List.getLast?_append] at this
  simp at this
  exact ne this
theorem strs_ofB : ∀ {ds : List PyData}, (∀ d ∈ ds, ∃ x, goodN x = true ∧ d = .str x) → ∃ ts : List Str, (∀ x ∈ ts, goodN x = true) ∧ ds = ts.map .str
  | [], _ => ⟨[], by simp, rfl⟩
  | d :: ds, h => by
    obtain ⟨x, hx, rfl⟩ := h d List.mem_cons_self
    obtain ⟨ts, ht, rfl⟩ := strs_ofB fun y hy => h y (List.mem_cons_of_mem _ hy)
    exact ⟨x :: ts, fun y hy => by
      rcases List.mem_cons.mp hy with rfl | hy
      · exact hx
      · exact ht y hy, rfl⟩
structure Folk (ships men ranks prizes : List Str) : Prop where
  s1 : 1 ≤ ships.length
  s4 : ships.length ≤ 4
  m1 : 1 ≤ men.length
  m6 : men.length ≤ 6
  r3 : ranks.length = 3
  p2 : prizes.length = 2
  sg : ∀ x ∈ ships, goodN x = true
  mg : ∀ x ∈ men, goodN x = true
  rg : ∀ x ∈ ranks, goodN x = true
  pg : ∀ x ∈ prizes, goodN x = true
  rn : ranks.Nodup
abbrev strsD (l : List Str) : PyData := .list (l.map .str)
def folkD (ships men ranks prizes : List Str) : PyData := .tuple [strsD ships, strsD men, strsD ranks, strsD prizes]
theorem folk_b {xs : List PyData} (hp : MPot xs) (K : PyData → List PyData → Prop) (h : ∀ ships men ranks prizes xs', Folk ships men ranks prizes → MPot xs' → K (folkD ships men ranks prizes) xs') : q_law_folk xs K := by
  unfold q_law_folk
  refine draw_q hp (by decide) (by decide) _ fun a xs a0 a1 hp => ?_
  walk_at "q"
  refine ⟨by omega, ?_⟩
  refine qLc_each (fun y => ∃ x, goodN x = true ∧ y = .str x) (fun _ s => MPot s) hp (by rw [range_len]; omega) (fun k d s sk yd hd hs hy => ?_) fun acc s hl ha hp => ?_
  · obtain ⟨hk, rfl⟩ := range_get hd
    unfold qb_law_folk_1
    rw [show (0 : Int) + (k : Int) = (k : Int) by omega]
    exact name_b hs (by omega) _ fun x xs hx hp => hy _ _ ⟨x, hx.1, rfl⟩ hp
  obtain ⟨ships, sg, rfl⟩ := strs_ofB ha
  rw [List.length_map, range_len] at hl
  refine draw_q hp (by decide) (by decide) _ fun b xs b0 b1 hp => ?_
  walk_at "q"
  refine ⟨by omega, ?_⟩
  refine qLc_each (fun y => ∃ x, goodN x = true ∧ y = .str x) (fun _ s => MPot s) hp (by rw [range_len]; omega) (fun k d s sk yd hd hs hy => ?_) fun acc s hl2 ha hp => ?_
  · obtain ⟨hk, rfl⟩ := range_get hd
    unfold qb_law_folk_2
    walk_at "q"
    rw [show (5 : Int) + (0 + (k : Int)) = ((5 + k : Nat) : Int) by omega]
    exact name_b hs (by omega) _ fun x xs hx hp => hy _ _ ⟨x, hx.1, rfl⟩ hp
  obtain ⟨men, mg, rfl⟩ := strs_ofB ha
  rw [List.length_map, range_len] at hl2
  walk_at "q"
  refine ⟨by decide, ?_⟩
  refine qLc_ind (fun k acc s => MPot s ∧ ∃ ts : List Str, acc = ts.map .str ∧ ts.length = k ∧ ∀ (i : Nat) (x : Str), ts[i]? = some x → NmB (12 + i) x) ⟨hp, [], rfl, rfl, by simp⟩ (fun k acc s hk hi => ?_) (fun k d acc s sk yd hd hi hsk hyd => ?_) fun acc s hi => ?_
  · obtain ⟨_, ts, rfl, e, _⟩ := hi
    rw [range_len] at hk
    rw [List.length_map, e]
    have : Int.toNat 3 = 3 := rfl
    omega
  · obtain ⟨hk, rfl⟩ := range_get hd
    have hk : k < 3 := hk
    obtain ⟨hp, ts, rfl, e, hts⟩ := hi
    unfold qb_law_folk_3
    walk_at "q"
    rw [show (12 : Int) + (0 + (k : Int)) = ((12 + k : Nat) : Int) by omega]
    refine name_b hp (by omega) _ fun x xs hx hp => hyd _ _ ⟨hp, ts ++ [x], by rw [List.map_append]; rfl, by rw [List.length_append, e]; rfl, fun i y hy => ?_⟩
    rcases Nat.lt_or_ge i k with z | z
    · rw [List.getElem?_append_left (by omega)] at hy
      exact hts i y hy
    · rw [List.getElem?_append_right (by omega), e] at hy
      have hz : i - k = 0 := by
        have := (List.getElem?_eq_some_iff.mp hy).1
        simp at this
        exact this
      rw [hz] at hy
      injection hy with hy
      subst hy
      rw [show i = k by omega]
      exact hx
  · rw [range_len] at hi
    obtain ⟨hp, ts, rfl, e, hts⟩ := hi
    have e3 : ts.length = 3 := e
    match ts, e3, hts with
    | [r0, r1, r2], _, hts =>
      have h0 := hts 0 r0 rfl
      have h1 := hts 1 r1 rfl
      have h2 := hts 2 r2 rfl
      refine name_b (k := 20) hp (by decide) _ fun p0 xs hp0 hp => ?_
      refine name_b (k := 21) hp (by decide) _ fun p1 xs hp1 hp => ?_
      refine h ships men [r0, r1, r2] [p0, p1] xs ⟨by omega, by omega, by omega, by omega, rfl, rfl, sg, mg, fun x hx => ?_, fun x hx => ?_, ?_⟩ hp
      · simp only [List.mem_cons, List.not_mem_nil, or_false] at hx
        rcases hx with rfl | rfl | rfl
        · exact h0.1
        · exact h1.1
        · exact h2.1
      · simp only [List.mem_cons, List.not_mem_nil, or_false] at hx
        rcases hx with rfl | rfl
        · exact hp0.1
        · exact hp1.1
      · have a := h0.ne h1 (by decide +kernel)
        have b := h0.ne h2 (by decide +kernel)
        have c := h1.ne h2 (by decide +kernel)
        simp [a, b, c]
theorem map_perm {α β : Type} {f : α → β} : ∀ {l : List β} {m : List α}, l.Perm (m.map f) → ∃ k : List α, l = k.map f ∧ k.Perm m := by
  intro l m h
  obtain ⟨xs, hx⟩ : ∃ xs, xs = m.map f := ⟨_, rfl⟩
  rw [← hx] at h
  induction h generalizing m with
  | nil => exact ⟨m, hx, List.Perm.refl _⟩
  | cons x _ ih =>
    cases m with
    | nil => simp at hx
    | cons y m =>
      rw [List.map_cons] at hx
      injection hx with e1 e2
      obtain ⟨k, rfl, p⟩ := ih e2
      exact ⟨y :: k, by rw [e1]; rfl, p.cons y⟩
  | swap x y l =>
    match m, hx with
    | a :: b :: m, hx =>
      rw [List.map_cons, List.map_cons] at hx
      injection hx with e1 e2
      injection e2 with e2 e3
      exact ⟨b :: a :: m, by rw [e1, e2, e3]; rfl, List.Perm.swap ..⟩
  | trans _ _ ih1 ih2 =>
    obtain ⟨k2, e2, p2⟩ := ih2 hx
    obtain ⟨k1, e1, p1⟩ := ih1 e2
    exact ⟨k1, e1, p1.trans p2⟩
theorem sort_ok_strs (l : List Str) : sortOk (l.map .str) := by
  refine ⟨PySem.W.AllAlike.of fun a b => by simp [PySem.W.alike], .inr fun d hd => ?_, fun d hd => ?_, ?_⟩
  · obtain ⟨p, _, rfl⟩ := List.mem_map.mp hd
    exact ⟨nofun, fun _ => nofun⟩
  · obtain ⟨p, _, rfl⟩ := List.mem_map.mp hd
    simp [PyData.depth]
  · induction l with
    | nil => rfl
    | cons a l ih => rw [List.map_cons, PyData.hasDictAll, ih]; rfl
theorem sort_strs {l : List Str} (nd : l.Nodup) : ∃ os : List Str, sortD (l.map .str) = os.map .str ∧ (os.Pairwise fun a b => strLt a b = true) ∧ os.Perm l := by
  obtain ⟨os, e, p⟩ := map_perm (sortD_perm (l.map PyData.str))
  refine ⟨os, e, ?_, p⟩
  have pw := sortD_pair (l.map PyData.str)
  rw [e, List.pairwise_map] at pw
  refine (pw.and (p.nodup_iff.mpr nd)).imp fun {a b} ⟨h1, h2⟩ => ?_
  have : PySem.W.dataLe false id (PyData.str a) (PyData.str b) = !PySem.W.dataLt (.str b) (.str a) := rfl
  rw [this, PySem.W.dataLt_str, Bool.not_eq_true'] at h1
  exact strLt_or (by rw [strLt_eq]; exact h1) h2
theorem st_inB {xs : List PyData} {i : Int} {d : PyData} {K : List PyData → Prop} (h0 : 0 ≤ i) (h1 : i < xs.length) (h : K (xs.set i.toNat d)) : stQ xs (.int i) d K := by
  show (match ixN xs.length i with | some j => K (xs.set j d) | none => False)
  rw [ixN_in h0 h1]
  exact h
theorem scheme_b {xs : List PyData} {ranks : List Str} (r3 : ranks.length = 3) (rn : ranks.Nodup) (rg : ∀ x ∈ ranks, goodN x = true) (hp : MPot xs) (K : PyData → List PyData → Prop) (h : ∀ es rs xs', Sch es rs → MPot xs' → K (.tuple [.tuple es, .tuple rs]) xs') : q_law_scheme xs (.list (ranks.map .str)) K := by
  unfold q_law_scheme
  refine draw_q hp (by decide) (by decide) _ fun c xs c0 c1 hp => ?_
  walk_at "q"
  refine ⟨by omega, by decide, ?_⟩
  obtain ⟨n, hn⟩ : ∃ n : Nat, (1 + c) = (n : Int) := ⟨(1 + c).toNat, by omega⟩
  rw [hn]
  refine qFor_range (fun k s => ∃ xs ns, s = (xs, ns.map .int) ∧ MPot xs ∧ ns.length = n ∧ (∀ x ∈ ns, 0 ≤ x) ∧ ns.sum = (k : Int)) ⟨xs, List.replicate n 0, by simp, hp, by simp, by simp, by simp⟩ (fun k s nx hk hs hnx => ?_) fun s hs => ?_
  · obtain ⟨xs, ns, rfl, hp, nl, n0, nsum⟩ := hs
    unfold qb_law_scheme_1
    dsimp only
    refine draw_q hp (by omega) (by omega) _ fun t xs t0 t1 hp => ?_
    walk_at "q"
    have ht : t.toNat < ns.length := by omega
    have hgt : ns[t.toNat]? = some ns[t.toNat] := List.getElem?_eq_getElem ht
    have e := pick_at (xs := ns.map PyData.int) (k := t.toNat) (d := .int ns[t.toNat]) (P := fun t8 => oAdd t8 (.int 1) fun t9 => stQ (ns.map .int) (.int t) t9 fun eighths10 => nx (.list (ranks.map .str), .int n) (xs, eighths10)) (by rw [List.getElem?_map, hgt]; rfl)
    rw [show ((t.toNat : Nat) : Int) = t by omega] at e
    refine e ?_
    walk_at "q"
    refine st_inB t0 (by rw [List.length_map]; omega) (hnx _ ⟨xs, ns.set t.toNat (ns[t.toNat] + 1), ?_, hp, by rw [List.length_set, nl], fun x hx => ?_, ?_⟩)
    · rw [List.map_set]
    · rcases List.mem_or_eq_of_mem_set hx with z | z
      · exact n0 x z
      · have := n0 _ (List.getElem_mem ht)
        omega
    · rw [ssum_set hgt, nsum]
      omega
  · obtain ⟨xs, ns, rfl, hp, nl, n0, nsum⟩ := hs
    rw [q_sorted]
    refine ⟨sort_ok_strs ranks, ?_⟩
    obtain ⟨os, eo, hup, pm⟩ := sort_strs rn
    have ol := pm.length_eq
    rw [eo]
    walk_at "q"
    refine qLc_ind (fun k acc s => MPot s ∧ acc.length ≤ k ∧ ∃ rs : List PyData, acc = rs ∧ rs.all (isPr n) = true ∧ (rs.map nmD).Sublist (os.take k)) ⟨hp, Nat.le_refl _, [], rfl, rfl, List.Sublist.refl _⟩ (fun k acc s hk hi => ?_) (fun k d acc s sk yd hd hi hsk hyd => ?_) fun acc s hi => ?_
    · rw [List.length_map] at hk
      have := hi.2.1
      omega
    · obtain ⟨hp, hl, rs, rfl, hall, hsub⟩ := hi
      rw [List.getElem?_map] at hd
      obtain ⟨x, hx, rfl⟩ := Option.map_eq_some_iff.mp hd
      have hg := rg x (pm.mem_iff.mp (List.mem_of_getElem? hx))
      have e : os.take (k + 1) = os.take k ++ [x] := by rw [List.take_add_one, hx]; rfl
      unfold qb_law_scheme_2
      dsimp only
      refine draw_q hp (by decide) (by decide) _ fun a xs a0 a1 hp => ?_
      walk_at "q"
      refine bIf_d (fun _ => ?_) fun _ => hsk _ ⟨hp, by omega, _, rfl, hall, by rw [e]; exact hsub.trans (List.sublist_append_left _ _)⟩
      refine draw_q hp (by omega) (by omega) _ fun b xs b0 b1 hp => ?_
      refine hyd _ _ ⟨hp, by rw [List.length_append]; simp; omega, _, rfl, ?_, ?_⟩
      · rw [List.all_append, hall, Bool.true_and, List.all_cons, List.all_nil, Bool.and_true]
        show (isNm (.str x) && _) = true
        rw [show isNm (.str x) = true from hg]
        simp [isNt, ltN, b0, b1]
      · rw [e, List.map_append]
        exact hsub.append (List.Sublist.refl _)
    · obtain ⟨hp, hl, rs, rfl, hall, hsub⟩ := hi
      rw [List.length_map] at hl hsub
      rw [List.take_length] at hsub
      have n8 : ns.sum = 8 := nsum
      exact h _ _ _ (sch_of (by omega) (by omega) n0 n8 (by omega) (by rw [nl]; exact hall) (pw_rise (hup.sublist hsub))) hp
theorem kd_log : decide ((Str.ofString "log") = (Str.ofString "log")) = true := by decide +kernel
theorem kd_muster_log : decide ((Str.ofString "muster") = (Str.ofString "log")) = false := by decide +kernel
theorem kd_muster : decide ((Str.ofString "muster") = (Str.ofString "muster")) = true := by decide +kernel
theorem kd_scheme_log : decide ((Str.ofString "scheme") = (Str.ofString "log")) = false := by decide +kernel
theorem kd_scheme_muster : decide ((Str.ofString "scheme") = (Str.ofString "muster")) = false := by decide +kernel
theorem kd_scheme : decide ((Str.ofString "scheme") = (Str.ofString "scheme")) = true := by decide +kernel
theorem kd_taking_log : decide ((Str.ofString "taking") = (Str.ofString "log")) = false := by decide +kernel
theorem kd_taking_muster : decide ((Str.ofString "taking") = (Str.ofString "muster")) = false := by decide +kernel
theorem kd_taking_scheme : decide ((Str.ofString "taking") = (Str.ofString "scheme")) = false := by decide +kernel
theorem kd_taking : decide ((Str.ofString "taking") = (Str.ofString "taking")) = true := by decide +kernel
theorem kd_sale_log : decide ((Str.ofString "sale") = (Str.ofString "log")) = false := by decide +kernel
theorem kd_sale_muster : decide ((Str.ofString "sale") = (Str.ofString "muster")) = false := by decide +kernel
theorem kd_sale_scheme : decide ((Str.ofString "sale") = (Str.ofString "scheme")) = false := by decide +kernel
theorem kd_sale_taking : decide ((Str.ofString "sale") = (Str.ofString "taking")) = false := by decide +kernel
theorem kd_sale : decide ((Str.ofString "sale") = (Str.ofString "sale")) = true := by decide +kernel
theorem kd_finding_log : decide ((Str.ofString "finding") = (Str.ofString "log")) = false := by decide +kernel
theorem kd_finding_muster : decide ((Str.ofString "finding") = (Str.ofString "muster")) = false := by decide +kernel
theorem kd_finding_scheme : decide ((Str.ofString "finding") = (Str.ofString "scheme")) = false := by decide +kernel
theorem kd_finding_taking : decide ((Str.ofString "finding") = (Str.ofString "taking")) = false := by decide +kernel
theorem kd_finding_sale : decide ((Str.ofString "finding") = (Str.ofString "sale")) = false := by decide +kernel
theorem kd_finding : decide ((Str.ofString "finding") = (Str.ofString "finding")) = true := by decide +kernel
theorem kd_strike_log : decide ((Str.ofString "strike") = (Str.ofString "log")) = false := by decide +kernel
theorem kd_strike_muster : decide ((Str.ofString "strike") = (Str.ofString "muster")) = false := by decide +kernel
theorem kd_strike_scheme : decide ((Str.ofString "strike") = (Str.ofString "scheme")) = false := by decide +kernel
theorem kd_strike_taking : decide ((Str.ofString "strike") = (Str.ofString "taking")) = false := by decide +kernel
theorem kd_strike_sale : decide ((Str.ofString "strike") = (Str.ofString "sale")) = false := by decide +kernel
theorem kd_strike_finding : decide ((Str.ofString "strike") = (Str.ofString "finding")) = false := by decide +kernel
theorem kd_strike : decide ((Str.ofString "strike") = (Str.ofString "strike")) = true := by decide +kernel
theorem kd_had_log : decide ((Str.ofString "had") = (Str.ofString "log")) = false := by decide +kernel
theorem kd_had_muster : decide ((Str.ofString "had") = (Str.ofString "muster")) = false := by decide +kernel
theorem kd_had_scheme : decide ((Str.ofString "had") = (Str.ofString "scheme")) = false := by decide +kernel
theorem kd_had_taking : decide ((Str.ofString "had") = (Str.ofString "taking")) = false := by decide +kernel
theorem kd_had_sale : decide ((Str.ofString "had") = (Str.ofString "sale")) = false := by decide +kernel
theorem kd_had_finding : decide ((Str.ofString "had") = (Str.ofString "finding")) = false := by decide +kernel
theorem kd_had_strike : decide ((Str.ofString "had") = (Str.ofString "strike")) = false := by decide +kernel
theorem kd_had : decide ((Str.ofString "had") = (Str.ofString "had")) = true := by decide +kernel
local macro_rules | `(tactic| walk_at "k") => `(tactic| (walk_at "q"; (try simp only [kd_log, kd_muster_log, kd_muster, kd_scheme_log, kd_scheme_muster, kd_scheme, kd_taking_log, kd_taking_muster, kd_taking_scheme, kd_taking, kd_sale_log, kd_sale_muster, kd_sale_scheme, kd_sale_taking, kd_sale, kd_finding_log, kd_finding_muster, kd_finding_scheme, kd_finding_taking, kd_finding_sale, kd_finding, kd_strike_log, kd_strike_muster, kd_strike_scheme, kd_strike_taking, kd_strike_sale, kd_strike_finding, kd_strike, kd_had_log, kd_had_muster, kd_had_scheme, kd_had_taking, kd_had_sale, kd_had_finding, kd_had_strike, kd_had]); walk_at "q"))
def BodyOk (n : Int) (d : PyData) : Prop := ∀ K : PyData → Prop, K (.bool true) → q_is_body (.int n) d K
theorem good_shS {x : Str} (h : goodN x = true) : shS (.str x) := shS_of (good_rp h 1)
theorem is_name_t {x : Str} (h : goodN x = true) (K : PyData → Prop) (hK : K (.bool true)) : q_is_name (.str x) K := by
  refine is_name_q _ (good_shS h) _ ?_
  rw [show isNm (.str x) = true from h]
  exact hK
theorem two_is : decide (((0 + 1 + 1 : Nat) : Int) = 2) = true := rfl
theorem three_is : decide (((0 + 1 + 1 + 1 : Nat) : Int) = 3) = true := rfl
theorem four_is : decide (((0 + 1 + 1 + 1 + 1 : Nat) : Int) = 4) = true := rfl
theorem day_in {i : Int} (h0 : 0 ≤ i) (h1 : i ≤ 1000000) (K : PyData → Prop) (hK : K (.bool true)) : q_is_day (.int i) K := by
  unfold q_is_day
  rw [is_within_q, within_t h0 h1]
  exact hK
theorem body_log {n : Int} {x : Str} {rs : List Rw} (hx : goodN x = true) (h : LogOk rs) : BodyOk n (.tuple [.str "log", .str x, logD rs]) := fun K hK => by
  unfold q_is_body
  walk_at "k"
  rw [three_is]
  walk_at "k"
  refine is_name_t hx _ ?_
  walk_at "q"
  exact log_ok h _ hK
theorem body_finding {n m : Int} {x : Str} (hx : goodN x = true) (m0 : 0 ≤ m) (m1 : m ≤ 1000000) : BodyOk n (.tuple [.str "finding", .str x, .int m]) := fun K hK => by
  unfold q_is_body
  walk_at "k"
  rw [three_is]
  walk_at "k"
  refine is_name_t hx _ ?_
  walk_at "q"
  exact day_in m0 m1 _ hK
theorem body_strike {n m : Int} (m0 : 0 ≤ m) (m1 : m ≤ n - 1) : BodyOk n (.tuple [.str "strike", .int m]) := fun K hK => by
  unfold q_is_body
  walk_at "k"
  rw [two_is]
  walk_at "k"
  rw [is_within_q]
  rw [within_t m0 m1]
  exact hK
theorem body_had {n m : Int} {x y : Str} (hx : goodN x = true) (hy : goodN y = true) (m0 : 1 ≤ m) (m1 : m ≤ 1000000000000) : BodyOk n (.tuple [.str "had", .str x, .str y, .int m]) := fun K hK => by
  unfold q_is_body
  walk_at "k"
  rw [four_is]
  walk_at "k"
  refine is_name_t hx _ ?_
  walk_at "q"
  refine is_name_t hy _ ?_
  walk_at "q"
  rw [is_within_q]
  rw [show isIn (.int m) 1 1000000000000 = true by simp only [isIn, decide_eq_true m0, decide_eq_true m1]; rfl]
  exact hK
theorem five_is : decide (((0 + 1 + 1 + 1 + 1 + 1 : Nat) : Int) = 5) = true := rfl
theorem six_is : decide (((0 + 1 + 1 + 1 + 1 + 1 + 1 : Nat) : Int) = 6) = true := rfl
theorem eight_is : decide (((0 + 1 + 1 + 1 + 1 + 1 + 1 + 1 + 1 : Nat) : Int) = 8) = true := rfl
theorem hour_in {i : Int} (h0 : 0 ≤ i) (h1 : i ≤ 100000) (K : PyData → Prop) (hK : K (.bool true)) : q_is_hour_pages (.int i) K := by
  unfold q_is_hour_pages
  rw [is_within_q, within_t h0 h1]
  exact hK
theorem body_muster {n i : Int} {x s r : Str} (hx : goodN x = true) (hs : s = "" ∨ goodN s = true) (hr : goodN r = true) (i0 : 0 ≤ i) (i1 : i ≤ 100000) : BodyOk n (.tuple [.str "muster", .str x, .int i, .str s, .str r]) := fun K hK => by
  unfold q_is_body
  walk_at "k"
  rw [five_is]
  walk_at "k"
  unfold q_is_muster
  walk_at "q"
  refine is_name_t hx _ ?_
  walk_at "q"
  refine hour_in i0 i1 _ ?_
  walk_at "q"
  by_cases z : s = Str.ofString ""
  · rw [decide_eq_true z]
    walk_at "q"
    exact is_name_t hr _ hK
  · rw [decide_eq_false z]
    walk_at "q"
    refine is_name_t (hs.resolve_left z) _ ?_
    walk_at "q"
    exact is_name_t hr _ hK
theorem body_scheme {n i : Int} {es rs : List PyData} (i0 : 0 ≤ i) (i1 : i ≤ 100000) (h : Sch es rs) : BodyOk n (.tuple [.str "scheme", .int i, .tuple [.tuple es, .tuple rs]]) := fun K hK => by
  unfold q_is_body
  walk_at "k"
  rw [three_is]
  walk_at "k"
  refine hour_in i0 i1 _ ?_
  walk_at "q"
  refine is_scheme_q _ h.sm (by omega) _ ?_
  rw [h.ok]
  exact hK
theorem body_taking {n a b c : Int} {x y : Str} (hx : goodN x = true) (hy : goodN y = true) (a0 : 0 ≤ a) (ab : a ≤ b) (b1 : b ≤ 100000) (c0 : 0 ≤ c) (c1 : c ≤ 100000) : BodyOk n (.tuple [.str "taking", .str x, .str y, .int a, .int b, .int c]) := fun K hK => by
  unfold q_is_body
  walk_at "k"
  rw [six_is]
  walk_at "k"
  unfold q_is_taking
  walk_at "q"
  refine is_name_t hx _ ?_
  walk_at "q"
  refine is_name_t hy _ ?_
  walk_at "q"
  refine hour_in a0 (by omega) _ ?_
  walk_at "q"
  refine hour_in (by omega) b1 _ ?_
  walk_at "q"
  rw [decide_eq_true ab]
  walk_at "q"
  rw [is_within_q, within_t c0 c1]
  exact hK
theorem body_sale {n g c r h b p q : Int} {x : Str} (hx : goodN x = true) (s : Sale g c r h b p q) : BodyOk n (.tuple [.str "sale", .str x, .int g, .int c, .int r, .int h, .int b, .tuple [.int p, .int q]]) := fun K hK => by
  unfold q_is_body
  walk_at "k"
  rw [eight_is]
  walk_at "k"
  refine is_name_t hx _ ?_
  walk_at "q"
  exact is_sale_q s _ hK
/-- the kinds of bodies -/
inductive Bd where
  | log (x : Str) (rs : List Rw)
  | muster (m : Str) (h : Int) (s r : Str)
  | scheme (h : Int) (es rs : List PyData)
  | taking (x s : Str) (lo hi ml : Int)
  | sale (x : Str) (g c r h b p q : Int)
  | had (m x : Str) (n : Int)
  | strike (t : Int)
  | finding (s : Str) (n : Int)
def bdD : Bd → PyData
  | .log x rs => .tuple [.str "log", .str x, logD rs]
  | .muster m h s r => .tuple [.str "muster", .str m, .int h, .str s, .str r]
  | .scheme h es rs => .tuple [.str "scheme", .int h, .tuple [.tuple es, .tuple rs]]
  | .taking x s lo hi ml => .tuple [.str "taking", .str x, .str s, .int lo, .int hi, .int ml]
  | .sale x g c r h b p q => .tuple [.str "sale", .str x, .int g, .int c, .int r, .int h, .int b, .tuple [.int p, .int q]]
  | .had m x n => .tuple [.str "had", .str m, .str x, .int n]
  | .strike t => .tuple [.str "strike", .int t]
  | .finding s n => .tuple [.str "finding", .str s, .int n]
def BdOk (n : Int) : Bd → Prop
  | .log x rs => goodN x = true ∧ LogOk rs
  | .muster m h s r => goodN m = true ∧ (s = "" ∨ goodN s = true) ∧ goodN r = true ∧ 0 ≤ h ∧ h ≤ 100000
  | .scheme h es rs => (0 ≤ h ∧ h ≤ 100000) ∧ Sch es rs
  | .taking x s lo hi ml => goodN x = true ∧ goodN s = true ∧ 0 ≤ lo ∧ lo ≤ hi ∧ hi ≤ 100000 ∧ 0 ≤ ml ∧ ml ≤ 100000
  | .sale x g c r h b p q => goodN x = true ∧ Sale g c r h b p q
  | .had m x k => goodN m = true ∧ goodN x = true ∧ 1 ≤ k ∧ k ≤ 1000000000000
  | .strike t => 0 ≤ t ∧ t ≤ n - 1
  | .finding s k => goodN s = true ∧ 0 ≤ k ∧ k ≤ 1000000
/-- a body that may stand on the page n -/
def BdB (n : Int) (d : PyData) : Prop := ∃ b : Bd, d = bdD b ∧ BdOk n b
theorem bdb_log {n : Int} {x : Str} {rs : List Rw} (hx : goodN x = true) (h : LogOk rs) : BdB n (.tuple [.str "log", .str x, logD rs]) := ⟨.log x rs, rfl, hx, h⟩
theorem bdb_finding {n m : Int} {x : Str} (hx : goodN x = true) (m0 : 0 ≤ m) (m1 : m ≤ 1000000) : BdB n (.tuple [.str "finding", .str x, .int m]) := ⟨.finding x m, rfl, hx, m0, m1⟩
theorem bdb_strike {n m : Int} (m0 : 0 ≤ m) (m1 : m ≤ n - 1) : BdB n (.tuple [.str "strike", .int m]) := ⟨.strike m, rfl, m0, m1⟩
theorem bdb_had {n m : Int} {x y : Str} (hx : goodN x = true) (hy : goodN y = true) (m0 : 1 ≤ m) (m1 : m ≤ 1000000000000) : BdB n (.tuple [.str "had", .str x, .str y, .int m]) := ⟨.had x y m, rfl, hx, hy, m0, m1⟩
theorem bdb_muster {n i : Int} {x s r : Str} (hx : goodN x = true) (hs : s = "" ∨ goodN s = true) (hr : goodN r = true) (i0 : 0 ≤ i) (i1 : i ≤ 100000) : BdB n (.tuple [.str "muster", .str x, .int i, .str s, .str r]) := ⟨.muster x i s r, rfl, hx, hs, hr, i0, i1⟩
theorem bdb_scheme {n i : Int} {es rs : List PyData} (i0 : 0 ≤ i) (i1 : i ≤ 100000) (h : Sch es rs) : BdB n (.tuple [.str "scheme", .int i, .tuple [.tuple es, .tuple rs]]) := ⟨.scheme i es rs, rfl, ⟨i0, i1⟩, h⟩
theorem bdb_taking {n a b c : Int} {x y : Str} (hx : goodN x = true) (hy : goodN y = true) (a0 : 0 ≤ a) (ab : a ≤ b) (b1 : b ≤ 100000) (c0 : 0 ≤ c) (c1 : c ≤ 100000) : BdB n (.tuple [.str "taking", .str x, .str y, .int a, .int b, .int c]) := ⟨.taking x y a b c, rfl, hx, hy, a0, ab, b1, c0, c1⟩
theorem bdb_sale {n g c r h b p q : Int} {x : Str} (hx : goodN x = true) (s : Sale g c r h b p q) : BdB n (.tuple [.str "sale", .str x, .int g, .int c, .int r, .int h, .int b, .tuple [.int p, .int q]]) := ⟨.sale x g c r h b p q, rfl, hx, s⟩
theorem BdB.ok {n : Int} {d : PyData} (h : BdB n d) : BodyOk n d := by
  obtain ⟨b, rfl, h⟩ := h
  cases b with
  | log => exact body_log h.1 h.2
  | muster => exact body_muster h.1 h.2.1 h.2.2.1 h.2.2.2.1 h.2.2.2.2
  | scheme => exact body_scheme h.1.1 h.1.2 h.2
  | taking => exact body_taking h.1 h.2.1 h.2.2.1 h.2.2.2.1 h.2.2.2.2.1 h.2.2.2.2.2.1 h.2.2.2.2.2.2
  | sale => exact body_sale h.1 h.2
  | had => exact body_had h.1 h.2.1 h.2.2.1 h.2.2.2
  | strike => exact body_strike h.1 h.2
  | finding => exact body_finding h.1 h.2.1 h.2.2
theorem no_dicts : ∀ {xs : List PyData}, (∀ x ∈ xs, PyData.hasDict x = false) → PyData.hasDictAll xs = false
  | [], _ => rfl
  | x :: xs, h => by rw [PyData.hasDictAll, h x List.mem_cons_self, no_dicts fun y hy => h y (List.mem_cons_of_mem _ hy)]; rfl
theorem BdB.nd {n : Int} {d : PyData} (h : BdB n d) : PyData.hasDict d = false := by
  obtain ⟨b, rfl, h⟩ := h
  cases b with
  | log x rs =>
    have : PyData.hasDictAll (rs.map rowD) = false := no_dicts fun y hy => by
      obtain ⟨r, _, rfl⟩ := List.mem_map.mp hy
      rfl
    show (false || (false || (PyData.hasDictAll (rs.map rowD) || false))) = false
    rw [this]
    rfl
  | scheme i es rs =>
    have e1 : PyData.hasDictAll es = false := no_dicts fun y hy => by
      obtain ⟨i, rfl, _⟩ := h.2.few y hy
      rfl
    have e2 : PyData.hasDictAll rs = false := no_dicts fun y hy => by
      obtain ⟨x, i, rfl, _⟩ := isPr_inv (List.all_eq_true.mp h.2.pr y hy)
      rfl
    show (false || (false || ((PyData.hasDictAll es || (PyData.hasDictAll rs || false)) || false))) = false
    rw [e1, e2]
    rfl
  | muster => rfl
  | taking => rfl
  | sale => rfl
  | had => rfl
  | strike => rfl
  | finding => rfl
theorem not_strike {k : Str} {P : Prop} (h : decide (k = Str.ofString "strike") = false) : k = "strike" → P := fun e => by
  have := of_decide_eq_false h
  exact absurd e this
theorem BdB.sh {n : Int} {d : PyData} (h : BdB n d) : ∃ (k : Str) (rest : List PyData), d = .tuple (.str k :: rest) ∧ (k = "strike" → ∃ t : Int, rest = [.int t] ∧ 0 ≤ t ∧ t ≤ n - 1) := by
  obtain ⟨b, rfl, h⟩ := h
  cases b with
  | strike t => exact ⟨_, _, rfl, fun _ => ⟨t, rfl, h.1, h.2⟩⟩
  | _ => exact ⟨_, _, rfl, not_strike (by decide +kernel)⟩
theorem pick_strs {l : List Str} {k : Int} {P : PyData → Prop} (h0 : 0 ≤ k) (h1 : k < l.length) (h : ∀ x ∈ l, P (.str x)) : pick (l.map .str) k P := pick_mem h0 (by rw [List.length_map]; exact h1) fun d hd => by
  obtain ⟨x, hx, rfl⟩ := List.mem_map.mp hd
  exact h x hx
theorem more_b {xs : List PyData} {ships men ranks prizes : List Str} {nums : List Int} {own : Int} (f : Folk ships men ranks prizes) (hn1 : 1 ≤ nums.length) (hn2 : nums.length ≤ 1000) (hn : ∀ n ∈ nums, 0 ≤ n ∧ n ≤ 1000) (hp : MPot xs) (K : PyData → List PyData → Prop) (h : ∀ d xs', BdB own d → MPot xs' → K d xs') :
    q_law_more xs (folkD ships men ranks prizes) (.list (nums.map .int)) (.int own) K := by
  have s1 := f.s1
  have s4 := f.s4
  have m1 := f.m1
  have m6 := f.m6
  have r3 := f.r3
  have p2 := f.p2
  unfold q_law_more folkD
  walk_at "q"
  refine draw_q hp (by omega) (by omega) _ fun a xs a0 a1 hp => ?_
  walk_at "q"
  refine pick_strs a0 a1 fun ship hship => ?_
  have gs := f.sg ship hship
  refine draw_q hp (by omega) (by omega) _ fun b xs b0 b1 hp => ?_
  walk_at "q"
  refine pick_strs b0 b1 fun man hman => ?_
  have gm := f.mg man hman
  refine draw_q hp (by decide) (by decide) _ fun c xs c0 c1 hp => ?_
  walk_at "q"
  refine ⟨⟨by decide, sz_of (by decide) (by decide)⟩, ?_⟩
  refine pick_strs (by omega) (by omega) fun prize hprize => ?_
  have gp := f.pg prize hprize
  refine draw_q hp (by omega) (by omega) _ fun e xs e0 e1 hp => ?_
  walk_at "q"
  refine pick_mem e0 (by rw [List.length_map]; exact e1) fun d hd => ?_
  obtain ⟨num, hnum, rfl⟩ := List.mem_map.mp hd
  have hnm := hn num hnum
  refine draw_q hp (by decide) (by decide) _ fun way xs w0 w1 hp => ?_
  walk_at "q"
  refine bIf_d (fun _ => ?_) fun _ => ?_
  · refine log_b hp _ fun rs xs hrs _ hp => ?_
    exact h _ _ (bdb_log gs hrs) hp
  refine bIf_d (fun _ => ?_) fun _ => ?_
  · walk_at "q"
    refine ⟨by omega, ?_⟩
    refine draw_q hp (by omega) (by omega) _ fun t xs t0 t1 hp => ?_
    have es : ships.map PyData.str ++ [.str (Str.ofString "")] = (ships ++ [Str.ofString ""]).map .str := by rw [List.map_append]; rfl
    rw [es]
    walk_at "q"
    refine pick_strs t0 (by rw [List.length_append]; simp; omega) fun ab hab => ?_
    have gab : ab = "" ∨ goodN ab = true := by
      rcases List.mem_append.mp hab with z | z
      · exact .inr (f.sg ab z)
      · exact .inl (List.mem_singleton.mp z)
    refine draw_q hp (by decide) (by decide) _ fun t2 xs u0 u1 hp => ?_
    refine draw_q hp (by decide) (by decide) _ fun t3 xs v0 v1 hp => ?_
    walk_at "q"
    refine pick_strs v0 (by omega) fun rk hrk => ?_
    exact h _ _ (bdb_muster gm gab (f.rg rk hrk) u0 (by omega)) hp
  refine bIf_d (fun _ => ?_) fun _ => ?_
  · refine draw_q hp (by decide) (by decide) _ fun t xs t0 t1 hp => ?_
    refine scheme_b r3 f.rn f.rg hp _ fun es rs xs hs hp => ?_
    exact h _ _ (bdb_scheme t0 (by omega) hs) hp
  refine bIf_d (fun _ => ?_) fun _ => ?_
  · refine draw_q hp (by decide) (by decide) _ fun t xs t0 t1 hp => ?_
    refine draw_q hp (by decide) (by decide) _ fun t2 xs u0 u1 hp => ?_
    walk_at "q"
    refine draw_q hp (by decide) (by decide) _ fun t3 xs v0 v1 hp => ?_
    exact h _ _ (bdb_taking gp gs t0 (by omega) (by omega) v0 (by omega)) hp
  refine bIf_d (fun _ => ?_) fun _ => ?_
  · refine sale_b hp _ fun g c r hh b p q xs hs hp => ?_
    unfold saleD
    walk_at "q"
    first
      | exact h _ _ (bdb_sale gp hs) hp
      | exact ⟨by decide, h _ _ (bdb_sale gp hs) hp⟩
  refine bIf_d (fun _ => ?_) fun _ => ?_
  · refine draw_q hp (by decide) (by decide) _ fun t xs t0 t1 hp => ?_
    walk_at "q"
    refine ⟨⟨sz_of (by decide) (by decide), by decide, by decide⟩, ?_⟩
    rw [show (10 : Int) ^ Int.toNat 12 = 1000000000000 by decide]
    refine draw_q hp (by decide) (by decide) _ fun t2 xs u0 u1 hp => ?_
    refine draw_q hp (by decide) (by decide) _ fun t3 xs v0 v1 hp => ?_
    walk_at "q"
    refine ⟨⟨by decide, sz_of (by decide) (by decide)⟩, ?_⟩
    refine pick_mem (by omega) (by simp; omega) fun d hd => ?_
    obtain ⟨v, rfl, v0, v1⟩ : ∃ v : Int, d = .int v ∧ 0 ≤ v ∧ v ≤ 999999999999 := by
      simp only [List.mem_cons, List.not_mem_nil, or_false] at hd
      rcases hd with rfl | rfl <;> exact ⟨_, rfl, by omega, by omega⟩
    walk_at "q"
    exact h _ _ (bdb_had gm gp (by omega) (by omega)) hp
  refine bIf_of (fun z => ?_) fun _ => ?_
  · simp only [Bool.and_eq_true, decide_eq_true_eq] at z
    exact h _ _ (bdb_strike hnm.1 (by omega)) hp
  · exact h _ _ (bdb_finding gs hnm.1 (by omega)) hp
/-- a body that may stand on any page -/
def BdA (d : PyData) : Prop := ∀ n : Int, 0 ≤ n → BdB n d
theorem core_b {xs : List PyData} {ships men ranks prizes : List Str} (f : Folk ships men ranks prizes) (hp : MPot xs) (K : PyData → List PyData → Prop) (h : ∀ ds xs', ds.length ≤ 30 → 1 ≤ ds.length → (∀ d ∈ ds, BdA d) → MPot xs' → K (.list ds) xs') : q_law_core xs (folkD ships men ranks prizes) K := by
  have s1 := f.s1
  have s4 := f.s4
  have m1 := f.m1
  have m6 := f.m6
  have r3 := f.r3
  have p2 := f.p2
  unfold q_law_core folkD
  walk_at "q"
  refine qFor_ind (fun k s => ∃ xs ds, s = (xs, ds) ∧ MPot xs ∧ ds.length ≤ 3 * k ∧ ∀ d ∈ ds, BdA d) ⟨xs, [], rfl, hp, by simp, by simp⟩ (fun k d s nx hd hs hnx => ?_) fun s hs => ?_
  · obtain ⟨xs, ds, rfl, hp, hl, hb⟩ := hs
    rw [List.getElem?_map] at hd
    obtain ⟨ship, hship, rfl⟩ := Option.map_eq_some_iff.mp hd
    have gs := f.sg ship (List.mem_of_getElem? hship)
    have hk := (List.getElem?_eq_some_iff.mp hship).1
    unfold qb_law_core_1
    dsimp only
    refine draw_q hp (by decide) (by decide) _ fun a xs a0 a1 hp => ?_
    walk_at "q"
    refine ⟨by omega, ?_⟩
    refine qLc_each (fun d => BdA d) (fun _ s => MPot s) hp (by rw [range_len]; omega) (fun j d s sk yd hd hs hy => ?_) fun acc s hl2 ha hp => ?_
    · unfold qb_law_core_2
      refine log_b hs _ fun rs xs hrs _ hp => ?_
      exact hy _ _ (fun n _ => (bdb_log gs hrs)) hp
    · rw [range_len] at hl2
      rw [q_ex]
      refine ⟨by omega, hnx _ ⟨s, ds ++ acc, rfl, hp, by rw [List.length_append]; omega, fun d hd => ?_⟩⟩
      rcases List.mem_append.mp hd with z | z
      · exact hb d z
      · exact ha d z
  · obtain ⟨xs, ds, rfl, hp, hl, hb⟩ := hs
    rw [List.length_map] at hl
    walk_at "q"
    refine qFor_ind (fun k s => ∃ xs es, s = (xs, es) ∧ MPot xs ∧ es.length ≤ 12 + k ∧ ∀ d ∈ es, BdA d) ⟨xs, ds, rfl, hp, by omega, hb⟩ (fun k d s nx hd hs hnx => ?_) fun s hs => ?_
    · obtain ⟨xs, es, rfl, hp, hl, hb⟩ := hs
      obtain ⟨x, hx, rfl⟩ := enumD_get hd
      rw [List.getElem?_map] at hx
      obtain ⟨man, hman, rfl⟩ := Option.map_eq_some_iff.mp hx
      have gm := f.mg man (List.mem_of_getElem? hman)
      have hk := (List.getElem?_eq_some_iff.mp hman).1
      unfold qb_law_core_3
      rw [show 0 + k = k by omega]
      walk_at "q"
      refine pick_strs (Int.le_refl _) (by omega) fun sh0 hsh0 => ?_
      walk_at "q"
      have es2 : PyData.str sh0 :: (ships.map PyData.str ++ [.str (Str.ofString "")]) = (sh0 :: (ships ++ [Str.ofString ""])).map .str := by rw [List.map_cons, List.map_append]; rfl
      refine ⟨by omega, by omega, ?_⟩
      refine draw_q hp (by omega) (by omega) _ fun a xs a0 a1 hp => ?_
      walk_at "q"
      refine ⟨⟨sz_of (by omega) (by omega), ?_⟩, ?_⟩
      · split <;> exact sz_of (by decide) (by decide)
      rw [es2]
      refine pick_strs (by split <;> omega) (by simp only [List.length_cons, List.length_append, List.length_nil]; split <;> omega) fun sh hsh => ?_
      have gsh : sh = "" ∨ goodN sh = true := by
        rcases List.mem_cons.mp hsh with rfl | z
        · exact .inr (f.sg _ hsh0)
        · rcases List.mem_append.mp z with z | z
          · exact .inr (f.sg sh z)
          · exact .inl (List.mem_singleton.mp z)
      refine draw_q hp (by decide) (by decide) _ fun b xs b0 b1 hp => ?_
      refine draw_q hp (by decide) (by decide) _ fun c xs c0 c1 hp => ?_
      walk_at "q"
      refine pick_strs c0 (by omega) fun rk hrk => ?_
      refine ⟨by omega, hnx _ ⟨xs, _, rfl, hp, by rw [List.length_append, List.length_singleton]; omega, fun d hd => ?_⟩⟩
      rcases List.mem_append.mp hd with z | z
      · exact hb d z
      · rw [List.mem_singleton.mp z]
        exact fun n _ => (bdb_muster gm gsh (f.rg rk hrk) b0 (by omega))
    · obtain ⟨xs, es, rfl, hp, hl, hb⟩ := hs
      rw [enumD_length, List.length_map] at hl
      dsimp only
      refine draw_q hp (by decide) (by decide) _ fun a xs a0 a1 hp => ?_
      refine scheme_b r3 f.rn f.rg hp _ fun cs rs xs hsch hp => ?_
      refine ⟨by omega, ?_⟩
      refine draw_q hp (by decide) (by decide) _ fun b xs b0 b1 hp => ?_
      walk_at "j"
      refine pick_strs (Int.le_refl _) (by omega) fun pz hpz => ?_
      refine pick_strs (Int.le_refl _) (by omega) fun sh hsh => ?_
      refine draw_q hp (by decide) (by decide) _ fun c xs c0 c1 hp => ?_
      walk_at "j"
      refine draw_q hp (by decide) (by decide) _ fun e xs e0 e1 hp => ?_
      refine ⟨by omega, ?_⟩
      walk_at "j"
      refine pick_strs (Int.le_refl _) (by omega) fun pz2 hpz2 => ?_
      refine sale_b hp _ fun g ch r hh bb p q xs hs hp => ?_
      unfold saleD
      walk_at "j"
      have gz := f.pg pz hpz
      have gz2 := f.pg pz2 hpz2
      have gsh := f.sg sh hsh
      have b1' : BdA (.tuple [.str "scheme", .int a, .tuple [.tuple cs, .tuple rs]]) := fun n _ => (bdb_scheme a0 (by omega) hsch)
      have b2' : BdA (.tuple [.str "taking", .str pz, .str sh, .int (6 + b), .int (6 + b + c), .int e]) := fun n _ => (bdb_taking gz gsh (by omega) (by omega) (by omega) e0 (by omega))
      have b3' : BdA (.tuple [.str "sale", .str pz2, .int g, .int ch, .int r, .int hh, .int bb, .tuple [.int p, .int q]]) := fun n _ => (bdb_sale gz2 hs)
      refine ⟨by decide, by omega, ?_⟩
      refine draw_q hp (by decide) (by decide) _ fun t xs t0 t1 hp => ?_
      walk_at "j"
      generalize hS : PyData.tuple [.str "scheme", .int a, .tuple [.tuple cs, .tuple rs]] = S at b1' ⊢
      generalize hT : PyData.tuple [.str "taking", .str pz, .str sh, .int (6 + b), .int (6 + b + c), .int e] = T at b2' ⊢
      generalize hU : PyData.tuple [.str "sale", .str pz2, .int g, .int ch, .int r, .int hh, .int bb, .tuple [.int p, .int q]] = U at b3' ⊢
      have hall : ∀ d ∈ es ++ [S] ++ [T] ++ [U], BdA d := fun d hd => by
        rcases List.mem_append.mp hd with z | z
        · rcases List.mem_append.mp z with z | z
          · rcases List.mem_append.mp z with z | z
            · exact hb d z
            · rw [List.mem_singleton.mp z]; exact b1'
          · rw [List.mem_singleton.mp z]; exact b2'
        · rw [List.mem_singleton.mp z]; exact b3'
      have hlen : (es ++ [S] ++ [T] ++ [U]).length = es.length + 3 := by simp
      generalize es ++ [S] ++ [T] ++ [U] = W at hall hlen ⊢
      refine bIf_d (fun _ => ?_) fun _ => ?_
      · refine draw_q hp (by omega) (by omega) _ fun u xs u0 u1 hp => ?_
        have hu : u.toNat < W.length := by omega
        refine popQ_b u0 (by omega) (by omega) (List.getElem?_eq_getElem hu) ?_
        have he : (W.eraseIdx u.toNat).length = W.length - 1 := List.length_eraseIdx_of_lt hu
        exact h _ _ (by omega) (by omega) (fun d hd => hall d (List.mem_of_mem_eraseIdx hd)) hp
      · exact h _ _ (by omega) (by omega) hall hp
structure Pg where
  day : Int
  n : Int
  body : PyData
def pgD (p : Pg) : PyData := .tuple [.int p.day, .int p.n, p.body]
structure PgOk (p : Pg) : Prop where
  d0 : 0 ≤ p.day
  d1 : p.day ≤ 1000000
  n0 : 0 ≤ p.n
  n1 : p.n ≤ 1000
  bd : BdB p.n p.body
/-- pages whose numbers rise, all below m -/
def PgsUp (m : Int) (ps : List Pg) : Prop := (∀ p ∈ ps, PgOk p ∧ p.n < m) ∧ ps.Pairwise fun a b => a.n < b.n
theorem PgsUp.mono {m m' : Int} {ps : List Pg} (h : PgsUp m ps) (e : m ≤ m') : PgsUp m' ps := ⟨fun p hp => ⟨(h.1 p hp).1, by have := (h.1 p hp).2; omega⟩, h.2⟩
theorem PgsUp.push {m : Int} {ps : List Pg} (h : PgsUp m ps) {p : Pg} (hp : PgOk p) (hn : p.n = m) {m' : Int} (hm : m < m') : PgsUp m' (ps ++ [p]) := by
  refine ⟨fun q hq => ?_, List.pairwise_append.mpr ⟨h.2, List.pairwise_singleton _ _, fun a ha b hb => ?_⟩⟩
  · rcases List.mem_append.mp hq with z | z
    · exact ⟨(h.1 q z).1, by have := (h.1 q z).2; omega⟩
    · rw [List.mem_singleton.mp z]
      exact ⟨hp, by omega⟩
  · rw [List.mem_singleton.mp hb]
    have := (h.1 a ha).2
    omega
def numB (d : PyData) : PyData := match d with
  | .tuple [_, n, _] => n
  | d => d
theorem book_b {xs : List PyData} {ships men ranks prizes : List Str} (f : Folk ships men ranks prizes) {most : Int} (m0 : 0 ≤ most) (m1 : most ≤ 20) (hp : MPot xs) (K : PyData → List PyData → Prop) (h : ∀ (ps : List Pg) (es : List PyData) (xs' : List PyData), (ps.length : Int) ≤ 30 + most → 1 ≤ ps.length → PgsUp 200 ps → es.Perm (ps.map pgD) → MPot xs' → K (.tuple es) xs') : q_law_book xs (folkD ships men ranks prizes) (.int most) K := by
  unfold q_law_book
  walk_at "q"
  refine ⟨⟨sz_of (by decide) (by decide), by decide, by decide⟩, ?_⟩
  rw [show (10 : Int) ^ Int.toNat 6 = 1000000 by decide]
  refine draw_q hp (by decide) (by decide) _ fun a xs a0 a1 hp => ?_
  walk_at "q"
  refine pick_mem a0 (by simpa using a1) fun d hd => ?_
  obtain ⟨far, rfl, f0, f1⟩ : ∃ far : Int, d = .int far ∧ 0 < far ∧ far ≤ 1000001 := by
    simp only [List.mem_cons, List.not_mem_nil, or_false] at hd
    rcases hd with rfl | rfl | rfl | rfl <;> exact ⟨_, rfl, by decide, by decide⟩
  refine draw_q hp (by decide) (by decide) _ fun nb xs n0 n1 hp => ?_
  refine core_b f hp _ fun ds xs dl dl1 db hp => ?_
  walk_at "q"
  refine qFor_ind (fun k s => ∃ (xs : List PyData) (ps : List Pg) (m : Int), s = (xs, ps.map pgD, .int m) ∧ MPot xs ∧ ps.length = k ∧ 0 ≤ m ∧ m ≤ 3 + 3 * (k : Int) ∧ PgsUp m ps) ⟨xs, [], nb, rfl, hp, rfl, n0, by omega, by simp, List.Pairwise.nil⟩ (fun k d s nx hd hs hnx => ?_) fun s hs => ?_
  · obtain ⟨xs, ps, m, rfl, hp, hl, mm0, mm1, up⟩ := hs
    have hk := (List.getElem?_eq_some_iff.mp hd).1
    have hbd := db d (List.mem_of_getElem? hd) m mm0
    unfold qb_law_book_1
    dsimp only
    refine draw_q hp f0 (by omega) _ fun b xs b0 b1 hp => ?_
    walk_at "q"
    refine ⟨by omega, ?_⟩
    refine draw_q hp (by decide) (by decide) _ fun c xs c0 c1 hp => ?_
    walk_at "q"
    refine hnx _ ⟨xs, ps ++ [⟨b, m, d⟩], m + 1 + c, by rw [List.map_append]; rfl, hp, (by rw [List.length_append, hl]; rfl), by omega, by omega, up.push (p := ⟨b, m, d⟩) ⟨b0, (by show b ≤ 1000000; omega), mm0, (by show m ≤ 1000; omega), hbd⟩ rfl (by omega)⟩
  · obtain ⟨xs, ps, m, rfl, hp, hl, mm0, mm1, up⟩ := hs
    walk_at "q"
    refine draw_q hp (by omega) (by omega) _ fun t xs t0 t1 hp => ?_
    walk_at "q"
    refine ⟨by omega, ?_⟩
    refine qFor_range (fun k s => ∃ (xs : List PyData) (ps : List Pg) (m : Int), s = (xs, ps.map pgD, .int m) ∧ MPot xs ∧ (1 ≤ ps.length ∧ ps.length ≤ 30 + k) ∧ 0 ≤ m ∧ m ≤ 93 + 3 * (k : Int) ∧ PgsUp m ps) ⟨xs, ps, m, rfl, hp, ⟨by omega, by omega⟩, mm0, by omega, up⟩ (fun k s nx hk hs hnx => ?_) fun s hs => ?_
    · obtain ⟨xs, ps, m, rfl, hp, hl, mm0, mm1, up⟩ := hs
      unfold qb_law_book_2
      walk_at "q"
      refine qLc_map numB (by rw [List.length_map]; omega) (fun d hd sk yd hy => ?_) ?_
      · obtain ⟨p, hp, rfl⟩ := List.mem_map.mp hd
        unfold qb_law_book_3 pgD
        walk_at "q"
        exact hy
      · have e : (ps.map pgD).map numB = (ps.map (·.n)).map .int := by
          rw [List.map_map, List.map_map]
          rfl
        rw [e]
        refine ⟨List.all_eq_true.mpr fun d hd => (by obtain ⟨x, _, rfl⟩ := List.mem_map.mp hd; rfl), ?_⟩
        walk_at "q"
        have e2 : (ps.map (·.n)).map PyData.int ++ [.int (m + 1)] = (ps.map (·.n) ++ [m + 1]).map .int := by rw [List.map_append]; rfl
        refine ⟨by omega, ?_⟩
        rw [e2]
        refine draw_q hp f0 (by omega) _ fun b xs b0 b1 hp => ?_
        refine more_b f (by simp) (by rw [List.length_append, List.length_map]; simp; omega) (fun n hn => ?_) hp _ fun d xs hd hp => ?_
        · rcases List.mem_append.mp hn with z | z
          · obtain ⟨p, hp, rfl⟩ := List.mem_map.mp z
            exact ⟨(up.1 p hp).1.n0, (up.1 p hp).1.n1⟩
          · rw [List.mem_singleton.mp z]
            omega
        · walk_at "q"
          refine ⟨by omega, ?_⟩
          refine draw_q hp (by decide) (by decide) _ fun c xs c0 c1 hp => ?_
          walk_at "q"
          refine hnx _ ⟨xs, ps ++ [⟨b, m, d⟩], m + 1 + c, by rw [List.map_append]; rfl, hp, (by rw [List.length_append, List.length_singleton]; omega), by omega, by omega, up.push (p := ⟨b, m, d⟩) ⟨b0, by show b ≤ 1000000; omega, mm0, by show m ≤ 1000; omega, hd⟩ rfl (by omega)⟩
    · obtain ⟨xs, ps, m, rfl, hp, hl, mm0, mm1, up⟩ := hs
      dsimp only
      refine shuffled_b (.inl rfl) (by rw [List.length_map]; omega) hp _ fun es xs pm hp => ?_
      exact h ps es xs (by omega) (by omega) ⟨fun p hp => ⟨(up.1 p hp).1, by have := (up.1 p hp).2; omega⟩, up.2⟩ pm hp
theorem sort_ok_intsB (l : List Int) : sortOk (l.map .int) := by
  refine ⟨PySem.W.AllAlike.of fun a b => by simp [PySem.W.alike], .inr fun d hd => ?_, fun d hd => ?_, ?_⟩
  · obtain ⟨p, _, rfl⟩ := List.mem_map.mp hd
    exact ⟨nofun, fun _ => nofun⟩
  · obtain ⟨p, _, rfl⟩ := List.mem_map.mp hd
    simp [PyData.depth]
  · induction l with
    | nil => rfl
    | cons a l ih => rw [List.map_cons, PyData.hasDictAll, ih]; rfl
theorem pick_ints {l : List Int} {k : Int} {P : PyData → Prop} (h0 : 0 ≤ k) (h1 : k < l.length) (h : ∀ x ∈ l, P (.int x)) : pick (l.map .int) k P := pick_mem h0 (by rw [List.length_map]; exact h1) fun d hd => by
  obtain ⟨x, hx, rfl⟩ := List.mem_map.mp hd
  exact h x hx
theorem q_maxLB {ns : List Int} {P : PyData → Prop} : nMaxL [.list (ns.map .int)] P = (0 < ns.length ∧ ∀ m, m ∈ ns → (∀ a ∈ ns, a ≤ m) → P (.int m)) := by
  show maxQ (intsD (ns.map .int)) P = _
  rw [DL.ints_map]
  rfl
theorem day_b {xs : List PyData} {qs : List Pg} (hl : qs.length ≤ 60) (hd : ∀ p ∈ qs, 0 ≤ p.day ∧ p.day ≤ 1000000) (hp : MPot xs) (K : PyData → List PyData → Prop) (h : ∀ (t : Int) (xs' : List PyData), 0 ≤ t → t ≤ 1000000 → MPot xs' → K (.int t) xs') : q_law_day xs (.tuple (qs.map pgD)) K := by
  unfold q_law_day
  walk_at "q"
  refine qLc_map (fun d => match d with | .tuple (n :: _) => n | d => d) (by rw [List.length_map]; omega) (fun d hd sk yd hy => ?_) ?_
  · obtain ⟨p, hp, rfl⟩ := List.mem_map.mp hd
    unfold qb_law_day_1 pgD
    walk_at "q"
    exact hy
  have e : (qs.map pgD).map (fun d => match d with | .tuple (n :: _) => n | d => d) = (qs.map (·.day)).map PyData.int := by
    rw [List.map_map, List.map_map]
    rfl
  rw [e, q_sorted]
  refine ⟨sort_ok_intsB _, ?_⟩
  obtain ⟨os, eo, pm⟩ := map_perm (sortD_perm ((qs.map (·.day)).map PyData.int))
  rw [eo]
  have ol := pm.length_eq
  rw [List.length_map] at ol
  have hos : ∀ x ∈ os ++ [9], 0 ≤ x ∧ x ≤ 1000000 := fun x hx => by
    rcases List.mem_append.mp hx with z | z
    · obtain ⟨p, hp, rfl⟩ := List.mem_map.mp (pm.mem_iff.mp z)
      exact hd p hp
    · rw [List.mem_singleton.mp z]
      exact ⟨by decide, by decide⟩
  have e2 : os.map PyData.int ++ [.int 9] = (os ++ [9]).map .int := by rw [List.map_append]; rfl
  have el : (os ++ [9]).length = os.length + 1 := by simp
  walk_at "q"
  refine ⟨by omega, ?_⟩
  rw [e2]
  generalize os ++ [9] = W at hos el ⊢
  refine draw_q hp (by omega) (by omega) _ fun a xs a0 a1 hp => ?_
  walk_at "q"
  refine pick_ints a0 (by omega) fun u hu => ?_
  have hu := hos u hu
  rw [q_maxLB]
  refine ⟨by omega, fun w hw _ => ?_⟩
  have hw := hos w hw
  walk_at "q"
  refine draw_q hp (by decide) (by decide) _ fun b xs b0 b1 hp => ?_
  walk_at "q"
  refine ⟨⟨sz_of (by decide) (by decide), by decide, by decide⟩, ?_⟩
  rw [show (10 : Int) ^ Int.toNat 6 = 1000000 by decide]
  refine draw_q hp (by decide) (by decide) _ fun c xs c0 c1 hp => ?_
  walk_at "q"
  refine pick_mem c0 (by simpa using c1) fun d hd => ?_
  simp only [List.mem_cons, List.not_mem_nil, or_false] at hd
  rcases hd with rfl | rfl | rfl | rfl | rfl | rfl
  · exact h _ _ hu.1 hu.2 hp
  · exact h _ _ (by decide) (by decide) hp
  · exact h _ _ hw.1 hw.2 hp
  · have h1 := hu.1
    have h2 := hu.2
    refine h _ _ ?_ ?_ hp
    · split <;> omega
    · split <;> omega
  · exact h _ _ b0 (by omega) hp
  · exact h _ _ (by decide) (by decide) hp
/-- [F x for x in xs if p x], nothing changed -/
theorem qLc_selB {α I S : Type} {b : PyData → I → S → (I → S → Prop) → (PyData → I → S → Prop) → Prop} {xs : List α} {D : α → PyData} {i : I} {s : S} {K : List PyData → S → Prop} (F : α → PyData) (p : α → Bool) (hz : xs.length ≤ 100000)
    (step : ∀ x ∈ xs, ∀ (sk : I → S → Prop) (yd : PyData → I → S → Prop), (p x = true → yd (F x) i s) → (p x = false → sk i s) → b (D x) i s sk yd) (fin : K ((xs.filter p).map F) s) : qLc b i (xs.map D) [] s K :=
  qLc_ind (fun k acc s' => acc = ((xs.take k).filter p).map F ∧ s' = s) ⟨by simp, rfl⟩ (fun k acc s' hk h => by
      rw [h.1, List.length_map]
      have := List.length_filter_le p (xs.take k)
      rw [List.length_map] at hk
      rw [List.length_take] at this
      omega)
    (fun k d acc s' sk yd hd ⟨h1, h2⟩ hs hy => by
      subst h2
      rw [List.getElem?_map] at hd
      obtain ⟨x, ex, rfl⟩ := Option.map_eq_some_iff.mp hd
      have e : xs.take (k + 1) = xs.take k ++ [x] := by rw [List.take_add_one, ex]; rfl
      refine step x (List.mem_of_getElem? ex) sk yd (fun t => hy _ _ ⟨?_, rfl⟩) fun t => hs _ ⟨?_, rfl⟩
      · rw [e, List.filter_append, List.map_append, h1]
        simp [t]
      · rw [e, List.filter_append, List.map_append, h1]
        simp [t]) fun acc s' ⟨h1, h2⟩ => by
      subst h1 h2
      rw [List.length_map, List.take_length]
      exact fin
theorem qLc_all1B {α I S : Type} {b : PyData → I → S → (I → S → Prop) → (PyData → I → S → Prop) → Prop} {xs : List α} {D : α → PyData} {i : I} {s : S} {K : List PyData → S → Prop} (F : α → PyData) (hz : xs.length ≤ 100000)
    (step : ∀ x ∈ xs, ∀ (sk : I → S → Prop) (yd : PyData → I → S → Prop), yd (F x) i s → b (D x) i s sk yd) (fin : K (xs.map F) s) : qLc b i (xs.map D) [] s K :=
  qLc_selB F (fun _ => true) hz (fun x hx sk yd h _ => step x hx sk yd (h rfl)) (by
      have e : xs.filter (fun _ => true) = xs := by simp
      rw [e]
      exact fin)
theorem all_trueB {α : Type} {xs : List α} {P : PyData → Prop} (h : P (.bool true)) : nAll [.list (xs.map fun _ => PyData.bool true)] P := by
  have e : (xs.map fun _ => PyData.bool true) = (xs.map fun _ => PyData.none).map fun d => .bool ((fun _ => true) d) := by rw [List.map_map]; rfl
  rw [e, q_allB, List.all_eq_true.mpr (fun _ _ => rfl)]
  exact h
def kdD (q : List (Int × PyData)) : KVM := q.map fun e => (.int e.1, e.2)
theorem kd_map : ∀ q : List (Int × PyData), isMap (kdD q) = true
  | [] => rfl
  | _ :: _ => rfl
theorem kd_find : ∀ {q : List (Int × PyData)} {p : Int} {v : PyData}, (q.map (·.1)).Nodup → (p, v) ∈ q → atM (kdD q) (Sum.inl p) = some v
  | e :: q, p, v, nd, hm => by
    rw [List.map_cons, List.nodup_cons] at nd
    unfold atM kdD
    rw [List.map_cons, List.find?_cons]
    dsimp only
    rw [isKy_int]
    rcases List.mem_cons.mp hm with h | h
    · subst h
      rw [decide_eq_true rfl]
      rfl
    · rw [decide_eq_false fun z => nd.1 (by rw [z]; exact List.mem_map.mpr ⟨_, h, rfl⟩)]
      exact kd_find nd.2 h
theorem kd_ix {q : List (Int × PyData)} {p : Int} {v : PyData} {P : PyData → Prop} (nd : (q.map (·.1)).Nodup) (hm : (p, v) ∈ q) (h : P v) : oIxM (.dict (kdD q)) (.int p) P := by
  refine ⟨kd_map q, ?_⟩
  show pickM (kdD q) (Sum.inl p) P
  unfold pickM
  rw [kd_find nd hm]
  exact h
theorem kd_some : ∀ {q : List (Int × PyData)} {p : Int}, (atM (kdD q) (Sum.inl p)).isSome = decide (p ∈ q.map (·.1))
  | [], p => rfl
  | e :: q, p => by
    unfold atM kdD
    rw [List.map_cons, List.find?_cons]
    dsimp only
    rw [isKy_int]
    by_cases z : e.1 = p
    · rw [decide_eq_true z, List.map_cons, decide_eq_true (List.mem_cons.mpr (.inl z.symm))]
      rfl
    · rw [decide_eq_false z]
      have ih := kd_some (q := q) (p := p)
      unfold atM kdD at ih
      dsimp only
      rw [ih, List.map_cons]
      refine decide_eq_decide.mpr ?_
      rw [List.mem_cons]
      constructor
      · exact fun h => .inr h
      · rintro (h | h)
        · exact absurd h.symm z
        · exact h
theorem kd_in {n : Bool} {q : List (Int × PyData)} {p : Int} {P : PyData → Prop} (h : P (.bool (decide (p ∈ q.map (·.1)) != n))) : oInM n (.int p) (.dict (kdD q)) P := by
  refine ⟨kd_map q, ?_⟩
  show P (.bool ((atM (kdD q) (Sum.inl p)).isSome != n))
  rw [kd_some]
  exact h
theorem kd_any {q : List (Int × PyData)} {p : Int} : ((kdD q).any fun x => isKy x.1 (Sum.inl p)) = true ↔ p ∈ q.map (·.1) := by
  unfold kdD
  rw [List.any_eq_true]
  constructor
  · rintro ⟨x, hx, hk⟩
    obtain ⟨y, hy, rfl⟩ := List.mem_map.mp hx
    dsimp only at hk
    rw [isKy_int, decide_eq_true_eq] at hk
    exact List.mem_map.mpr ⟨y, hy, hk⟩
  · intro h
    obtain ⟨y, hy, rfl⟩ := List.mem_map.mp h
    exact ⟨_, List.mem_map.mpr ⟨y, hy, rfl⟩, by dsimp only; rw [isKy_int]; exact decide_eq_true rfl⟩
theorem kd_new {q : List (Int × PyData)} {p : Int} {v : PyData} (hm : p ∉ q.map (·.1)) : putM (kdD q) (Sum.inl p) v = kdD (q ++ [(p, v)]) := by
  unfold putM
  rw [if_neg fun z => hm (kd_any.mp z)]
  unfold kdD
  rw [List.map_append]
  rfl
theorem q_itemsMT' {xs : List PyData} {K : List PyData → Prop} : itemsM (.tuple xs) K = K xs := q_itemsT
theorem q_itemsML' {xs : List PyData} {K : List PyData → Prop} : itemsM (.list xs) K = K xs := q_items
theorem q_ixMT' {xs : List PyData} {y : PyData} {P : PyData → Prop} : oIxM (.tuple xs) y P = oIx (.tuple xs) y P := rfl
theorem q_ixML' {xs : List PyData} {y : PyData} {P : PyData → Prop} : oIxM (.list xs) y P = oIx (.list xs) y P := rfl
local macro_rules | `(tactic| walk_at "m") => `(tactic| ((try simp only [q_itemsMT', q_itemsML', q_ixMT', q_ixML']); walk_at "q"))
theorem is_page_t {p : Pg} (h : PgOk p) (K : PyData → Prop) (hK : K (.bool true)) : q_is_page (pgD p) K := by
  obtain ⟨k, rest, hb, _⟩ := h.bd.sh
  have ok := h.bd.ok
  unfold q_is_page pgD
  rw [hb] at ok ⊢
  walk_at "q"
  rw [three_is]
  walk_at "q"
  refine day_in h.d0 h.d1 _ ?_
  walk_at "q"
  refine day_in h.n0 (by have := h.n1; omega) _ ?_
  walk_at "q"
  exact ok K hK
theorem unlikeI_q {ns : List Int} (hl : ns.length < 4000) (nd : ns.Nodup) {P : PyData → Prop} (h : P (.int (ns.length : Nat))) : lenSetIQ (.list (ns.map .int)) P := by
  rw [q_lenSetI]
  refine ⟨hl, fun ms mn mm => ?_⟩
  rw [((List.perm_ext_iff_of_nodup mn nd).mpr mm).length_eq]
  exact h
theorem pages_t {qs : List Pg} (hl : qs.length ≤ 60) (ok : ∀ p ∈ qs, PgOk p) (nd : (qs.map (·.n)).Nodup) (K : PyData → Prop) (hK : K (.bool true)) : q_are_pages (.tuple (qs.map pgD)) K := by
  unfold q_are_pages
  walk_at "q"
  rw [decide_eq_false (show ¬ ((qs.length : Int) > 60) by omega)]
  walk_at "q"
  refine qLc_all1B (fun _ => .bool true) (by omega) (fun p hp sk yd hy => ?_) ?_
  · unfold qb_are_pages_1
    exact is_page_t (ok p hp) _ hy
  refine all_trueB ?_
  walk_at "q"
  refine qLc_all1B (fun p => .int p.n) (by omega) (fun p hp sk yd hy => ?_) ?_
  · unfold qb_are_pages_2 pgD
    walk_at "q"
    exact hy
  have e : qs.map (fun p => PyData.int p.n) = (qs.map (·.n)).map .int := by rw [List.map_map]; rfl
  rw [e]
  refine unlikeI_q (by rw [List.length_map]; omega) nd ?_
  walk_at "q"
  exact hK
theorem need_book_t {qs : List Pg} (hl : qs.length ≤ 60) (ok : ∀ p ∈ qs, PgOk p) (nd : (qs.map (·.n)).Nodup) {t : Int} (t0 : 0 ≤ t) (t1 : t ≤ 1000000) (K : PyData → Prop) (hK : K .none) : q_need_book (.tuple (qs.map pgD)) (.int t) K := by
  unfold q_need_book
  refine pages_t hl ok nd _ ?_
  walk_at "q"
  unfold q_need_day
  refine day_in t0 t1 _ ?_
  walk_at "q"
  exact hK
/-- the number that a page strikes -/
def stkD : PyData → Option Int
  | .tuple [.str k, .int t] => if k = "strike" then some t else none
  | _ => none
def stk (p : Pg) : Option Int := stkD p.body
/-- of pages whose numbers rise those that no later one that counts strikes -/
def stand : List Pg → List Pg
  | [] => []
  | p :: r => if ((stand r).any fun q => decide (stk q = some p.n)) = true then stand r else p :: stand r
theorem stand_sub : ∀ l : List Pg, List.Sublist (stand l) l
  | [] => List.Sublist.refl _
  | p :: r => by
    unfold stand
    split
    · exact (stand_sub r).cons p
    · exact (stand_sub r).cons₂ p
theorem pg_uniq : ∀ {l m : List Pg}, (l.Pairwise fun a b => a.n ≤ b.n) → (m.Pairwise fun a b => a.n < b.n) → l.Perm m → l = m
  | [], m, _, _, p => p.nil_eq
  | a :: l, [], _, _, p => absurd p.symm.nil_eq (by simp)
  | a :: l, b :: m, hl, hm, p => by
    obtain ⟨l1, l2⟩ := List.pairwise_cons.mp hl
    obtain ⟨m1, m2⟩ := List.pairwise_cons.mp hm
    have e : a = b := by
      rcases List.mem_cons.mp (p.mem_iff.mp List.mem_cons_self) with z | z
      · exact z
      · rcases List.mem_cons.mp (p.mem_iff.mpr (List.mem_cons_self (a := b) (l := m))) with y | y
        · exact y.symm
        · have := m1 a z
          have := l1 b y
          omega
    subst e
    rw [pg_uniq l2 m2 (List.Perm.cons_inv p)]
abbrev kbN : Kx := .ix .it 1
theorem keyOf_pg (p : Pg) : keyOf kbN (pgD p) = .int p.n := rfl
theorem sortK_pages (qs : List Pg) (nd : ∀ p ∈ qs, PyData.hasDict (pgD p) = false) : sortKOk kbN (qs.map pgD) := by
  refine ⟨fun d hd => ?_, ?_, ?_, ?_⟩
  · obtain ⟨x, _, rfl⟩ := List.mem_map.mp hd
    exact ⟨_, rfl, rfl, by simp [PyData.depth]⟩
  · rw [List.map_map]
    exact PySem.W.AllAlike.of fun a b => by simp [Function.comp, keyOf_pg, PySem.W.alike]
  · rw [List.map_map]
    exact .inr fun d hd => by
      obtain ⟨p, _, rfl⟩ := List.mem_map.mp hd
      exact ⟨nofun, fun _ => nofun⟩
  · induction qs with
    | nil => rfl
    | cons a l ih => rw [List.map_cons, PyData.hasDictAll, ih fun p hp => nd p (List.mem_cons_of_mem _ hp), nd a List.mem_cons_self]; rfl
theorem sort_pages {qs ks : List Pg} (up : ks.Pairwise fun a b => a.n < b.n) (pm : qs.Perm ks) : sortKD kbN (qs.map pgD) = ks.map pgD := by
  obtain ⟨us, e, p⟩ := map_perm (sortKD_perm kbN (qs.map pgD))
  rw [e]
  have pw : (sortKD kbN (qs.map pgD)).Pairwise fun a b => PySem.W.dataLe false (keyOf kbN) a b = true := PySem.W.sort_pairwise (PySem.W.sortLe_total _ _ _) _
  rw [e, List.pairwise_map] at pw
  rw [pg_uniq (pw.imp fun {a b} h => ?_) up (p.trans pm)]
  have z : PySem.W.dataLe false (keyOf kbN) (pgD a) (pgD b) = !PySem.W.dataLt (keyOf kbN (pgD b)) (keyOf kbN (pgD a)) := rfl
  rw [z, keyOf_pg, keyOf_pg, PySem.W.dataLt_int] at h
  simp at h
  omega
theorem pg_nd {p : Pg} (h : PgOk p) : PyData.hasDict (pgD p) = false := by
  have := h.bd.nd
  show (false || (false || (PyData.hasDict p.body || false))) = false
  rw [this]
  rfl
/-- the pages known by a day -/
def known (t : Int) (ps : List Pg) : List Pg := ps.filter fun p => decide (p.day ≤ t)
def struckD (us : List Int) : KVM := kdD (us.map fun u => (u, PyData.bool true))
theorem struck_keys (us : List Int) : (us.map fun u => (u, PyData.bool true)).map (·.1) = us := by
  rw [List.map_map]
  show us.map (fun u => u) = us
  rw [List.map_id']
theorem struck_put {us : List Int} {t : Int} : putM (struckD us) (Sum.inl t) (.bool true) = struckD (if t ∈ us then us else us ++ [t]) := by
  by_cases z : t ∈ us
  · rw [if_pos z]
    unfold putM struckD
    rw [if_pos (kd_any.mpr (by rw [struck_keys]; exact z))]
    unfold kdD
    rw [List.map_map, List.map_map, List.map_map]
    refine List.map_congr_left fun u _ => ?_
    simp only [Function.comp]
    split <;> rfl
  · rw [if_neg z]
    unfold struckD
    rw [kd_new (by rw [struck_keys]; exact z), List.map_append]
    rfl
theorem stk_of {p : Pg} {k : Str} {rest : List PyData} (hb : p.body = .tuple (.str k :: rest)) (hk : k ≠ "strike") : stk p = none := by
  unfold stk
  rw [hb]
  unfold stkD
  split
  · rename_i e
    injection e with e
    injection e with e _
    injection e with e
    rw [if_neg (by rw [← e]; exact hk)]
  · rfl
theorem stk_at {p : Pg} {t : Int} (hb : p.body = .tuple [.str "strike", .int t]) : stk p = some t := by
  unfold stk
  rw [hb]
  unfold stkD
  exact if_pos rfl
theorem q_pg0 {p : Pg} {P : PyData → Prop} : oIx (pgD p) (.int 0) P = P (.int p.day) := by
  unfold pgD
  rw [q_ix, at0]
theorem q_pg1 {p : Pg} {P : PyData → Prop} : oIx (pgD p) (.int 1) P = P (.int p.n) := by
  unfold pgD
  rw [q_ix, at1]
theorem q_pg2 {p : Pg} {P : PyData → Prop} : oIx (pgD p) (.int 2) P = P p.body := by
  unfold pgD
  rw [q_ix, at2]
theorem standing_t {qs ks : List Pg} {t : Int} (hq : qs.length ≤ 1000) (ok : ∀ p ∈ ks, PgOk p) (up : ks.Pairwise fun a b => a.n < b.n) (pm : (known t qs).Perm ks) (K : PyData → Prop) (hK : K (.list ((stand ks).map pgD))) : q_standing (.tuple (qs.map pgD)) (.int t) K := by
  have hl : ks.length ≤ 1000 := by
    rw [← pm.length_eq]
    have := List.length_filter_le (fun p : Pg => decide (p.day ≤ t)) qs
    unfold known
    omega
  unfold q_standing
  walk_at "q"
  refine qLc_selB pgD (fun p => decide (p.day ≤ t)) (by omega) (fun p hp sk yd hy hs => ?_) ?_
  · unfold qb_standing_1 pgD
    walk_at "q"
    exact bIf_d (fun c => hy (decide_eq_true c)) fun c => hs (decide_eq_false c)
  rw [q_sortedKL]
  refine ⟨sortK_pages _ fun p hp => pg_nd (ok p (pm.mem_iff.mp hp)), ?_⟩
  rw [show sortKD kbN ((qs.filter fun p => decide (p.day ≤ t)).map pgD) = ks.map pgD from sort_pages up pm]
  walk_at "q"
  refine qFor_ind (fun k s => ∃ us : List Int, s = (struckD us, (stand (ks.drop (ks.length - k))).map pgD) ∧ us.length ≤ k ∧ ∀ u, u ∈ us ↔ ∃ q ∈ stand (ks.drop (ks.length - k)), stk q = some u) ⟨[], ?_, Nat.le_refl _, ?_⟩ (fun k d s nx hd hs hnx => ?_) fun s hs => ?_
  · rw [Nat.sub_zero, List.drop_length]
    rfl
  · rw [Nat.sub_zero, List.drop_length]
    intro u
    constructor
    · intro h; cases h
    · rintro ⟨q, hq, _⟩; cases hq
  · obtain ⟨us, rfl, hul, hu⟩ := hs
    have hk : k < ks.length := by
      have := (List.getElem?_eq_some_iff.mp hd).1
      simpa using this
    rw [List.getElem?_reverse (by simpa using hk), List.getElem?_map, List.length_map] at hd
    obtain ⟨p, hp, rfl⟩ := Option.map_eq_some_iff.mp hd
    have hi : ks.length - 1 - k < ks.length := by omega
    have hpk : p ∈ ks := List.mem_of_getElem? hp
    rw [List.getElem?_eq_getElem hi] at hp
    injection hp with hp
    have ed : ks.drop (ks.length - (k + 1)) = p :: ks.drop (ks.length - k) := by
      rw [show ks.length - (k + 1) = ks.length - 1 - k by omega, List.drop_eq_getElem_cons hi, hp, show ks.length - 1 - k + 1 = ks.length - k by omega]
    rw [ed, show ∀ R, stand (p :: R) = if ((stand R).any fun q => decide (stk q = some p.n)) = true then stand R else p :: stand R from fun _ => rfl] at hnx
    have hsl : (stand (ks.drop (ks.length - k))).length ≤ ks.length := by
      have := (stand_sub (ks.drop (ks.length - k))).length_le
      rw [List.length_drop] at this
      omega
    generalize stand (ks.drop (ks.length - k)) = S at hu hsl hnx ⊢
    unfold qb_standing_2
    dsimp only
    rw [q_pg1]
    refine kd_in ?_
    rw [struck_keys]
    walk_at "q"
    by_cases z : p.n ∈ us
    · have ha : (S.any fun q => decide (stk q = some p.n)) = true := by
        obtain ⟨q, hq, e⟩ := (hu p.n).mp z
        exact List.any_eq_true.mpr ⟨q, hq, decide_eq_true e⟩
      rw [if_pos ha] at hnx
      rw [decide_eq_true z]
      walk_at "q"
      exact hnx _ ⟨us, rfl, by omega, hu⟩
    · have ha : ¬ (S.any fun q => decide (stk q = some p.n)) = true := fun h => by
        obtain ⟨q, hq, e⟩ := List.any_eq_true.mp h
        exact z ((hu p.n).mpr ⟨q, hq, of_decide_eq_true e⟩)
      rw [if_neg ha] at hnx
      rw [decide_eq_false z]
      walk_at "q"
      rw [q_ins]
      refine ⟨⟨by rw [List.length_map]; omega, by decide, by decide⟩, ?_⟩
      have ei : (S.map pgD).take (Int.toNat 0) ++ [pgD p] ++ (S.map pgD).drop (Int.toNat 0) = (p :: S).map pgD := by simp
      rw [ei]
      simp only [q_pg2]
      obtain ⟨w, rest, hb, hs⟩ := (ok p hpk).bd.sh
      rw [hb]
      walk_at "q"
      by_cases y : w = "strike"
      · obtain ⟨t, rfl, t0, t1⟩ := hs y
        subst y
        have sp := stk_at hb
        rw [decide_eq_true rfl]
        walk_at "q"
        show (struckD us).length < 100000 ∧ nx () (putM (struckD us) (Sum.inl t) (.bool true), (p :: S).map pgD)
        refine ⟨by unfold struckD kdD; rw [List.length_map, List.length_map]; omega, ?_⟩
        rw [struck_put]
        refine hnx _ ⟨_, rfl, ?_, fun u => ?_⟩
        · split
          · omega
          · rw [List.length_append, List.length_singleton]; omega
        · have hm : u ∈ (if t ∈ us then us else us ++ [t]) ↔ u ∈ us ∨ u = t := by
            split
            · rename_i h
              exact ⟨fun h => .inl h, fun h' => h'.elim (fun x => x) fun x => x ▸ h⟩
            · rw [List.mem_append, List.mem_singleton]
          rw [hm, hu u]
          constructor
          · rintro (⟨q, hq, e⟩ | rfl)
            · exact ⟨q, List.mem_cons_of_mem _ hq, e⟩
            · exact ⟨p, List.mem_cons_self, sp⟩
          · rintro ⟨q, hq, e⟩
            rcases List.mem_cons.mp hq with rfl | hq
            · rw [sp] at e
              injection e with e
              exact .inr e.symm
            · exact .inl ⟨q, hq, e⟩
      · have sp := stk_of hb y
        rw [decide_eq_false y]
        walk_at "q"
        refine hnx _ ⟨us, rfl, by omega, fun u => ?_⟩
        rw [hu u]
        constructor
        · rintro ⟨q, hq, e⟩
          exact ⟨q, List.mem_cons_of_mem _ hq, e⟩
        · rintro ⟨q, hq, e⟩
          rcases List.mem_cons.mp hq with rfl | hq
          · rw [sp] at e; cases e
          · exact ⟨q, hq, e⟩
  · obtain ⟨us, rfl, _, _⟩ := hs
    rw [List.length_reverse, List.length_map, Nat.sub_self, List.drop_zero]
    exact hK
theorem known_perm {qs ps : List Pg} (pm : qs.Perm ps) (t : Int) : (known t qs).Perm (known t ps) := pm.filter _
theorem up_nums {ps : List Pg} (h : ps.Pairwise fun a b => a.n < b.n) : (ps.map (·.n)).Nodup := by
  rw [List.Nodup, List.pairwise_map]
  exact h.imp fun h e => by omega
/-- pages of a book in any order -/
structure Bk (ps qs : List Pg) : Prop where
  up : PgsUp 1000 ps
  few : ps.length ≤ 60
  pm : qs.Perm ps
theorem Bk.okq {ps qs : List Pg} (h : Bk ps qs) : ∀ p ∈ qs, PgOk p := fun p hp => (h.up.1 p (h.pm.mem_iff.mp hp)).1
theorem Bk.fewq {ps qs : List Pg} (h : Bk ps qs) : qs.length ≤ 60 := by rw [h.pm.length_eq]; exact h.few
theorem Bk.ndq {ps qs : List Pg} (h : Bk ps qs) : (qs.map (·.n)).Nodup := (h.pm.map _).nodup_iff.mpr (up_nums h.up.2)
theorem Bk.okk {ps qs : List Pg} (h : Bk ps qs) (t : Int) : ∀ p ∈ known t ps, PgOk p := fun p hp => (h.up.1 p (List.mem_filter.mp hp).1).1
theorem Bk.upk {ps qs : List Pg} (h : Bk ps qs) (t : Int) : (known t ps).Pairwise fun a b => a.n < b.n := h.up.2.filter _
/-- what counts on a day -/
def standP (t : Int) (ps : List Pg) : List Pg := stand (known t ps)
theorem stands_t {ps qs : List Pg} (h : Bk ps qs) {t : Int} (K : PyData → Prop) (hK : K (.list ((standP t ps).map pgD))) : q_standing (.tuple (qs.map pgD)) (.int t) K :=
  standing_t (by have := h.fewq; omega) (h.okk t) (h.upk t) (known_perm h.pm t) _ hK
theorem standP_few {ps qs : List Pg} (h : Bk ps qs) (t : Int) : (standP t ps).length ≤ 60 := by
  have h1 := (stand_sub (known t ps)).length_le
  have h2 := List.length_filter_le (fun p : Pg => decide (p.day ≤ t)) ps
  have h3 := h.few
  unfold standP
  unfold known at h1 ⊢
  omega
theorem book_need {ps qs : List Pg} (h : Bk ps qs) {t : Int} (t0 : 0 ≤ t) (t1 : t ≤ 1000000) (K : PyData → Prop) (hK : K .none) : q_need_book (.tuple (qs.map pgD)) (.int t) K := need_book_t h.fewq h.okq h.ndq t0 t1 _ hK
def standN (t : Int) (ps : List Pg) : List Int := (standP t ps).map (·.n)
theorem alike_each : ∀ {xs : List PyData}, (∀ x ∈ xs, PySem.W.alike x x = true) → PySem.W.alikeAll xs xs = true
  | [], _ => rfl
  | x :: xs, h => by
    rw [PySem.W.alikeAll, h x List.mem_cons_self, alike_each fun y hy => h y (List.mem_cons_of_mem _ hy)]
    rfl
theorem depth_each {n : Nat} : ∀ {xs : List PyData}, (∀ x ∈ xs, PyData.depth x ≤ n) → PyData.depthAll xs ≤ n
  | [], _ => by simp [PyData.depthAll]
  | x :: xs, h => by
    rw [PyData.depthAll]
    have := h x List.mem_cons_self
    have := depth_each fun y hy => h y (List.mem_cons_of_mem _ hy)
    omega
theorem depth_tup {n : Nat} {xs : List PyData} (h : ∀ x ∈ xs, PyData.depth x ≤ n) : PyData.depth (.tuple xs) ≤ n + 1 := by
  have := depth_each h
  rw [PyData.depth]
  omega
theorem alike_tup {xs : List PyData} (h : ∀ x ∈ xs, PySem.W.alike x x = true) : PySem.W.alike (.tuple xs) (.tuple xs) = true := by
  rw [PySem.W.alike]
  exact alike_each h
theorem alike_i {n : Int} : PySem.W.alike (.int n) (.int n) = true := by simp [PySem.W.alike]
theorem alike_s {x : Str} : PySem.W.alike (.str x) (.str x) = true := by simp [PySem.W.alike]
/-- fine for sorting -/
def Fine (n : Nat) (d : PyData) : Prop := PySem.W.alike d d = true ∧ PyData.depth d ≤ n
theorem Fine.i {k : Nat} {n : Int} : Fine k (.int n) := ⟨alike_i, by rw [PyData.depth]; omega⟩
theorem Fine.s {k : Nat} {x : Str} : Fine k (.str x) := ⟨alike_s, by rw [PyData.depth]; omega⟩
theorem Fine.tup {k : Nat} {xs : List PyData} (h : ∀ x ∈ xs, Fine k x) : Fine (k + 1) (.tuple xs) := ⟨alike_tup fun x hx => (h x hx).1, depth_tup fun x hx => (h x hx).2⟩
theorem Fine.nil {k : Nat} : ∀ x ∈ ([] : List PyData), Fine k x := fun _ h => by cases h
theorem Fine.cons {k : Nat} {x : PyData} {xs : List PyData} (h : Fine k x) (t : ∀ x ∈ xs, Fine k x) : ∀ y ∈ x :: xs, Fine k y := fun y hy => (List.mem_cons.mp hy).elim (fun e => e ▸ h) (t y)
theorem BdB.fine {n : Int} {d : PyData} (h : BdB n d) : Fine 4 d := by
  obtain ⟨b, rfl, h⟩ := h
  cases b with
  | log x rs => exact .tup (.cons .s (.cons .s (.cons (.tup fun y hy => by
      obtain ⟨r, _, rfl⟩ := List.mem_map.mp hy
      exact .tup (.cons .i (.cons .i (.cons .i .nil)))) .nil)))
  | scheme i es rs => exact .tup (.cons .s (.cons .i (.cons (.tup (.cons (.tup fun y hy => by
      obtain ⟨i, rfl, _⟩ := h.2.few y hy
      exact .i) (.cons (.tup fun y hy => by
      obtain ⟨x, i, rfl, _⟩ := isPr_inv (List.all_eq_true.mp h.2.pr y hy)
      exact .tup (.cons .s (.cons .i .nil))) .nil))) .nil)))
  | muster => exact .tup (.cons .s (.cons .s (.cons .i (.cons .s (.cons .s .nil)))))
  | taking => exact .tup (.cons .s (.cons .s (.cons .s (.cons .i (.cons .i (.cons .i .nil))))))
  | sale => exact .tup (.cons .s (.cons .s (.cons .i (.cons .i (.cons .i (.cons .i (.cons .i (.cons (.tup (.cons .i (.cons .i .nil))) .nil))))))))
  | had => exact .tup (.cons .s (.cons .s (.cons .s (.cons .i .nil))))
  | strike => exact .tup (.cons .s (.cons .i .nil))
  | finding => exact .tup (.cons .s (.cons .s (.cons .i .nil)))
/-- a page behind its number -/
def prP (p : Pg) : PyData := .tuple [.int p.n, pgD p]
theorem pg_fine {p : Pg} (h : PgOk p) : Fine 6 (prP p) := .tup (.cons .i (.cons (.tup (.cons .i (.cons .i (.cons h.bd.fine .nil)))) .nil))
theorem same_num {ps : List Pg} (nd : (ps.map (·.n)).Nodup) {p q : Pg} (hp : p ∈ ps) (hq : q ∈ ps) (e : p.n = q.n) : p = q := by
  obtain ⟨i, hi, rfl⟩ := List.getElem_of_mem hp
  obtain ⟨j, hj, rfl⟩ := List.getElem_of_mem hq
  have := (List.getElem_inj nd (i := i) (j := j) (h₀ := by rw [List.length_map]; exact hi) (h₁ := by rw [List.length_map]; exact hj)).mp (by rw [List.getElem_map, List.getElem_map]; exact e)
  subst this
  rfl
theorem sortN_pages {qs : List Pg} (ok : ∀ p ∈ qs, PgOk p) (nd : (qs.map (·.n)).Nodup) : sortNOk (qs.map prP) := by
  refine ⟨fun d hd d' hd' => ?_, fun d hd => ?_, fun d hd => ?_, no_dicts fun d hd => ?_⟩
  · obtain ⟨p, hp, rfl⟩ := List.mem_map.mp hd
    obtain ⟨q, hq, rfl⟩ := List.mem_map.mp hd'
    by_cases e : p.n = q.n
    · rw [same_num nd hp hq e]
      exact .inl (pg_fine (ok q hq)).1
    · exact .inr ⟨_, _, _, _, rfl, rfl, e⟩
  · obtain ⟨p, _, rfl⟩ := List.mem_map.mp hd
    exact ⟨_, _, rfl⟩
  · obtain ⟨p, hp, rfl⟩ := List.mem_map.mp hd
    have := (pg_fine (ok p hp)).2
    omega
  · obtain ⟨p, hp, rfl⟩ := List.mem_map.mp hd
    show (false || (PyData.hasDict (pgD p) || false)) = false
    rw [pg_nd (ok p hp)]
    rfl
theorem sort_down {ps qs : List Pg} (up : ps.Pairwise fun a b => a.n < b.n) (pm : qs.Perm ps) : sortRD true (qs.map prP) = ps.reverse.map prP := by
  obtain ⟨us, e, p⟩ := map_perm (sortRD_perm true (qs.map prP))
  rw [e]
  have pw := sortRD_pair true (qs.map prP)
  rw [e, List.pairwise_map] at pw
  have nd : (us.map (·.n)).Nodup := ((p.trans pm).map _).nodup_iff.mpr (up_nums up)
  rw [List.Nodup, List.pairwise_map] at nd
  have z : us.Pairwise fun a b => b.n ≤ a.n := (pw.and nd).imp fun {a b} ⟨h, ne⟩ => by
    have w : PySem.W.dataLe true id (prP a) (prP b) = !PySem.W.dataLt (prP a) (prP b) := rfl
    rw [w, prP, prP, lt_num ne] at h
    simp at h
    omega
  have y : us.reverse.Pairwise fun a b => a.n ≤ b.n := List.pairwise_reverse.mpr z
  rw [← pg_uniq y up ((List.reverse_perm us).trans (p.trans pm)), List.reverse_reverse]
theorem kd_put {q : List (Int × PyData)} {t : Int} {v : PyData} : ∃ q', putM (kdD q) (Sum.inl t) v = kdD q' ∧ q'.length ≤ q.length + 1 ∧ ∀ u, u ∈ q'.map (·.1) ↔ u ∈ q.map (·.1) ∨ u = t := by
  by_cases z : t ∈ q.map (·.1)
  · refine ⟨q.map fun e => if e.1 = t then (e.1, v) else e, ?_, by rw [List.length_map]; omega, fun u => ?_⟩
    · unfold putM
      rw [if_pos (kd_any.mpr z)]
      unfold kdD
      rw [List.map_map, List.map_map]
      refine List.map_congr_left fun e _ => ?_
      simp only [Function.comp]
      rw [isKy_int]
      by_cases y : e.1 = t
      · rw [if_pos (decide_eq_true y), if_pos y]
      · rw [if_neg (by rw [decide_eq_false y]; decide), if_neg y]
    · have : (q.map fun e => if e.1 = t then (e.1, v) else e).map (·.1) = q.map (·.1) := by
        rw [List.map_map]
        refine List.map_congr_left fun e _ => ?_
        simp only [Function.comp]
        split <;> rfl
      rw [this]
      exact ⟨fun h => .inl h, fun h => h.elim id fun e => e ▸ z⟩
  · refine ⟨q ++ [(t, v)], kd_new z, by simp, fun u => ?_⟩
    rw [List.map_append, List.mem_append]
    simp
theorem sort_ints_up {us ns : List Int} (up : ns.Pairwise (· < ·)) (pm : us.Perm ns) : sortD (us.map .int) = ns.map .int := by
  obtain ⟨os, e, p⟩ := map_perm (sortD_perm (us.map PyData.int))
  rw [e]
  have pw := sortD_pair (us.map PyData.int)
  rw [e, List.pairwise_map] at pw
  have nd : os.Nodup := (p.trans pm).nodup_iff.mpr (up.imp fun h => by omega)
  have z : os.Pairwise (· < ·) := (pw.and nd).imp fun {a b} ⟨h, ne⟩ => by
    have w : PySem.W.dataLe false id (PyData.int a) (PyData.int b) = !PySem.W.dataLt (.int b) (.int a) := rfl
    rw [w, PySem.W.dataLt_int] at h
    simp at h
    omega
  rw [rise_uniq z up fun k => (p.trans pm).mem_iff]
theorem law_stand_t {ps qs : List Pg} (h : Bk ps qs) {t : Int} (K : PyData → Prop) (hK : K (.list ((standP t ps).map pgD))) : q_law_stand (.tuple (qs.map pgD)) (.int t) K := by
  have fq := h.fewq
  have fp := h.few
  have up := h.up.2
  have sup : (standN t ps).Pairwise (· < ·) := by
    unfold standN
    rw [List.pairwise_map]
    exact (h.upk t).sublist (stand_sub _)
  unfold q_law_stand
  walk_at "m"
  refine qLc_all1B (xs := qs) (D := pgD) prP (by omega) (fun p hp sk yd hy => ?_) ?_
  · unfold qb_law_stand_1
    rw [q_pg1]
    exact hy
  rw [q_sortedN]
  refine ⟨sortN_pages h.okq h.ndq, ?_⟩
  rw [sort_down up h.pm]
  walk_at "m"
  refine qFor_ind (fun k s => ∃ w : List (Int × PyData), s = (kdD ((stand (known t (ps.drop (ps.length - k)))).reverse.map fun p => (p.n, pgD p)), kdD w) ∧ w.length ≤ k ∧ ∀ u, u ∈ w.map (·.1) ↔ ∃ q ∈ stand (known t (ps.drop (ps.length - k))), stk q = some u) ⟨[], ?_, Nat.le_refl _, ?_⟩ (fun k d s nx hd hs hnx => ?_) fun s hs => ?_
  · rw [Nat.sub_zero, List.drop_length]
    rfl
  · rw [Nat.sub_zero, List.drop_length]
    intro u
    constructor
    · intro h; cases h
    · rintro ⟨q, hq, _⟩; cases hq
  · obtain ⟨w, rfl, hwl, hw⟩ := hs
    have hk : k < ps.length := by
      have := (List.getElem?_eq_some_iff.mp hd).1
      simpa using this
    rw [List.getElem?_map, List.getElem?_reverse hk] at hd
    obtain ⟨p, hp, rfl⟩ := Option.map_eq_some_iff.mp hd
    have hi : ps.length - 1 - k < ps.length := by omega
    have hpk : p ∈ ps := List.mem_of_getElem? hp
    have pok := (h.up.1 p hpk).1
    rw [List.getElem?_eq_getElem hi] at hp
    injection hp with hp
    have ed : ps.drop (ps.length - (k + 1)) = p :: ps.drop (ps.length - k) := by
      rw [show ps.length - (k + 1) = ps.length - 1 - k by omega, List.drop_eq_getElem_cons hi, hp, show ps.length - 1 - k + 1 = ps.length - k by omega]
    have abv : ∀ q ∈ known t (ps.drop (ps.length - k)), p.n < q.n := fun q hq => by
      have z : (p :: ps.drop (ps.length - k)).Pairwise fun a b => a.n < b.n := by rw [← ed]; exact up.sublist (List.drop_sublist _ _)
      exact (List.pairwise_cons.mp z).1 q (List.mem_filter.mp hq).1
    have hsl : (stand (known t (ps.drop (ps.length - k)))).length ≤ ps.length := by
      have h1 := (stand_sub (known t (ps.drop (ps.length - k)))).length_le
      have h2 := List.length_filter_le (fun p : Pg => decide (p.day ≤ t)) (ps.drop (ps.length - k))
      rw [List.length_drop] at h2
      unfold known at h1 ⊢
      omega
    have hsub := (stand_sub (known t (ps.drop (ps.length - k)))).subset
    rw [ed, show ∀ R, known t (p :: R) = if decide (p.day ≤ t) = true then p :: known t R else known t R from fun R => by unfold known; rw [List.filter_cons]] at hnx
    generalize known t (ps.drop (ps.length - k)) = R at hw hsl hnx abv hsub ⊢
    unfold qb_law_stand_2 prP
    dsimp only
    walk_at "m"
    rw [q_pg0]
    walk_at "q"
    by_cases y : p.day ≤ t
    · rw [decide_eq_true y, if_pos rfl, show stand (p :: R) = if ((stand R).any fun q => decide (stk q = some p.n)) = true then stand R else p :: stand R from rfl] at hnx
      rw [decide_eq_true y]
      walk_at "q"
      refine kd_in ?_
      walk_at "q"
      by_cases z : p.n ∈ w.map (·.1)
      · have ha : ((stand R).any fun q => decide (stk q = some p.n)) = true := by
          obtain ⟨q, hq, e⟩ := (hw p.n).mp z
          exact List.any_eq_true.mpr ⟨q, hq, decide_eq_true e⟩
        rw [if_pos ha] at hnx
        rw [decide_eq_true z]
        walk_at "q"
        exact hnx _ ⟨w, rfl, by omega, hw⟩
      · have ha : ¬ ((stand R).any fun q => decide (stk q = some p.n)) = true := fun h => by
          obtain ⟨q, hq, e⟩ := List.any_eq_true.mp h
          exact z ((hw p.n).mpr ⟨q, hq, of_decide_eq_true e⟩)
        rw [if_neg ha] at hnx
        rw [decide_eq_false z]
        walk_at "q"
        have fresh : p.n ∉ ((stand R).reverse.map fun p => (p.n, pgD p)).map (·.1) := fun hm => by
          rw [List.map_map] at hm
          obtain ⟨q, hq, e⟩ := List.mem_map.mp hm
          have e : q.n = p.n := e
          have := abv q (hsub (List.mem_reverse.mp hq))
          omega
        show (kdD ((stand R).reverse.map fun p => (p.n, pgD p))).length < 100000 ∧ _
        refine ⟨by unfold kdD; rw [List.length_map, List.length_map, List.length_reverse]; omega, ?_⟩
        rw [kd_new fresh]
        have en : ((stand R).reverse.map fun p => (p.n, pgD p)) ++ [(p.n, pgD p)] = (p :: stand R).reverse.map fun p => (p.n, pgD p) := by rw [List.reverse_cons, List.map_append]; rfl
        rw [en]
        simp only [q_pg2]
        obtain ⟨a, rest, hb, hs⟩ := pok.bd.sh
        rw [hb]
        walk_at "q"
        by_cases x : a = "strike"
        · obtain ⟨u, rfl, _, _⟩ := hs x
          subst x
          have sp := stk_at hb
          rw [decide_eq_true rfl]
          walk_at "q"
          obtain ⟨w', e1, e2, e3⟩ := kd_put (q := w) (t := u) (v := .int p.n)
          show (kdD w).length < 100000 ∧ _
          refine ⟨by unfold kdD; rw [List.length_map]; omega, ?_⟩
          rw [e1]
          refine hnx _ ⟨w', rfl, by omega, fun v => ?_⟩
          rw [e3, hw v]
          constructor
          · rintro (⟨q, hq, e⟩ | rfl)
            · exact ⟨q, List.mem_cons_of_mem _ hq, e⟩
            · exact ⟨p, List.mem_cons_self, sp⟩
          · rintro ⟨q, hq, e⟩
            rcases List.mem_cons.mp hq with rfl | hq
            · rw [sp] at e
              injection e with e
              exact .inr e.symm
            · exact .inl ⟨q, hq, e⟩
        · have sp := stk_of hb x
          rw [decide_eq_false x]
          walk_at "q"
          refine hnx _ ⟨w, rfl, by omega, fun v => ?_⟩
          rw [hw v]
          constructor
          · rintro ⟨q, hq, e⟩
            exact ⟨q, List.mem_cons_of_mem _ hq, e⟩
          · rintro ⟨q, hq, e⟩
            rcases List.mem_cons.mp hq with rfl | hq
            · rw [sp] at e; cases e
            · exact ⟨q, hq, e⟩
    · rw [decide_eq_false y, if_neg (by decide)] at hnx
      rw [decide_eq_false y]
      walk_at "q"
      exact hnx _ ⟨w, rfl, by omega, hw⟩
  · obtain ⟨w, rfl, _, _⟩ := hs
    rw [List.length_map, List.length_reverse, Nat.sub_self, List.drop_zero]
    have ek : (kdD ((stand (known t ps)).reverse.map fun p => (p.n, pgD p))).map (·.1) = (standN t ps).reverse.map .int := by
      unfold kdD standN standP
      rw [List.map_map, List.map_map, ← List.map_reverse, List.map_map]
      rfl
    refine ⟨kd_map _, ?_⟩
    rw [ek, sort_ints_up sup (List.reverse_perm _)]
    refine ⟨sort_ok_intsB _, ?_⟩
    walk_at "m"
    have e2 : (standN t ps).map PyData.int = (standP t ps).map fun p => .int p.n := by unfold standN; rw [List.map_map]; rfl
    rw [e2]
    have nd : (((stand (known t ps)).reverse.map fun p => (p.n, pgD p)).map (·.1)).Nodup := by
      rw [List.map_map]
      exact ((List.reverse_perm (stand (known t ps))).map fun p : Pg => p.n).nodup_iff.mpr (up_nums ((h.upk t).sublist (stand_sub _)))
    refine qLc_all1B (xs := standP t ps) (D := fun p => .int p.n) pgD (by have := standP_few h t; omega) (fun p hp sk yd hy => ?_) ?_
    · unfold qb_law_stand_3
      dsimp only
      exact kd_ix nd (List.mem_map.mpr ⟨p, List.mem_reverse.mpr hp, rfl⟩) hy
    · walk_at "q"
      exact hK
theorem qLc_optB {α I S : Type} {b : PyData → I → S → (I → S → Prop) → (PyData → I → S → Prop) → Prop} {xs : List α} {D : α → PyData} {i : I} {s : S} {K : List PyData → S → Prop} (f : α → Option PyData) (hz : xs.length ≤ 100000)
    (step : ∀ x ∈ xs, ∀ (sk : I → S → Prop) (yd : PyData → I → S → Prop), (∀ y, f x = some y → yd y i s) → (f x = none → sk i s) → b (D x) i s sk yd) (fin : K (xs.filterMap f) s) : qLc b i (xs.map D) [] s K :=
  qLc_ind (fun k acc s' => acc = (xs.take k).filterMap f ∧ s' = s) ⟨by simp, rfl⟩ (fun k acc s' hk h => by
      rw [h.1]
      have := List.length_filterMap_le f (xs.take k)
      rw [List.length_map] at hk
      rw [List.length_take] at this
      omega)
    (fun k d acc s' sk yd hd ⟨h1, h2⟩ hs hy => by
      subst h2
      rw [List.getElem?_map] at hd
      obtain ⟨x, ex, rfl⟩ := Option.map_eq_some_iff.mp hd
      have e : xs.take (k + 1) = xs.take k ++ [x] := by rw [List.take_add_one, ex]; rfl
      refine step x (List.mem_of_getElem? ex) sk yd (fun y hf => hy _ _ ⟨?_, rfl⟩) fun hf => hs _ ⟨?_, rfl⟩
      · rw [e, List.filterMap_append, h1]
        simp [hf]
      · rw [e, List.filterMap_append, h1]
        simp [hf]) fun acc s' ⟨h1, h2⟩ => by
      subst h1 h2
      rw [List.length_map, List.take_length]
      exact fin
theorem sortSet_strs {ts : List Str} (hl : ts.length < 63) {K : List PyData → Prop} (h : ∀ ms : List Str, ms.Pairwise (fun a b => strLt a b = true) → (∀ k, k ∈ ms ↔ k ∈ ts) → K (ms.map .str)) : sortSetT (.list (ts.map .str)) K := by
  cases ts with
  | nil =>
    refine ⟨by decide, fun ms pw hm => ?_⟩
    obtain rfl : ms = [] := by
      cases ms with
      | nil => rfl
      | cons a b => have := (hm a).mp List.mem_cons_self; simp at this
    exact h [] List.Pairwise.nil (by simp)
  | cons n ns =>
    rw [List.map_cons, q_sortSetTS]
    exact ⟨hl, h⟩
theorem shapedT_strs {l : List Str} (h : ∀ x ∈ l, goodN x = true) : SeqAt.shaped (.tuple (l.map .str)) = true := by
  unfold SeqAt.shaped
  rw [PyData.canLay0, canLay_strs h, Bool.true_and, decide_eq_true_eq, PyData.depth]
  have : PyData.depthAll (l.map PyData.str) ≤ 0 := by
    clear h
    induction l with
    | nil => simp [PyData.depthAll]
    | cons x r ih => rw [List.map_cons, PyData.depthAll, PyData.depth]; omega
  omega
theorem eqv_strsB : ∀ r : List Str, PyData.eqvAll (r.map PyData.str) (r.map PyData.str) = true
  | [] => rfl
  | a :: l => by
    rw [List.map_cons, PyData.eqvAll, eqv_strsB l, Bool.and_true, PyData.eqv]
    simp
theorem eqvT_strs (l : List Str) : PyData.eqv (.tuple (l.map .str)) (.tuple (l.map .str)) = true := by
  rw [PyData.eqv]
  exact eqv_strsB l
/-- the name of a taking, a sale -/
def nmTD : PyData → Option Str
  | .tuple [.str _, .str x, .str _, .int _, .int _, .int _] => some x
  | .tuple [.str _, .str x, .int _, .int _, .int _, .int _, .int _, .tuple _] => some x
  | _ => none
def nmHD : PyData → Option Str
  | .tuple [.str _, .str _, .str x, .int _] => some x
  | _ => none
def nmT (p : Pg) : Option Str := nmTD p.body
def nmH (p : Pg) : Option Str := nmHD p.body
def nmP (p : Pg) : Option Str := match nmT p with
  | some x => some x
  | none => nmH p
theorem nm_good {p : Pg} (h : PgOk p) {x : Str} (e : nmP p = some x) : goodN x = true := by
  obtain ⟨b, hb, hbo⟩ := h.bd
  unfold nmP nmT nmH at e
  rw [hb] at e
  cases b with
  | taking a c lo hi ml => cases e; exact hbo.1
  | sale => cases e; exact hbo.1
  | had => cases e; exact hbo.2.1
  | _ => cases e
def isTS : Bd → Bool
  | .taking .. => true
  | .sale .. => true
  | _ => false
def kindS : Bd → Str
  | .log .. => "log"
  | .muster .. => "muster"
  | .scheme .. => "scheme"
  | .taking .. => "taking"
  | .sale .. => "sale"
  | .had .. => "had"
  | .strike .. => "strike"
  | .finding .. => "finding"
theorem kind_at (b : Bd) (P : PyData → Prop) : oIx (bdD b) (.int 0) P = P (.str (kindS b)) := by
  cases b <;> (unfold bdD; rw [q_ix, at0]) <;> rfl
theorem mem_ts (k : Str) (b : Bool) (e : (([PyData.str "taking", .str "sale"].any fun z => PyData.eqv z (.str k)) != false) = b) (hs : SeqAt.shaped (.str k) = true) {P : PyData → Prop} (h : P (.bool b)) : oIn (.str k) (.tuple [.str "taking", .str "sale"]) P := by
  rw [q_inT]
  refine ⟨⟨hs, by decide +kernel⟩, ?_⟩
  rw [memD_raw, e]
  exact h
theorem kind_in (b : Bd) {P : PyData → Prop} (h : P (.bool (isTS b))) : oIn (.str (kindS b)) (.tuple [.str "taking", .str "sale"]) P := by
  cases b with
  | log => exact mem_ts "log" false (by decide +kernel) (by decide +kernel) h
  | muster => exact mem_ts "muster" false (by decide +kernel) (by decide +kernel) h
  | scheme => exact mem_ts "scheme" false (by decide +kernel) (by decide +kernel) h
  | taking => exact mem_ts "taking" true (by decide +kernel) (by decide +kernel) h
  | sale => exact mem_ts "sale" true (by decide +kernel) (by decide +kernel) h
  | had => exact mem_ts "had" false (by decide +kernel) (by decide +kernel) h
  | strike => exact mem_ts "strike" false (by decide +kernel) (by decide +kernel) h
  | finding => exact mem_ts "finding" false (by decide +kernel) (by decide +kernel) h
def isHad : Bd → Bool
  | .had .. => true
  | _ => false
theorem kind_hadD (b : Bd) : decide (kindS b = Str.ofString "had") = isHad b := by
  cases b with
  | log => exact (by decide +kernel : decide (Str.ofString "log" = Str.ofString "had") = false)
  | muster => exact (by decide +kernel : decide (Str.ofString "muster" = Str.ofString "had") = false)
  | scheme => exact (by decide +kernel : decide (Str.ofString "scheme" = Str.ofString "had") = false)
  | taking => exact (by decide +kernel : decide (Str.ofString "taking" = Str.ofString "had") = false)
  | sale => exact (by decide +kernel : decide (Str.ofString "sale" = Str.ofString "had") = false)
  | had => exact (by decide +kernel : decide (Str.ofString "had" = Str.ofString "had") = true)
  | strike => exact (by decide +kernel : decide (Str.ofString "strike" = Str.ofString "had") = false)
  | finding => exact (by decide +kernel : decide (Str.ofString "finding" = Str.ofString "had") = false)
theorem prizes_t {ps qs : List Pg} (h : Bk ps qs) {t : Int} (t0 : 0 ≤ t) (t1 : t ≤ 1000000) (K : PyData → Prop) (hK : ∀ ms : List Str, ms.Pairwise (fun a b => strLt a b = true) → (∀ k, k ∈ ms ↔ k ∈ (standP t ps).filterMap nmP) → K (.tuple (ms.map .str))) : q_prizes_on (.tuple (qs.map pgD)) (.int t) K := by
  have few := standP_few h t
  unfold q_prizes_on
  refine book_need h t0 t1 _ ?_
  refine stands_t h _ ?_
  walk_at "q"
  refine qFor_ind (fun k s => s = (((standP t ps).take k).filterMap nmP).map .str) (by simp) (fun k d s nx hd hs hnx => ?_) fun s hs => ?_
  · subst hs
    rw [List.getElem?_map] at hd
    obtain ⟨p, hp, rfl⟩ := Option.map_eq_some_iff.mp hd
    have hpk := List.mem_of_getElem? hp
    have pok := h.okk t p ((stand_sub _).subset hpk)
    have e : (standP t ps).take (k + 1) = (standP t ps).take k ++ [p] := by rw [List.take_add_one, hp]; rfl
    rw [e, List.filterMap_append] at hnx
    have hl : (((standP t ps).take k).filterMap nmP).length < 100000 := by
      have := List.length_filterMap_le nmP ((standP t ps).take k)
      rw [List.length_take] at this
      omega
    obtain ⟨b, hb, hbo⟩ := pok.bd
    unfold qb_prizes_on_1
    simp only [q_pg2]
    rw [hb]
    simp only [kind_at]
    refine kind_in b ?_
    have nn : nmP p = (match nmTD (bdD b) with | some x => some x | none => nmHD (bdD b)) := by unfold nmP nmT nmH; rw [hb]
    cases b with
    | taking x s lo hi ml =>
      have nn : nmP p = some x := nn
      simp only [isTS]
      walk_at "q"
      unfold bdD
      walk_at "q"
      refine ⟨hl, ?_⟩
      rw [kind_hadD]
      simp only [isHad]
      walk_at "q"
      refine hnx _ ?_
      simp [nn]
    | sale x g c r hh b1 p1 q1 =>
      have nn : nmP p = some x := nn
      simp only [isTS]
      walk_at "q"
      unfold bdD
      walk_at "q"
      refine ⟨hl, ?_⟩
      rw [kind_hadD]
      simp only [isHad]
      walk_at "q"
      refine hnx _ ?_
      simp [nn]
    | had m x n =>
      have nn : nmP p = some x := nn
      simp only [isTS]
      walk_at "q"
      rw [kind_hadD]
      simp only [isHad]
      unfold bdD
      walk_at "q"
      refine ⟨hl, ?_⟩
      refine hnx _ ?_
      simp [nn]
    | log x rs =>
      have nn : nmP p = none := nn
      simp only [isTS]
      walk_at "q"
      rw [kind_hadD]
      simp only [isHad]
      walk_at "q"
      refine hnx _ ?_
      simp [nn]
    | muster a1 a2 a3 a4 =>
      have nn : nmP p = none := nn
      simp only [isTS]
      walk_at "q"
      rw [kind_hadD]
      simp only [isHad]
      walk_at "q"
      refine hnx _ ?_
      simp [nn]
    | scheme a1 a2 a3 =>
      have nn : nmP p = none := nn
      simp only [isTS]
      walk_at "q"
      rw [kind_hadD]
      simp only [isHad]
      walk_at "q"
      refine hnx _ ?_
      simp [nn]
    | strike a1 =>
      have nn : nmP p = none := nn
      simp only [isTS]
      walk_at "q"
      rw [kind_hadD]
      simp only [isHad]
      walk_at "q"
      refine hnx _ ?_
      simp [nn]
    | finding a1 a2 =>
      have nn : nmP p = none := nn
      simp only [isTS]
      walk_at "q"
      rw [kind_hadD]
      simp only [isHad]
      walk_at "q"
      refine hnx _ ?_
      simp [nn]
  · subst hs
    rw [List.length_map, List.take_length]
    have := List.length_filterMap_le nmP (standP t ps)
    refine sortSet_strs (by omega) fun ms pw hm => ?_
    walk_at "q"
    exact hK ms pw hm
theorem more_pages {ships men ranks prizes : List Str} (f : Folk ships men ranks prizes) {ps qs : List Pg} {xs : List PyData} (h1 : 1 ≤ ps.length) (h38 : ps.length ≤ 40) (up : PgsUp 200 ps) (pm : qs.Perm ps) (hp : MPot xs) (K : PyData → List PyData → Prop) (h : ∀ (ps' qs' : List Pg) (xs' : List PyData), Bk ps' qs' → MPot xs' → K (.tuple (qs'.map pgD)) xs') : q_law_more_prizes xs (folkD ships men ranks prizes) (.tuple (qs.map pgD)) K := by
  have ql := pm.length_eq
  unfold q_law_more_prizes
  walk_at "q"
  refine qLc_all1B (xs := qs) (D := pgD) (fun p => .int p.n) (by omega) (fun p hp sk yd hy => ?_) ?_
  · unfold qb_law_more_prizes_1
    rw [q_pg1]
    exact hy
  have e : qs.map (fun p => PyData.int p.n) = (qs.map (·.n)).map .int := by rw [List.map_map]; rfl
  rw [e, q_maxLB]
  refine ⟨by rw [List.length_map]; omega, fun m hm hle => ?_⟩
  walk_at "q"
  have m0 : 0 ≤ m ∧ m < 200 := by
    obtain ⟨p, hp, rfl⟩ := List.mem_map.mp hm
    have := up.1 p (pm.mem_iff.mp hp)
    exact ⟨this.1.n0, this.2⟩
  have upm : PgsUp (m + 1) ps := ⟨fun p hp => ⟨(up.1 p hp).1, by have := hle p.n (List.mem_map.mpr ⟨p, pm.mem_iff.mpr hp, rfl⟩); omega⟩, up.2⟩
  refine draw_q hp (by decide) (by decide) _ fun d xs d0 d1 hp => ?_
  walk_at "q"
  refine ⟨by omega, ?_⟩
  refine qFor_range (fun k s => ∃ (xs : List PyData) (nw : List Pg) (n : Int), s = (xs, (qs ++ nw).map pgD, .int n) ∧ MPot xs ∧ nw.length = k ∧ 0 ≤ n ∧ n ≤ 200 + k ∧ PgsUp n (ps ++ nw)) ⟨xs, [], m + 1, by rw [List.append_nil], hp, rfl, by omega, by omega, by rw [List.append_nil]; exact upm⟩ (fun k s nx hk hs hnx => ?_) fun s hs => ?_
  · obtain ⟨xs, nw, n, rfl, hp, hnl, n0, n1, upn⟩ := hs
    have hk : k < 16 := by omega
    unfold qb_law_more_prizes_2
    dsimp only
    refine draw_q hp (by decide) (by decide) _ fun a xs a0 a1 hp => ?_
    obtain ⟨a, rfl⟩ : ∃ j : Nat, a = (j : Int) := ⟨a.toNat, by omega⟩
    refine name_b hp (by omega) _ fun pz xs hpz hp => ?_
    refine sale_b hp _ fun g c r hh b p q xs hs hp => ?_
    unfold saleD folkD
    have s1 := f.s1
    have m1 := f.m1
    have p2 := f.p2
    walk_at "q"
    refine ⟨by decide, ?_⟩
    refine pick_strs (Int.le_refl _) (by omega) fun sh hsh => ?_
    walk_at "q"
    refine pick_strs (Int.le_refl _) (by omega) fun pz2 hpz2 => ?_
    walk_at "q"
    refine pick_strs (Int.le_refl _) (by omega) fun mn hmn => ?_
    refine draw_q hp (by omega) (by omega) _ fun e xs e0 e1 hp => ?_
    walk_at "q"
    have lqn : (qs ++ nw).length = qs.length + nw.length := List.length_append
    refine pick_mem e0 (by simpa using e1) fun D hD => ?_
    obtain ⟨x, hx, rfl⟩ := List.mem_map.mp hD
    have hxm : x ∈ ps ++ nw := by
      rcases List.mem_append.mp hx with z | z
      · exact List.mem_append_left _ (pm.mem_iff.mp z)
      · exact List.mem_append_right _ z
    have hxn := upn.1 x hxm
    have x0 := hxn.1.n0
    rw [q_pg1]
    refine draw_q hp (by decide) (by decide) _ fun w xs w0 w1 hp => ?_
    walk_at "q"
    have fin : ∀ (B : PyData) (u : Int) (xs : List PyData), BdB n B → 0 ≤ u → u < 10 → MPot xs → nx (folkD ships men ranks prizes) (xs, (qs ++ nw).map pgD ++ [.tuple [.int u, .int n, B]], .int (n + 1)) := fun B u xs hB u0 u1 hp => by
      have em : (qs ++ nw).map pgD ++ [pgD ⟨u, n, B⟩] = (qs ++ (nw ++ [(⟨u, n, B⟩ : Pg)])).map pgD := by
        rw [← List.append_assoc, List.map_append (l₁ := qs ++ nw)]
        rfl
      refine hnx _ ⟨xs, nw ++ [⟨u, n, B⟩], n + 1, by rw [← em]; rfl, hp, by rw [List.length_append, hnl]; rfl, (by omega), (by omega), ?_⟩
      rw [← List.append_assoc]
      exact upn.push (p := ⟨u, n, B⟩) ⟨u0, (by show u ≤ 1000000; omega), n0, (by show n ≤ 1000; omega), hB⟩ rfl (by omega)
    have gz := hpz.1
    refine pick_mem w0 (by simpa using w1) fun B hB => ?_
    simp only [List.mem_cons, List.not_mem_nil, or_false] at hB
    rcases hB with rfl | rfl | rfl | rfl | rfl
    · refine draw_q hp (by decide) (by decide) _ fun u xs u0 u1 hp => ⟨by omega, ?_⟩
      exact fin _ u xs (bdb_sale gz hs) u0 u1 hp
    · refine draw_q hp (by decide) (by decide) _ fun u xs u0 u1 hp => ⟨by omega, ?_⟩
      exact fin _ u xs (bdb_taking gz (f.sg sh hsh) (by decide) (by decide) (by decide) (by decide) (by decide)) u0 u1 hp
    · refine draw_q hp (by decide) (by decide) _ fun u xs u0 u1 hp => ⟨by omega, ?_⟩
      exact fin _ u xs (bdb_had gz (f.pg pz2 hpz2) (by decide) (by decide)) u0 u1 hp
    · refine draw_q hp (by decide) (by decide) _ fun u xs u0 u1 hp => ⟨by omega, ?_⟩
      exact fin _ u xs (bdb_had (f.mg mn hmn) gz (by decide) (by decide)) u0 u1 hp
    · refine draw_q hp (by decide) (by decide) _ fun u xs u0 u1 hp => ⟨by omega, ?_⟩
      exact fin _ u xs (bdb_strike x0 (by omega)) u0 u1 hp
  · obtain ⟨xs, nw, n, rfl, hp, hnl, n0, n1, upn⟩ := hs
    dsimp only
    refine shuffled_b (.inl rfl) (by rw [List.length_map, List.length_append]; omega) hp _ fun es xs pm2 hp => ?_
    obtain ⟨us, rfl, pu⟩ := map_perm pm2
    exact h (ps ++ nw) us xs ⟨upn.mono (by omega), by rw [List.length_append]; omega, pu.trans (pm.append_right nw)⟩ hp
theorem nm_ts {p : Pg} {b : Bd} (hb : p.body = bdD b) : (isTS b = true → ∃ x, nmT p = some x ∧ ∀ P : PyData → Prop, oIx p.body (.int 1) P = P (.str x)) ∧ (isTS b = false → nmT p = none) ∧ (isHad b = true → ∃ x, nmH p = some x ∧ ∀ P : PyData → Prop, oIx p.body (.int 2) P = P (.str x)) ∧ (isHad b = false → nmH p = none) := by
  unfold nmT nmH
  rw [hb]
  cases b with
  | taking x s lo hi ml => exact ⟨fun _ => ⟨x, rfl, fun P => by unfold bdD; rw [q_ix, at1]⟩, nofun, nofun, fun _ => rfl⟩
  | sale x g c r h b p q => exact ⟨fun _ => ⟨x, rfl, fun P => by unfold bdD; rw [q_ix, at1]⟩, nofun, nofun, fun _ => rfl⟩
  | had m x n => exact ⟨nofun, fun _ => rfl, fun _ => ⟨x, rfl, fun P => by unfold bdD; rw [q_ix, at2]⟩, nofun⟩
  | _ => exact ⟨nofun, fun _ => rfl, nofun, fun _ => rfl⟩
theorem nm_or {p : Pg} (h : PgOk p) {x : Str} : nmP p = some x ↔ nmT p = some x ∨ nmH p = some x := by
  obtain ⟨b, hb, _⟩ := h.bd
  unfold nmP nmT nmH
  rw [hb]
  cases b <;> simp [bdD, nmTD, nmHD]
theorem nm_one {p : Pg} (h : PgOk p) : nmT p = none ∨ nmH p = none := by
  obtain ⟨b, hb, _⟩ := h.bd
  unfold nmT nmH
  rw [hb]
  cases b <;> simp [bdD, nmTD, nmHD]
theorem the_law (ns : List Int) (hn : ns.length ≤ 63) (K : PyData → Prop) (hK : K (.bool true)) : q_law (.list (ns.map .int)) K := by
  unfold q_law
  walk_at "q"
  refine ⟨by split <;> split <;> omega, ?_⟩
  refine qFor_range (fun _ _ => True) trivial (fun k s nx hk _ hnx => ?_) fun _ _ => ?_
  · have hk : k ≤ 64 := by
      have := hk
      revert this
      split <;> split <;> omega
    unfold qb_law_1
    refine pot_of_q ns _ (by omega) (by omega) _ fun xs hp => ?_
    refine folk_b hp _ fun ships men ranks prizes xs f hp => ?_
    refine book_b f (by decide) (by decide) hp _ fun ps es xs hl hl1 up pm hp => ?_
    obtain ⟨qs, rfl, pq⟩ := map_perm pm
    refine more_pages f hl1 (by omega) up pq hp _ fun ps qs xs hb hp => ?_
    walk_at "q"
    refine ⟨⟨by decide, by decide⟩, ?_⟩
    refine qFor_all (fun s => MPot s) hp (fun d s nx3 hd hs hnx3 => ?_) fun s hs => hnx _ trivial
    unfold qb_law_2
    dsimp only
    refine day_b hb.fewq (fun p hp => ⟨(hb.okq p hp).d0, (hb.okq p hp).d1⟩) hs _ fun t xs t0 t1 hp => ?_
    refine law_stand_t hb _ ?_
    have few := standP_few hb t
    walk_at "q"
    refine qLc_optB (xs := standP t ps) (D := pgD) (fun p => (nmT p).map .str) (by omega) (fun p hpm sk yd hy hsk => ?_) ?_
    · have pok := hb.okk t p ((stand_sub _).subset hpm)
      obtain ⟨b, e, _⟩ := pok.bd
      obtain ⟨n1, n2, _, _⟩ := nm_ts e
      unfold qb_law_3
      simp only [q_pg2]
      have ek : ∀ P : PyData → Prop, oIx p.body (.int 0) P = P (.str (kindS b)) := fun P => by rw [e]; exact kind_at b P
      rw [ek]
      refine kind_in b ?_
      walk_at "q"
      cases z : isTS b with
      | true =>
        obtain ⟨x, e1, e2⟩ := n1 z
        walk_at "q"
        rw [e2]
        exact hy _ (by rw [e1]; rfl)
      | false =>
        walk_at "q"
        exact hsk (by rw [n2 z]; rfl)
    refine qLc_optB (xs := standP t ps) (D := pgD) (fun p => (nmH p).map .str) (by omega) (fun p hpm sk yd hy hsk => ?_) ?_
    · have pok := hb.okk t p ((stand_sub _).subset hpm)
      obtain ⟨b, e, _⟩ := pok.bd
      obtain ⟨_, _, n1, n2⟩ := nm_ts e
      unfold qb_law_4
      simp only [q_pg2]
      have ek : ∀ P : PyData → Prop, oIx p.body (.int 0) P = P (.str (kindS b)) := fun P => by rw [e]; exact kind_at b P
      rw [ek]
      walk_at "q"
      rw [kind_hadD]
      cases z : isHad b with
      | true =>
        obtain ⟨x, e1, e2⟩ := n1 z
        walk_at "q"
        rw [e2]
        exact hy _ (by rw [e1]; rfl)
      | false =>
        walk_at "q"
        exact hsk (by rw [n2 z]; rfl)
    have eT : (standP t ps).filterMap (fun p => (nmT p).map PyData.str) = ((standP t ps).filterMap nmT).map .str := List.map_filterMap.symm
    have eH : (standP t ps).filterMap (fun p => (nmH p).map PyData.str) = ((standP t ps).filterMap nmH).map .str := List.map_filterMap.symm
    rw [eT, eH]
    have lT := List.length_filterMap_le nmT (standP t ps)
    have lH := List.length_filterMap_le nmH (standP t ps)
    have emem : ∀ k, k ∈ (standP t ps).filterMap nmT ++ (standP t ps).filterMap nmH ↔ k ∈ (standP t ps).filterMap nmP := fun k => by
      rw [List.mem_append, List.mem_filterMap, List.mem_filterMap, List.mem_filterMap]
      constructor
      · rintro (⟨p, hp, e⟩ | ⟨p, hp, e⟩)
        · exact ⟨p, hp, (nm_or (hb.okk t p ((stand_sub _).subset hp))).mpr (.inl e)⟩
        · exact ⟨p, hp, (nm_or (hb.okk t p ((stand_sub _).subset hp))).mpr (.inr e)⟩
      · rintro ⟨p, hp, e⟩
        rcases (nm_or (hb.okk t p ((stand_sub _).subset hp))).mp e with z | z
        · exact .inl ⟨p, hp, z⟩
        · exact .inr ⟨p, hp, z⟩
    have el : ((standP t ps).filterMap nmT ++ (standP t ps).filterMap nmH).length ≤ 60 := by
      have : ∀ S : List Pg, (∀ p ∈ S, PgOk p) → (S.filterMap nmT ++ S.filterMap nmH).length ≤ S.length := fun S => by
        induction S with
        | nil => exact fun _ => Nat.le_refl _
        | cons p r ih =>
          intro ok
          have ih := ih fun q hq => ok q (List.mem_cons_of_mem _ hq)
          have := nm_one (ok p List.mem_cons_self)
          simp only [List.length_append, List.filterMap_cons, List.length_cons] at ih ⊢
          rcases this with z | z
          · rw [z]
            cases nmH p <;> simp <;> omega
          · rw [z]
            cases nmT p <;> simp <;> omega
      have := this (standP t ps) fun p hp => hb.okk t p ((stand_sub _).subset hp)
      omega
    have hg : ∀ x ∈ (standP t ps).filterMap nmP, goodN x = true := fun x hx => by
      obtain ⟨p, hp, e⟩ := List.mem_filterMap.mp hx
      exact nm_good (hb.okk t p ((stand_sub _).subset hp)) e
    refine ⟨by rw [List.length_map, List.length_map]; omega, ?_⟩
    rw [← List.map_append]
    refine sortSet_strs (by omega) fun ms pw hm => ?_
    walk_at "q"
    have hm : ∀ k, k ∈ ms ↔ k ∈ (standP t ps).filterMap nmP := fun k => (hm k).trans (emem k)
    refine prizes_t hb t0 t1 _ fun us pu hu => ?_
    rw [riseS_uniq pu pw fun k => (hu k).trans (hm k).symm]
    have sh := shapedT_strs fun x hx => hg x ((hm x).mp hx)
    refine ne_same rfl sh (eqvT_strs _) ?_
    walk_at "q"
    refine shuffled_b (.inr rfl) (by rw [List.length_map]; have := hb.fewq; omega) hp _ fun es xs pm hp => ?_
    obtain ⟨rs, rfl, pr⟩ := map_perm pm
    refine prizes_t ⟨hb.up, hb.few, pr.trans hb.pm⟩ t0 t1 _ fun us pu hu => ?_
    rw [riseS_uniq pu pw fun k => (hu k).trans (hm k).symm]
    refine ne_same rfl sh (eqvT_strs _) ?_
    walk_at "q"
    exact hnx3 _ hp
  · walk_at "q"
    refine ⟨⟨sz_of (by decide) (by decide), by decide, by decide⟩, ?_⟩
    rw [show (10 : Int) ^ Int.toNat 6 = 1000000 by decide]
    refine prizes_t (ps := []) (qs := []) ⟨⟨by simp, List.Pairwise.nil⟩, by decide, List.Perm.refl _⟩ (by decide) (by decide) _ fun ms _ hm => ?_
    obtain rfl : ms = [] := by
      cases ms with
      | nil => rfl
      | cons a b => have := (hm a).mp List.mem_cons_self; simp [standP, known, stand] at this
    show oEmp false (.tuple []) (.tuple []) K
    walk_at "q"
    exact hK
section
variable {P : Program} {w : World} {K : PySem.W.Frag} {mg : Str → Option Value} {base : Heap} [SysB base] {Tb : List (Addr × Str)} [LamB K base mg Tb lam]
def kk_is_whole : RT → (PyData → Prop) := fun R v => R (.dat v) []
def S_is_whole : DSp := fun as Q => match as with
  | [.dat x0] => q_is_whole x0 (kk_is_whole Q)
  | _ => False
theorem len_is_whole (as : List SD) (Q : SD → List SD → Prop) (h : S_is_whole as Q) : as.length = 1 := by
  unfold S_is_whole at h
  split at h
  · rfl
  · exact h.elim
theorem cels_is_whole : CelsIn 0 S_is_whole := by
  intro as Q h i p xs e
  unfold S_is_whole at h
  split at h
  · exact absurd e (no_cel (ds := [_]) i p xs)
  · exact h.elim
def N_is_whole : List Str := ["thing"]
theorem sc_is_whole : FnScope N_is_whole ["thing"] (defScope (top 1)) := ⟨rfl, rfl, rfl, by decide +kernel, rfl, by decide +kernel, by decide +kernel⟩
theorem fg_is_whole (T : Tp K mg)  {fd : FuncData} (Fn : Fun K "is_whole" "is_whole" (top 1) (He.ga K "is_whole") fd) : FnG P w K mg base Tb 1 (He.ga K "is_whole") fd ["thing"] S_is_whole := by
  refine dfn 0 Fn sc_is_whole len_is_whole cels_is_whole fun cdv A outer s H hr hA => ⟨_, (sone (sret (m := 0) (dx (dandV (disi "int" "int" (m_isinstance T) (m_int T) (by decide +kernel) (by decide +kernel) (dv 0)) (done (dnotV (disi "bool" "bool" (m_isinstance T) (m_bool T) (by decide +kernel) (by decide +kernel) (dv 0)))))))), fun as Q h => ?_⟩
  unfold S_is_whole at h
  split at h
  · unfold q_is_whole at h
    rename_i x0
    refine at_env (b := [.dat x0]) rfl ?_
    exact Eq.mp (by kernel_rfl) h
  · exact h.elim
theorem ok_is_whole (T : Tp K mg)  : Dn P w K mg base Tb "is_whole" 1 ["thing"] S_is_whole := by
  obtain ⟨kV, doc, pm, an, cdv, ct, Fn⟩ := T.fun_ "is_whole" (top 1) 0 75
  exact ⟨⟨_, fg_is_whole T  Fn, Fn.binds (ps := ["thing"]) fun _ _ _ _ _ _ us hl => match us, hl with | [_], _ => rfl⟩, T.glo "is_whole" 33, T.keep "is_whole" 75⟩
def kk_is_within : RT → (PyData → Prop) := fun R v => R (.dat v) []
def S_is_within : DSp := fun as Q => match as with
  | [.dat x0, .dat x1, .dat x2] => q_is_within x0 x1 x2 (kk_is_within Q)
  | _ => False
theorem len_is_within (as : List SD) (Q : SD → List SD → Prop) (h : S_is_within as Q) : as.length = 3 := by
  unfold S_is_within at h
  split at h
  · rfl
  · exact h.elim
theorem cels_is_within : CelsIn 0 S_is_within := by
  intro as Q h i p xs e
  unfold S_is_within at h
  split at h
  · exact absurd e (no_cel (ds := [_, _, _]) i p xs)
  · exact h.elim
def N_is_within : List Str := ["thing", "least", "most"]
theorem sc_is_within : FnScope N_is_within ["thing", "least", "most"] (defScope (top 2)) := ⟨rfl, rfl, rfl, by decide +kernel, rfl, by decide +kernel, by decide +kernel⟩
theorem fg_is_within (T : Tp K mg) (D_is_whole : Dn P w K mg base Tb "is_whole" 1 ["thing"] S_is_whole) {fd : FuncData} (Fn : Fun K "is_within" "is_within" (top 2) (He.ga K "is_within") fd) : FnG P w K mg base Tb 2 (He.ga K "is_within") fd ["thing", "least", "most"] S_is_within := by
  refine dfn 0 Fn sc_is_within len_is_within cels_is_within fun cdv A outer s H hr hA => ⟨_, (sone (sret (m := 0) (dx (dandV (dfrz (dcn D_is_whole (hr.mono (by decide)) hA (acons (dv 0) anil))) (done (dchain op_le op_le opr_le opr_le (dv 1) (dv 0) (dv 2))))))), fun as Q h => ?_⟩
  unfold S_is_within at h
  split at h
  · unfold q_is_within at h
    rename_i x0 x1 x2
    refine at_env (b := [.dat x0, .dat x1, .dat x2]) rfl ?_
    exact Eq.mp (by kernel_rfl) h
  · exact h.elim
theorem ok_is_within (T : Tp K mg) (D_is_whole : Dn P w K mg base Tb "is_whole" 1 ["thing"] S_is_whole) : Dn P w K mg base Tb "is_within" 2 ["thing", "least", "most"] S_is_within := by
  obtain ⟨kV, doc, pm, an, cdv, ct, Fn⟩ := T.fun_ "is_within" (top 2) 1 76
  exact ⟨⟨_, fg_is_within T D_is_whole Fn, Fn.binds (ps := ["thing", "least", "most"]) fun _ _ _ _ _ _ us hl => match us, hl with | [_, _, _], _ => rfl⟩, T.glo "is_within" 34, T.keep "is_within" 76⟩
def kk_are_wholes : RT → (PyData → Prop) := fun R v => R (.dat v) []
def em_are_wholes_1 (i : PyData × PyData) (s : Unit) : List SD := [.dat i.1, .dat i.2, .un]
def de_are_wholes_1 : List SD → Option ((PyData × PyData) × (Unit))
  | [.dat x0, .dat x1, .un] => some ((x0, x1), ())
  | _ => none
theorem hde_are_wholes_1 : ∀ env i s, de_are_wholes_1 env = some (i, s) → env = em_are_wholes_1 i s := by
  intro env i s h
  unfold de_are_wholes_1 at h
  split at h
  · cases h; rfl
  · cases h
def S_are_wholes : DSp := fun as Q => match as with
  | [.dat x0, .dat x1] => q_are_wholes x0 x1 (kk_are_wholes Q)
  | _ => False
theorem len_are_wholes (as : List SD) (Q : SD → List SD → Prop) (h : S_are_wholes as Q) : as.length = 2 := by
  unfold S_are_wholes at h
  split at h
  · rfl
  · exact h.elim
theorem cels_are_wholes : CelsIn 0 S_are_wholes := by
  intro as Q h i p xs e
  unfold S_are_wholes at h
  split at h
  · exact absurd e (no_cel (ds := [_, _]) i p xs)
  · exact h.elim
def N_are_wholes : List Str := ["thing", "many", "number"]
theorem sc_are_wholes : FnScope N_are_wholes ["thing", "many"] (defScope (top 3)) := ⟨rfl, rfl, rfl, by decide +kernel, rfl, by decide +kernel, by decide +kernel⟩
theorem fg_are_wholes (T : Tp K mg) (D_is_whole : Dn P w K mg base Tb "is_whole" 1 ["thing"] S_is_whole) {fd : FuncData} (Fn : Fun K "are_wholes" "are_wholes" (top 3) (He.ga K "are_wholes") fd) : FnG P w K mg base Tb 2 (He.ga K "are_wholes") fd ["thing", "many"] S_are_wholes := by
  refine dfn 0 Fn sc_are_wholes len_are_wholes cels_are_wholes fun cdv A outer s H hr hA => ⟨_, (sone (sret (m := 0) (dx (dandV (disi "tuple" "tuple" (m_isinstance T) (m_tuple T) (by decide +kernel) (by decide +kernel) (dv 0)) (dandV (dcmp (op_eqE hr.units) opd_eq (dlen (m_len T) (acons (dv 0) anil)) (dv 1) (nomark _)) (done (dall (m_all T) rfl (acons (dfrz (dlc (dec := de_are_wholes_1) (emb := em_are_wholes_1) (qb := qb_are_wholes_1) [("number", 2)] (.one 2) hde_are_wholes_1 rfl sc_are_wholes.nd (iseq (dv 0)) (blkOk_by (own := [("number", 2)]) (N := N_are_wholes) (sc := defScope (top 3)) (by decide +kernel)) (fun _ _ _ _ _ => pg_name (i := 2) sc_are_wholes.nd rfl (Or.inl rfl)) (fun _ _ _ _ _ => tyes) (fun _ _ _ _ _ => (dfrz (dcn D_is_whole (hr.mono (by decide)) hA (acons (dv 2) anil)))) (fun d i s sk yd h => Eq.mp (by kernel_rfl) h))) anil)))))))), fun as Q h => ?_⟩
  unfold S_are_wholes at h
  split at h
  · unfold q_are_wholes at h
    rename_i x0 x1
    refine at_env (b := [.dat x0, .dat x1, .un]) rfl ?_
    exact Eq.mp (by kernel_rfl) h
  · exact h.elim
theorem ok_are_wholes (T : Tp K mg) (D_is_whole : Dn P w K mg base Tb "is_whole" 1 ["thing"] S_is_whole) : Dn P w K mg base Tb "are_wholes" 2 ["thing", "many"] S_are_wholes := by
  obtain ⟨kV, doc, pm, an, cdv, ct, Fn⟩ := T.fun_ "are_wholes" (top 3) 2 77
  exact ⟨⟨_, fg_are_wholes T D_is_whole Fn, Fn.binds (ps := ["thing", "many"]) fun _ _ _ _ _ _ us hl => match us, hl with | [_, _], _ => rfl⟩, T.glo "are_wholes" 35, T.keep "are_wholes" 77⟩
def kk_divisor_of : RT → (PyData → Prop) := fun R v => R (.dat v) []
def em_divisor_of_1 (i : Unit) (s : PyData × PyData) : List SD := [.dat s.1, .dat s.2]
def de_divisor_of_1 : List SD → Option ((Unit) × (PyData × PyData))
  | [.dat x0, .dat x1] => some ((), (x0, x1))
  | _ => none
theorem hde_divisor_of_1 : ∀ env i s, de_divisor_of_1 env = some (i, s) → env = em_divisor_of_1 i s := by
  intro env i s h
  unfold de_divisor_of_1 at h
  split at h
  · cases h; rfl
  · cases h
def S_divisor_of : DSp := fun as Q => match as with
  | [.dat x0, .dat x1] => q_divisor_of x0 x1 (kk_divisor_of Q)
  | _ => False
theorem len_divisor_of (as : List SD) (Q : SD → List SD → Prop) (h : S_divisor_of as Q) : as.length = 2 := by
  unfold S_divisor_of at h
  split at h
  · rfl
  · exact h.elim
theorem cels_divisor_of : CelsIn 0 S_divisor_of := by
  intro as Q h i p xs e
  unfold S_divisor_of at h
  split at h
  · exact absurd e (no_cel (ds := [_, _]) i p xs)
  · exact h.elim
def N_divisor_of : List Str := ["one", "other"]
theorem sc_divisor_of : FnScope N_divisor_of ["one", "other"] (defScope (top 4)) := ⟨rfl, rfl, rfl, by decide +kernel, rfl, by decide +kernel, by decide +kernel⟩
theorem fg_divisor_of (T : Tp K mg)  {fd : FuncData} (Fn : Fun K "divisor_of" "divisor_of" (top 4) (He.ga K "divisor_of") fd) : FnG P w K mg base Tb 1 (He.ga K "divisor_of") fd ["one", "other"] S_divisor_of := by
  refine dfn 0 Fn sc_divisor_of len_divisor_of cels_divisor_of fun cdv A outer s H hr hA => ⟨_, (scons (spar 0 1 rfl sc_divisor_of.nd (acons (dabs (m_abs T) (acons (dv 0) anil)) (acons (dabs (m_abs T) (acons (dv 1) anil)) anil))) (scons (swhileQ [] de_divisor_of_1 em_divisor_of_1 kk_divisor_of qb_divisor_of_1 hde_divisor_of_1 PassesOwn.never (dcmpT op_gt opr_gt (dv 1) di (nomark _)) (sone (spar 0 1 rfl sc_divisor_of.nd (acons (dv 1) (acons (dmod (dv 0) (dv 1)) anil)))) (fun R i s nx bk h => Eq.mp (by kernel_rfl) h)) (sone (sret (m := 0) (dx (dv 0)))))), fun as Q h => ?_⟩
  unfold S_divisor_of at h
  split at h
  · unfold q_divisor_of at h
    rename_i x0 x1
    refine at_env (b := [.dat x0, .dat x1]) rfl ?_
    exact Eq.mp (by kernel_rfl) h
  · exact h.elim
theorem ok_divisor_of (T : Tp K mg)  : Dn P w K mg base Tb "divisor_of" 1 ["one", "other"] S_divisor_of := by
  obtain ⟨kV, doc, pm, an, cdv, ct, Fn⟩ := T.fun_ "divisor_of" (top 4) 3 78
  exact ⟨⟨_, fg_divisor_of T  Fn, Fn.binds (ps := ["one", "other"]) fun _ _ _ _ _ _ us hl => match us, hl with | [_, _], _ => rfl⟩, T.glo "divisor_of" 36, T.keep "divisor_of" 78⟩
def kk_is_fraction : RT → (PyData → Prop) := fun R v => R (.dat v) []
def S_is_fraction : DSp := fun as Q => match as with
  | [.dat x0] => q_is_fraction x0 (kk_is_fraction Q)
  | _ => False
theorem len_is_fraction (as : List SD) (Q : SD → List SD → Prop) (h : S_is_fraction as Q) : as.length = 1 := by
  unfold S_is_fraction at h
  split at h
  · rfl
  · exact h.elim
theorem cels_is_fraction : CelsIn 0 S_is_fraction := by
  intro as Q h i p xs e
  unfold S_is_fraction at h
  split at h
  · exact absurd e (no_cel (ds := [_]) i p xs)
  · exact h.elim
def N_is_fraction : List Str := ["thing"]
theorem sc_is_fraction : FnScope N_is_fraction ["thing"] (defScope (top 5)) := ⟨rfl, rfl, rfl, by decide +kernel, rfl, by decide +kernel, by decide +kernel⟩
theorem fg_is_fraction (T : Tp K mg) (D_are_wholes : Dn P w K mg base Tb "are_wholes" 2 ["thing", "many"] S_are_wholes) (D_divisor_of : Dn P w K mg base Tb "divisor_of" 1 ["one", "other"] S_divisor_of) {fd : FuncData} (Fn : Fun K "is_fraction" "is_fraction" (top 5) (He.ga K "is_fraction") fd) : FnG P w K mg base Tb 3 (He.ga K "is_fraction") fd ["thing"] S_is_fraction := by
  refine dfn 0 Fn sc_is_fraction len_is_fraction cels_is_fraction fun cdv A outer s H hr hA => ⟨_, (sone (sret (m := 0) (dx (dandV (dfrz (dcn D_are_wholes (hr.mono (by decide)) hA (acons (dv 0) (acons di anil)))) (dandV (dcmp op_gt opr_gt (dixP (dv 0) di) di (nomark _)) (done (dcmp (op_eqE hr.units) opd_eq (dfrz (dcn D_divisor_of (hr.mono (by decide)) hA (acons (dixP (dv 0) di) (acons (dixP (dv 0) di) anil)))) di (nomark _)))))))), fun as Q h => ?_⟩
  unfold S_is_fraction at h
  split at h
  · unfold q_is_fraction at h
    rename_i x0
    refine at_env (b := [.dat x0]) rfl ?_
    exact Eq.mp (by kernel_rfl) h
  · exact h.elim
theorem ok_is_fraction (T : Tp K mg) (D_are_wholes : Dn P w K mg base Tb "are_wholes" 2 ["thing", "many"] S_are_wholes) (D_divisor_of : Dn P w K mg base Tb "divisor_of" 1 ["one", "other"] S_divisor_of) : Dn P w K mg base Tb "is_fraction" 3 ["thing"] S_is_fraction := by
  obtain ⟨kV, doc, pm, an, cdv, ct, Fn⟩ := T.fun_ "is_fraction" (top 5) 4 79
  exact ⟨⟨_, fg_is_fraction T D_are_wholes D_divisor_of Fn, Fn.binds (ps := ["thing"]) fun _ _ _ _ _ _ us hl => match us, hl with | [_], _ => rfl⟩, T.glo "is_fraction" 37, T.keep "is_fraction" 79⟩
def kk_is_hour_tracks : RT → (PyData → Prop) := fun R v => R (.dat v) []
def S_is_hour_tracks : DSp := fun as Q => match as with
  | [.dat x0] => q_is_hour_tracks x0 (kk_is_hour_tracks Q)
  | _ => False
theorem len_is_hour_tracks (as : List SD) (Q : SD → List SD → Prop) (h : S_is_hour_tracks as Q) : as.length = 1 := by
  unfold S_is_hour_tracks at h
  split at h
  · rfl
  · exact h.elim
theorem cels_is_hour_tracks : CelsIn 0 S_is_hour_tracks := by
  intro as Q h i p xs e
  unfold S_is_hour_tracks at h
  split at h
  · exact absurd e (no_cel (ds := [_]) i p xs)
  · exact h.elim
def N_is_hour_tracks : List Str := ["thing"]
theorem sc_is_hour_tracks : FnScope N_is_hour_tracks ["thing"] (defScope (top 14)) := ⟨rfl, rfl, rfl, by decide +kernel, rfl, by decide +kernel, by decide +kernel⟩
theorem fg_is_hour_tracks (T : Tp K mg) (D_is_whole : Dn P w K mg base Tb "is_whole" 1 ["thing"] S_is_whole) {fd : FuncData} (Fn : Fun K "is_hour" "is_hour" (top 14) (He.ga K "is_hour_tracks") fd) : FnG P w K mg base Tb 2 (He.ga K "is_hour_tracks") fd ["thing"] S_is_hour_tracks := by
  refine dfn 0 Fn sc_is_hour_tracks len_is_hour_tracks cels_is_hour_tracks fun cdv A outer s H hr hA => ⟨_, (sone (sret (m := 0) (dx (dandV (dfrz (dcn D_is_whole (hr.mono (by decide)) hA (acons (dv 0) anil))) (done (dchain op_le op_le opr_le opr_le di (dv 0) (dnum (c_LAST_HOUR T)))))))), fun as Q h => ?_⟩
  unfold S_is_hour_tracks at h
  split at h
  · unfold q_is_hour_tracks at h
    rename_i x0
    refine at_env (b := [.dat x0]) rfl ?_
    exact Eq.mp (by kernel_rfl) h
  · exact h.elim
theorem ok_is_hour_tracks (T : Tp K mg) (D_is_whole : Dn P w K mg base Tb "is_whole" 1 ["thing"] S_is_whole) : Dn P w K mg base Tb "is_hour_tracks" 2 ["thing"] S_is_hour_tracks := by
  obtain ⟨kV, doc, pm, an, cdv, ct, Fn⟩ := T.funA "is_hour_tracks" "is_hour" (top 14) 5 80
  exact ⟨⟨_, fg_is_hour_tracks T D_is_whole Fn, Fn.binds (ps := ["thing"]) fun _ _ _ _ _ _ us hl => match us, hl with | [_], _ => rfl⟩, T.glo "is_hour_tracks" 38, T.keep "is_hour_tracks" 80⟩
def kk_is_log_row : RT → (PyData → Prop) := fun R v => R (.dat v) []
def em_is_log_row_1 (i : PyData) (s : Unit) : List SD := [.dat i, .un]
def de_is_log_row_1 : List SD → Option ((PyData) × (Unit))
  | [.dat x0, .un] => some (x0, ())
  | _ => none
theorem hde_is_log_row_1 : ∀ env i s, de_is_log_row_1 env = some (i, s) → env = em_is_log_row_1 i s := by
  intro env i s h
  unfold de_is_log_row_1 at h
  split at h
  · cases h; rfl
  · cases h
def S_is_log_row : DSp := fun as Q => match as with
  | [.dat x0] => q_is_log_row x0 (kk_is_log_row Q)
  | _ => False
theorem len_is_log_row (as : List SD) (Q : SD → List SD → Prop) (h : S_is_log_row as Q) : as.length = 1 := by
  unfold S_is_log_row at h
  split at h
  · rfl
  · exact h.elim
theorem cels_is_log_row : CelsIn 0 S_is_log_row := by
  intro as Q h i p xs e
  unfold S_is_log_row at h
  split at h
  · exact absurd e (no_cel (ds := [_]) i p xs)
  · exact h.elim
def N_is_log_row : List Str := ["thing", "number"]
theorem sc_is_log_row : FnScope N_is_log_row ["thing"] (defScope (top 16)) := ⟨rfl, rfl, rfl, by decide +kernel, rfl, by decide +kernel, by decide +kernel⟩
theorem fg_is_log_row (T : Tp K mg) (D_is_hour_tracks : Dn P w K mg base Tb "is_hour_tracks" 2 ["thing"] S_is_hour_tracks) (D_is_whole : Dn P w K mg base Tb "is_whole" 1 ["thing"] S_is_whole) {fd : FuncData} (Fn : Fun K "is_log_row" "is_log_row" (top 16) (He.ga K "is_log_row") fd) : FnG P w K mg base Tb 3 (He.ga K "is_log_row") fd ["thing"] S_is_log_row := by
  refine dfn 0 Fn sc_is_log_row len_is_log_row cels_is_log_row fun cdv A outer s H hr hA => ⟨_, (scons (sif (tor (tnot (dtest (disi "tuple" "tuple" (m_isinstance T) (m_tuple T) (by decide +kernel) (by decide +kernel) (dv 0)))) (tor (dcmpT (op_neE hr.units) opd_ne (dlen (m_len T) (acons (dv 0) anil)) di (nomark _)) (tor1 (tnot (dtest (dfrz (dcn D_is_hour_tracks (hr.mono (by decide)) hA (acons (dixP (dv 0) di) anil)))))))).pt (sone (sret (m := 0) (dx db))) snil) (sone (sret (m := 0) (dx (dall (m_all T) rfl (acons (dfrz (dlc (dec := de_is_log_row_1) (emb := em_is_log_row_1) (qb := qb_is_log_row_1) [("number", 1)] (.one 1) hde_is_log_row_1 rfl sc_is_log_row.nd (iseq (dsl (dv 0) (so_some di) so_none)) (blkOk_by (own := [("number", 1)]) (N := N_is_log_row) (sc := defScope (top 16)) (by decide +kernel)) (fun _ _ _ _ _ => pg_name (i := 1) sc_is_log_row.nd rfl (Or.inl rfl)) (fun _ _ _ _ _ => tyes) (fun _ _ _ _ _ => (dandV (dfrz (dcn D_is_whole (hr.mono (by decide)) hA (acons (dv 1) anil))) (done (dcmp op_le opr_le (dabs (m_abs T) (acons (dv 1) anil)) (dnum (c_FARTHEST T)) (nomark _))))) (fun d i s sk yd h => Eq.mp (by kernel_rfl) h))) anil)))))), fun as Q h => ?_⟩
  unfold S_is_log_row at h
  split at h
  · unfold q_is_log_row at h
    rename_i x0
    refine at_env (b := [.dat x0, .un]) rfl ?_
    exact Eq.mp (by kernel_rfl) h
  · exact h.elim
theorem ok_is_log_row (T : Tp K mg) (D_is_hour_tracks : Dn P w K mg base Tb "is_hour_tracks" 2 ["thing"] S_is_hour_tracks) (D_is_whole : Dn P w K mg base Tb "is_whole" 1 ["thing"] S_is_whole) : Dn P w K mg base Tb "is_log_row" 3 ["thing"] S_is_log_row := by
  obtain ⟨kV, doc, pm, an, cdv, ct, Fn⟩ := T.fun_ "is_log_row" (top 16) 6 81
  exact ⟨⟨_, fg_is_log_row T D_is_hour_tracks D_is_whole Fn, Fn.binds (ps := ["thing"]) fun _ _ _ _ _ _ us hl => match us, hl with | [_], _ => rfl⟩, T.glo "is_log_row" 39, T.keep "is_log_row" 81⟩
def kk_is_log : RT → (PyData → Prop) := fun R v => R (.dat v) []
def em_is_log_1 (i : PyData) (s : Unit) : List SD := [.dat i, .un, .un, .un]
def de_is_log_1 : List SD → Option ((PyData) × (Unit))
  | [.dat x0, .un, .un, .un] => some (x0, ())
  | _ => none
theorem hde_is_log_1 : ∀ env i s, de_is_log_1 env = some (i, s) → env = em_is_log_1 i s := by
  intro env i s h
  unfold de_is_log_1 at h
  split at h
  · cases h; rfl
  · cases h
def em_is_log_2 (i : PyData) (s : Unit) : List SD := [.dat i, .un, .un, .un]
def de_is_log_2 : List SD → Option ((PyData) × (Unit))
  | [.dat x0, .un, .un, .un] => some (x0, ())
  | _ => none
theorem hde_is_log_2 : ∀ env i s, de_is_log_2 env = some (i, s) → env = em_is_log_2 i s := by
  intro env i s h
  unfold de_is_log_2 at h
  split at h
  · cases h; rfl
  · cases h
def S_is_log : DSp := fun as Q => match as with
  | [.dat x0] => q_is_log x0 (kk_is_log Q)
  | _ => False
theorem len_is_log (as : List SD) (Q : SD → List SD → Prop) (h : S_is_log as Q) : as.length = 1 := by
  unfold S_is_log at h
  split at h
  · rfl
  · exact h.elim
theorem cels_is_log : CelsIn 0 S_is_log := by
  intro as Q h i p xs e
  unfold S_is_log at h
  split at h
  · exact absurd e (no_cel (ds := [_]) i p xs)
  · exact h.elim
def N_is_log : List Str := ["thing", "row", "one", "other"]
theorem sc_is_log : FnScope N_is_log ["thing"] (defScope (top 17)) := ⟨rfl, rfl, rfl, by decide +kernel, rfl, by decide +kernel, by decide +kernel⟩
theorem fg_is_log (T : Tp K mg) (D_is_log_row : Dn P w K mg base Tb "is_log_row" 3 ["thing"] S_is_log_row) {fd : FuncData} (Fn : Fun K "is_log" "is_log" (top 17) (He.ga K "is_log") fd) : FnG P w K mg base Tb 4 (He.ga K "is_log") fd ["thing"] S_is_log := by
  refine dfn 0 Fn sc_is_log len_is_log cels_is_log fun cdv A outer s H hr hA => ⟨_, (scons (sif (tor (tnot (dtest (disi "tuple" "tuple" (m_isinstance T) (m_tuple T) (by decide +kernel) (by decide +kernel) (dv 0)))) (tor (tnot (dchainT op_le op_le opr_le opr_le di (dlen (m_len T) (acons (dv 0) anil)) (dnum (c_MOST_ROWS T)))) (tor1 (tnot (dtest (dall (m_all T) rfl (acons (dfrz (dlc (dec := de_is_log_1) (emb := em_is_log_1) (qb := qb_is_log_1) [("row", 1)] (.one 1) hde_is_log_1 rfl sc_is_log.nd (iseq (dv 0)) (blkOk_by (own := [("row", 1)]) (N := N_is_log) (sc := defScope (top 17)) (by decide +kernel)) (fun _ _ _ _ _ => pg_name (i := 1) sc_is_log.nd rfl (Or.inl rfl)) (fun _ _ _ _ _ => tyes) (fun _ _ _ _ _ => (dfrz (dcn D_is_log_row (hr.mono (by decide)) hA (acons (dv 1) anil)))) (fun d i s sk yd h => Eq.mp (by kernel_rfl) h))) anil))))))).pt (sone (sret (m := 0) (dx db))) snil) (sone (sret (m := 0) (dx (dall (m_all T) rfl (acons (dfrz (dlc (dec := de_is_log_2) (emb := em_is_log_2) (qb := qb_is_log_2) [("one", 2), ("other", 3)] (.tup [2, 3]) hde_is_log_2 rfl sc_is_log.nd (izip (m_zip T) (acons (dv 0) (acons (dsl (dv 0) (so_some di) so_none) anil))) (blkOk_by (own := [("one", 2), ("other", 3)]) (N := N_is_log) (sc := defScope (top 17)) (by decide +kernel)) (fun _ _ _ _ _ => pg_tup rfl (pgs_cons (pg_name (i := 2) sc_is_log.nd rfl (Or.inl rfl)) (pgs_cons (pg_name (i := 3) sc_is_log.nd rfl (Or.inl rfl)) pgs_nil))) (fun _ _ _ _ _ => tyes) (fun _ _ _ _ _ => (dcmp op_ltA opr_ltA (dixP (dv 2) di) (dixP (dv 3) di) (nomark _))) (fun d i s sk yd h => Eq.mp (by kernel_rfl) h))) anil)))))), fun as Q h => ?_⟩
  unfold S_is_log at h
  split at h
  · unfold q_is_log at h
    rename_i x0
    refine at_env (b := [.dat x0, .un, .un, .un]) rfl ?_
    exact Eq.mp (by kernel_rfl) h
  · exact h.elim
theorem ok_is_log (T : Tp K mg) (D_is_log_row : Dn P w K mg base Tb "is_log_row" 3 ["thing"] S_is_log_row) : Dn P w K mg base Tb "is_log" 4 ["thing"] S_is_log := by
  obtain ⟨kV, doc, pm, an, cdv, ct, Fn⟩ := T.fun_ "is_log" (top 17) 7 82
  exact ⟨⟨_, fg_is_log T D_is_log_row Fn, Fn.binds (ps := ["thing"]) fun _ _ _ _ _ _ us hl => match us, hl with | [_], _ => rfl⟩, T.glo "is_log" 40, T.keep "is_log" 82⟩
def kk_is_name : RT → (PyData → Prop) := fun R v => R (.dat v) []
def em_is_name_1 (i : PyData) (s : Unit) : List SD := [.dat i, .un]
def de_is_name_1 : List SD → Option ((PyData) × (Unit))
  | [.dat x0, .un] => some (x0, ())
  | _ => none
theorem hde_is_name_1 : ∀ env i s, de_is_name_1 env = some (i, s) → env = em_is_name_1 i s := by
  intro env i s h
  unfold de_is_name_1 at h
  split at h
  · cases h; rfl
  · cases h
def S_is_name : DSp := fun as Q => match as with
  | [.dat x0] => q_is_name x0 (kk_is_name Q)
  | _ => False
theorem len_is_name (as : List SD) (Q : SD → List SD → Prop) (h : S_is_name as Q) : as.length = 1 := by
  unfold S_is_name at h
  split at h
  · rfl
  · exact h.elim
theorem cels_is_name : CelsIn 0 S_is_name := by
  intro as Q h i p xs e
  unfold S_is_name at h
  split at h
  · exact absurd e (no_cel (ds := [_]) i p xs)
  · exact h.elim
def N_is_name : List Str := ["thing", "sign"]
theorem sc_is_name : FnScope N_is_name ["thing"] (defScope (top 21)) := ⟨rfl, rfl, rfl, by decide +kernel, rfl, by decide +kernel, by decide +kernel⟩
theorem fg_is_name (T : Tp K mg)  {fd : FuncData} (Fn : Fun K "is_name" "is_name" (top 21) (He.ga K "is_name") fd) : FnG P w K mg base Tb 1 (He.ga K "is_name") fd ["thing"] S_is_name := by
  refine dfn 0 Fn sc_is_name len_is_name cels_is_name fun cdv A outer s H hr hA => ⟨_, (scons (sif (tor (tnot (dtest (disi "str" "str" (m_isinstance T) (m_str T) (by decide +kernel) (by decide +kernel) (dv 0)))) (tor1 (tnot (dchainT op_le op_le opr_le opr_le di (dlen (m_len T) (acons (dv 0) anil)) (dnum (c_MOST_SIGNS T)))))).pt (sone (sret (m := 0) (dx db))) snil) (sone (sret (m := 0) (dx (dall (m_all T) rfl (acons (dfrz (dlc (dec := de_is_name_1) (emb := em_is_name_1) (qb := qb_is_name_1) [("sign", 1)] (.one 1) hde_is_name_1 rfl sc_is_name.nd (iseq (dv 0)) (blkOk_by (own := [("sign", 1)]) (N := N_is_name) (sc := defScope (top 21)) (by decide +kernel)) (fun _ _ _ _ _ => pg_name (i := 1) sc_is_name.nd rfl (Or.inl rfl)) (fun _ _ _ _ _ => tyes) (fun _ _ _ _ _ => (din hr (dv 1) (dtxt (cs_LETTERS T)))) (fun d i s sk yd h => Eq.mp (by kernel_rfl) h))) anil)))))), fun as Q h => ?_⟩
  unfold S_is_name at h
  split at h
  · unfold q_is_name at h
    rename_i x0
    refine at_env (b := [.dat x0, .un]) rfl ?_
    exact Eq.mp (by kernel_rfl) h
  · exact h.elim
theorem ok_is_name (T : Tp K mg)  : Dn P w K mg base Tb "is_name" 1 ["thing"] S_is_name := by
  obtain ⟨kV, doc, pm, an, cdv, ct, Fn⟩ := T.fun_ "is_name" (top 21) 8 83
  exact ⟨⟨_, fg_is_name T  Fn, Fn.binds (ps := ["thing"]) fun _ _ _ _ _ _ us hl => match us, hl with | [_], _ => rfl⟩, T.glo "is_name" 41, T.keep "is_name" 83⟩
def kk_are_heads : RT → (PyData → Prop) := fun R v => R (.dat v) []
def em_are_heads_1 (i : PyData) (s : Unit) : List SD := [.dat i, .un, .un]
def de_are_heads_1 : List SD → Option ((PyData) × (Unit))
  | [.dat x0, .un, .un] => some (x0, ())
  | _ => none
theorem hde_are_heads_1 : ∀ env i s, de_are_heads_1 env = some (i, s) → env = em_are_heads_1 i s := by
  intro env i s h
  unfold de_are_heads_1 at h
  split at h
  · cases h; rfl
  · cases h
def S_are_heads : DSp := fun as Q => match as with
  | [.dat x0, .dat x1] => q_are_heads x0 x1 (kk_are_heads Q)
  | _ => False
theorem len_are_heads (as : List SD) (Q : SD → List SD → Prop) (h : S_are_heads as Q) : as.length = 2 := by
  unfold S_are_heads at h
  split at h
  · rfl
  · exact h.elim
theorem cels_are_heads : CelsIn 0 S_are_heads := by
  intro as Q h i p xs e
  unfold S_are_heads at h
  split at h
  · exact absurd e (no_cel (ds := [_, _]) i p xs)
  · exact h.elim
def N_are_heads : List Str := ["thing", "many", "head"]
theorem sc_are_heads : FnScope N_are_heads ["thing", "many"] (defScope (top 26)) := ⟨rfl, rfl, rfl, by decide +kernel, rfl, by decide +kernel, by decide +kernel⟩
theorem fg_are_heads (T : Tp K mg) (D_is_whole : Dn P w K mg base Tb "is_whole" 1 ["thing"] S_is_whole) {fd : FuncData} (Fn : Fun K "are_heads" "are_heads" (top 26) (He.ga K "are_heads") fd) : FnG P w K mg base Tb 2 (He.ga K "are_heads") fd ["thing", "many"] S_are_heads := by
  refine dfn 0 Fn sc_are_heads len_are_heads cels_are_heads fun cdv A outer s H hr hA => ⟨_, (scons (sif (tor (tnot (dtest (disi "tuple" "tuple" (m_isinstance T) (m_tuple T) (by decide +kernel) (by decide +kernel) (dv 0)))) (tor1 (dcmpT (op_neE hr.units) opd_ne (dlen (m_len T) (acons (dv 0) anil)) (dv 1) (nomark _)))).pt (sone (sret (m := 0) (dx db))) snil) (ssforget [1] (sone (sret (m := 0) (dx (dall (m_all T) rfl (acons (dfrz (dlc (dec := de_are_heads_1) (emb := em_are_heads_1) (qb := qb_are_heads_1) [("head", 2)] (.one 2) hde_are_heads_1 rfl sc_are_heads.nd (iseq (dv 0)) (blkOk_by (own := [("head", 2)]) (N := N_are_heads) (sc := defScope (top 26)) (by decide +kernel)) (fun _ _ _ _ _ => pg_name (i := 2) sc_are_heads.nd rfl (Or.inl rfl)) (fun _ _ _ _ _ => tyes) (fun _ _ _ _ _ => (dandV (dfrz (dcn D_is_whole (hr.mono (by decide)) hA (acons (dv 2) anil))) (done (dcmp op_ge opr_ge (dv 2) di (nomark _))))) (fun d i s sk yd h => Eq.mp (by kernel_rfl) h))) anil))))))), fun as Q h => ?_⟩
  unfold S_are_heads at h
  split at h
  · unfold q_are_heads at h
    rename_i x0 x1
    refine at_env (b := [.dat x0, .dat x1, .un]) rfl ?_
    exact Eq.mp (by kernel_rfl) h
  · exact h.elim
theorem ok_are_heads (T : Tp K mg) (D_is_whole : Dn P w K mg base Tb "is_whole" 1 ["thing"] S_is_whole) : Dn P w K mg base Tb "are_heads" 2 ["thing", "many"] S_are_heads := by
  obtain ⟨kV, doc, pm, an, cdv, ct, Fn⟩ := T.fun_ "are_heads" (top 26) 9 84
  exact ⟨⟨_, fg_are_heads T D_is_whole Fn, Fn.binds (ps := ["thing", "many"]) fun _ _ _ _ _ _ us hl => match us, hl with | [_, _], _ => rfl⟩, T.glo "are_heads" 42, T.keep "are_heads" 84⟩
def kk_are_eighths : RT → (PyData → Prop) := fun R v => R (.dat v) []
def S_are_eighths : DSp := fun as Q => match as with
  | [.dat x0] => q_are_eighths x0 (kk_are_eighths Q)
  | _ => False
theorem len_are_eighths (as : List SD) (Q : SD → List SD → Prop) (h : S_are_eighths as Q) : as.length = 1 := by
  unfold S_are_eighths at h
  split at h
  · rfl
  · exact h.elim
theorem cels_are_eighths : CelsIn 0 S_are_eighths := by
  intro as Q h i p xs e
  unfold S_are_eighths at h
  split at h
  · exact absurd e (no_cel (ds := [_]) i p xs)
  · exact h.elim
def N_are_eighths : List Str := ["thing"]
theorem sc_are_eighths : FnScope N_are_eighths ["thing"] (defScope (top 27)) := ⟨rfl, rfl, rfl, by decide +kernel, rfl, by decide +kernel, by decide +kernel⟩
theorem fg_are_eighths (T : Tp K mg) (D_are_heads : Dn P w K mg base Tb "are_heads" 2 ["thing", "many"] S_are_heads) {fd : FuncData} (Fn : Fun K "are_eighths" "are_eighths" (top 27) (He.ga K "are_eighths") fd) : FnG P w K mg base Tb 3 (He.ga K "are_eighths") fd ["thing"] S_are_eighths := by
  refine dfn 0 Fn sc_are_eighths len_are_eighths cels_are_eighths fun cdv A outer s H hr hA => ⟨_, (scons (sif (tor (tnot (dtest (disi "tuple" "tuple" (m_isinstance T) (m_tuple T) (by decide +kernel) (by decide +kernel) (dv 0)))) (tor1 (tnot (dchainT op_le op_le opr_le opr_le di (dlen (m_len T) (acons (dv 0) anil)) (dnum (c_MOST_CLASSES T)))))).pt (sone (sret (m := 0) (dx db))) snil) (sone (sret (m := 0) (dx (dandV (dfrz (dcn D_are_heads (hr.mono (by decide)) hA (acons (dv 0) (acons (dlen (m_len T) (acons (dv 0) anil)) anil)))) (done (dcmp (op_eqE hr.units) opd_eq (dsum (m_sum T) rfl (acons (dv 0) anil)) (dnum (c_WHOLE T)) (nomark _)))))))), fun as Q h => ?_⟩
  unfold S_are_eighths at h
  split at h
  · unfold q_are_eighths at h
    rename_i x0
    refine at_env (b := [.dat x0]) rfl ?_
    exact Eq.mp (by kernel_rfl) h
  · exact h.elim
theorem ok_are_eighths (T : Tp K mg) (D_are_heads : Dn P w K mg base Tb "are_heads" 2 ["thing", "many"] S_are_heads) : Dn P w K mg base Tb "are_eighths" 3 ["thing"] S_are_eighths := by
  obtain ⟨kV, doc, pm, an, cdv, ct, Fn⟩ := T.fun_ "are_eighths" (top 27) 10 85
  exact ⟨⟨_, fg_are_eighths T D_are_heads Fn, Fn.binds (ps := ["thing"]) fun _ _ _ _ _ _ us hl => match us, hl with | [_], _ => rfl⟩, T.glo "are_eighths" 43, T.keep "are_eighths" 85⟩
def kk_is_pair : RT → (PyData → Prop) := fun R v => R (.dat v) []
def S_is_pair : DSp := fun as Q => match as with
  | [.dat x0, .dat x1] => q_is_pair x0 x1 (kk_is_pair Q)
  | _ => False
theorem len_is_pair (as : List SD) (Q : SD → List SD → Prop) (h : S_is_pair as Q) : as.length = 2 := by
  unfold S_is_pair at h
  split at h
  · rfl
  · exact h.elim
theorem cels_is_pair : CelsIn 0 S_is_pair := by
  intro as Q h i p xs e
  unfold S_is_pair at h
  split at h
  · exact absurd e (no_cel (ds := [_, _]) i p xs)
  · exact h.elim
def N_is_pair : List Str := ["thing", "classes"]
theorem sc_is_pair : FnScope N_is_pair ["thing", "classes"] (defScope (top 28)) := ⟨rfl, rfl, rfl, by decide +kernel, rfl, by decide +kernel, by decide +kernel⟩
theorem fg_is_pair (T : Tp K mg) (D_is_name : Dn P w K mg base Tb "is_name" 1 ["thing"] S_is_name) (D_is_whole : Dn P w K mg base Tb "is_whole" 1 ["thing"] S_is_whole) {fd : FuncData} (Fn : Fun K "is_pair" "is_pair" (top 28) (He.ga K "is_pair") fd) : FnG P w K mg base Tb 2 (He.ga K "is_pair") fd ["thing", "classes"] S_is_pair := by
  refine dfn 0 Fn sc_is_pair len_is_pair cels_is_pair fun cdv A outer s H hr hA => ⟨_, (scons (sif (tor (tnot (dtest (disi "tuple" "tuple" (m_isinstance T) (m_tuple T) (by decide +kernel) (by decide +kernel) (dv 0)))) (tor (dcmpT (op_neE hr.units) opd_ne (dlen (m_len T) (acons (dv 0) anil)) di (nomark _)) (tor1 (tnot (dtest (dfrz (dcn D_is_name (hr.mono (by decide)) hA (acons (dixP (dv 0) di) anil)))))))).pt (sone (sret (m := 0) (dx db))) snil) (sone (sret (m := 0) (dx (dandV (dfrz (dcn D_is_whole (hr.mono (by decide)) hA (acons (dixP (dv 0) di) anil))) (done (dchain op_le op_ltA opr_le opr_ltA di (dixP (dv 0) di) (dv 1)))))))), fun as Q h => ?_⟩
  unfold S_is_pair at h
  split at h
  · unfold q_is_pair at h
    rename_i x0 x1
    refine at_env (b := [.dat x0, .dat x1]) rfl ?_
    exact Eq.mp (by kernel_rfl) h
  · exact h.elim
theorem ok_is_pair (T : Tp K mg) (D_is_name : Dn P w K mg base Tb "is_name" 1 ["thing"] S_is_name) (D_is_whole : Dn P w K mg base Tb "is_whole" 1 ["thing"] S_is_whole) : Dn P w K mg base Tb "is_pair" 2 ["thing", "classes"] S_is_pair := by
  obtain ⟨kV, doc, pm, an, cdv, ct, Fn⟩ := T.fun_ "is_pair" (top 28) 11 86
  exact ⟨⟨_, fg_is_pair T D_is_name D_is_whole Fn, Fn.binds (ps := ["thing", "classes"]) fun _ _ _ _ _ _ us hl => match us, hl with | [_, _], _ => rfl⟩, T.glo "is_pair" 44, T.keep "is_pair" 86⟩
def kk_is_scheme : RT → (PyData → Prop) := fun R v => R (.dat v) []
def em_is_scheme_1 (i : PyData × PyData) (s : Unit) : List SD := [.un, .dat i.1, .dat i.2, .un, .un, .un]
def de_is_scheme_1 : List SD → Option ((PyData × PyData) × (Unit))
  | [.un, .dat x1, .dat x2, .un, .un, .un] => some ((x1, x2), ())
  | _ => none
theorem hde_is_scheme_1 : ∀ env i s, de_is_scheme_1 env = some (i, s) → env = em_is_scheme_1 i s := by
  intro env i s h
  unfold de_is_scheme_1 at h
  split at h
  · cases h; rfl
  · cases h
def em_is_scheme_2 (i : PyData) (s : Unit) : List SD := [.un, .un, .dat i, .un, .un, .un]
def de_is_scheme_2 : List SD → Option ((PyData) × (Unit))
  | [.un, .un, .dat x2, .un, .un, .un] => some (x2, ())
  | _ => none
theorem hde_is_scheme_2 : ∀ env i s, de_is_scheme_2 env = some (i, s) → env = em_is_scheme_2 i s := by
  intro env i s h
  unfold de_is_scheme_2 at h
  split at h
  · cases h; rfl
  · cases h
def S_is_scheme : DSp := fun as Q => match as with
  | [.dat x0] => q_is_scheme x0 (kk_is_scheme Q)
  | _ => False
theorem len_is_scheme (as : List SD) (Q : SD → List SD → Prop) (h : S_is_scheme as Q) : as.length = 1 := by
  unfold S_is_scheme at h
  split at h
  · rfl
  · exact h.elim
theorem cels_is_scheme : CelsIn 0 S_is_scheme := by
  intro as Q h i p xs e
  unfold S_is_scheme at h
  split at h
  · exact absurd e (no_cel (ds := [_]) i p xs)
  · exact h.elim
def N_is_scheme : List Str := ["thing", "eighths", "ranks", "pair", "one", "other"]
theorem sc_is_scheme : FnScope N_is_scheme ["thing"] (defScope (top 29)) := ⟨rfl, rfl, rfl, by decide +kernel, rfl, by decide +kernel, by decide +kernel⟩
theorem fg_is_scheme (T : Tp K mg) (D_are_eighths : Dn P w K mg base Tb "are_eighths" 3 ["thing"] S_are_eighths) (D_is_pair : Dn P w K mg base Tb "is_pair" 2 ["thing", "classes"] S_is_pair) {fd : FuncData} (Fn : Fun K "is_scheme" "is_scheme" (top 29) (He.ga K "is_scheme") fd) : FnG P w K mg base Tb 4 (He.ga K "is_scheme") fd ["thing"] S_is_scheme := by
  refine dfn 0 Fn sc_is_scheme len_is_scheme cels_is_scheme fun cdv A outer s H hr hA => ⟨_, (scons (sif (tor (tnot (dtest (disi "tuple" "tuple" (m_isinstance T) (m_tuple T) (by decide +kernel) (by decide +kernel) (dv 0)))) (tor (dcmpT (op_neE hr.units) opd_ne (dlen (m_len T) (acons (dv 0) anil)) di (nomark _)) (tor1 (tnot (dtest (dfrz (dcn D_are_eighths (hr.mono (by decide)) hA (acons (dixP (dv 0) di) anil)))))))).pt (sone (sret (m := 0) (dx db))) snil) (scons (sasg (dv 0) (gtup (gl_cons gok_n (gl_cons gok_n gl_nil)) rfl (gcons (gn 1 sc_is_scheme.nd) (gcons (gn 2 sc_is_scheme.nd) gnil)))) (ssforget [0] (scons (sif (tor (tnot (dtest (disi "tuple" "tuple" (m_isinstance T) (m_tuple T) (by decide +kernel) (by decide +kernel) (dv 2)))) (tor1 (dcmpT op_gt opr_gt (dlen (m_len T) (acons (dv 2) anil)) (dnum (c_MOST_RANKS T)) (nomark _)))).pt (sone (sret (m := 0) (dx db))) snil) (scons (sif (tnot (dtest (dall (m_all T) rfl (acons (dfrz (dlc (dec := de_is_scheme_1) (emb := em_is_scheme_1) (qb := qb_is_scheme_1) [("pair", 3)] (.one 3) hde_is_scheme_1 rfl sc_is_scheme.nd (iseq (dv 2)) (blkOk_by (own := [("pair", 3)]) (N := N_is_scheme) (sc := defScope (top 29)) (by decide +kernel)) (fun _ _ _ _ _ => pg_name (i := 3) sc_is_scheme.nd rfl (Or.inl rfl)) (fun _ _ _ _ _ => tyes) (fun _ _ _ _ _ => (dfrz (dcn D_is_pair (hr.mono (by decide)) hA (acons (dv 3) (acons (dlen (m_len T) (acons (dv 1) anil)) anil))))) (fun d i s sk yd h => Eq.mp (by kernel_rfl) h))) anil)))) (sone (sret (m := 0) (dx db))) snil) (ssforget [1] (sone (sret (m := 0) (dx (dall (m_all T) rfl (acons (dfrz (dlc (dec := de_is_scheme_2) (emb := em_is_scheme_2) (qb := qb_is_scheme_2) [("one", 4), ("other", 5)] (.tup [4, 5]) hde_is_scheme_2 rfl sc_is_scheme.nd (izip (m_zip T) (acons (dv 2) (acons (dsl (dv 2) (so_some di) so_none) anil))) (blkOk_by (own := [("one", 4), ("other", 5)]) (N := N_is_scheme) (sc := defScope (top 29)) (by decide +kernel)) (fun _ _ _ _ _ => pg_tup rfl (pgs_cons (pg_name (i := 4) sc_is_scheme.nd rfl (Or.inl rfl)) (pgs_cons (pg_name (i := 5) sc_is_scheme.nd rfl (Or.inl rfl)) pgs_nil))) (fun _ _ _ _ _ => tyes) (fun _ _ _ _ _ => (dcmp op_ltA opr_ltA (dixP (dv 4) di) (dixP (dv 5) di) (nomark _))) (fun d i s sk yd h => Eq.mp (by kernel_rfl) h))) anil))))))))))), fun as Q h => ?_⟩
  unfold S_is_scheme at h
  split at h
  · unfold q_is_scheme at h
    rename_i x0
    refine at_env (b := [.dat x0, .un, .un, .un, .un, .un]) rfl ?_
    exact Eq.mp (by kernel_rfl) h
  · exact h.elim
theorem ok_is_scheme (T : Tp K mg) (D_are_eighths : Dn P w K mg base Tb "are_eighths" 3 ["thing"] S_are_eighths) (D_is_pair : Dn P w K mg base Tb "is_pair" 2 ["thing", "classes"] S_is_pair) : Dn P w K mg base Tb "is_scheme" 4 ["thing"] S_is_scheme := by
  obtain ⟨kV, doc, pm, an, cdv, ct, Fn⟩ := T.fun_ "is_scheme" (top 29) 12 87
  exact ⟨⟨_, fg_is_scheme T D_are_eighths D_is_pair Fn, Fn.binds (ps := ["thing"]) fun _ _ _ _ _ _ us hl => match us, hl with | [_], _ => rfl⟩, T.glo "is_scheme" 45, T.keep "is_scheme" 87⟩
def kk_is_part : RT → (PyData → Prop) := fun R v => R (.dat v) []
def S_is_part : DSp := fun as Q => match as with
  | [.dat x0] => q_is_part x0 (kk_is_part Q)
  | _ => False
theorem len_is_part (as : List SD) (Q : SD → List SD → Prop) (h : S_is_part as Q) : as.length = 1 := by
  unfold S_is_part at h
  split at h
  · rfl
  · exact h.elim
theorem cels_is_part : CelsIn 0 S_is_part := by
  intro as Q h i p xs e
  unfold S_is_part at h
  split at h
  · exact absurd e (no_cel (ds := [_]) i p xs)
  · exact h.elim
def N_is_part : List Str := ["thing"]
theorem sc_is_part : FnScope N_is_part ["thing"] (defScope (top 35)) := ⟨rfl, rfl, rfl, by decide +kernel, rfl, by decide +kernel, by decide +kernel⟩
theorem fg_is_part (T : Tp K mg) (D_is_fraction : Dn P w K mg base Tb "is_fraction" 3 ["thing"] S_is_fraction) {fd : FuncData} (Fn : Fun K "is_part" "is_part" (top 35) (He.ga K "is_part") fd) : FnG P w K mg base Tb 4 (He.ga K "is_part") fd ["thing"] S_is_part := by
  refine dfn 0 Fn sc_is_part len_is_part cels_is_part fun cdv A outer s H hr hA => ⟨_, (sone (sret (m := 0) (dx (dandV (dfrz (dcn D_is_fraction (hr.mono (by decide)) hA (acons (dv 0) anil))) (done (dchain op_le op_le opr_le opr_le di (dixP (dv 0) di) (dixP (dv 0) di))))))), fun as Q h => ?_⟩
  unfold S_is_part at h
  split at h
  · unfold q_is_part at h
    rename_i x0
    refine at_env (b := [.dat x0]) rfl ?_
    exact Eq.mp (by kernel_rfl) h
  · exact h.elim
theorem ok_is_part (T : Tp K mg) (D_is_fraction : Dn P w K mg base Tb "is_fraction" 3 ["thing"] S_is_fraction) : Dn P w K mg base Tb "is_part" 4 ["thing"] S_is_part := by
  obtain ⟨kV, doc, pm, an, cdv, ct, Fn⟩ := T.fun_ "is_part" (top 35) 13 88
  exact ⟨⟨_, fg_is_part T D_is_fraction Fn, Fn.binds (ps := ["thing"]) fun _ _ _ _ _ _ us hl => match us, hl with | [_], _ => rfl⟩, T.glo "is_part" 46, T.keep "is_part" 88⟩
def kk_is_sale : RT → (PyData → Prop) := fun R v => R (.dat v) []
def em_is_sale_1 (i : PyData × PyData) (s : Unit) : List SD := [.dat i.1, .dat i.2, .un, .un]
def de_is_sale_1 : List SD → Option ((PyData × PyData) × (Unit))
  | [.dat x0, .dat x1, .un, .un] => some ((x0, x1), ())
  | _ => none
theorem hde_is_sale_1 : ∀ env i s, de_is_sale_1 env = some (i, s) → env = em_is_sale_1 i s := by
  intro env i s h
  unfold de_is_sale_1 at h
  split at h
  · cases h; rfl
  · cases h
def S_is_sale : DSp := fun as Q => match as with
  | [.dat x0] => q_is_sale x0 (kk_is_sale Q)
  | _ => False
theorem len_is_sale (as : List SD) (Q : SD → List SD → Prop) (h : S_is_sale as Q) : as.length = 1 := by
  unfold S_is_sale at h
  split at h
  · rfl
  · exact h.elim
theorem cels_is_sale : CelsIn 0 S_is_sale := by
  intro as Q h i p xs e
  unfold S_is_sale at h
  split at h
  · exact absurd e (no_cel (ds := [_]) i p xs)
  · exact h.elim
def N_is_sale : List Str := ["thing", "most", "number", "bound"]
theorem sc_is_sale : FnScope N_is_sale ["thing"] (defScope (top 36)) := ⟨rfl, rfl, rfl, by decide +kernel, rfl, by decide +kernel, by decide +kernel⟩
theorem fg_is_sale (T : Tp K mg) (D_is_part : Dn P w K mg base Tb "is_part" 4 ["thing"] S_is_part) (D_is_within : Dn P w K mg base Tb "is_within" 2 ["thing", "least", "most"] S_is_within) {fd : FuncData} (Fn : Fun K "is_sale" "is_sale" (top 36) (He.ga K "is_sale") fd) : FnG P w K mg base Tb 5 (He.ga K "is_sale") fd ["thing"] S_is_sale := by
  refine dfn 0 Fn sc_is_sale len_is_sale cels_is_sale fun cdv A outer s H hr hA => ⟨_, (scons (sif (tor (tnot (dtest (disi "tuple" "tuple" (m_isinstance T) (m_tuple T) (by decide +kernel) (by decide +kernel) (dv 0)))) (tor (dcmpT (op_neE hr.units) opd_ne (dlen (m_len T) (acons (dv 0) anil)) di (nomark _)) (tor1 (tnot (dtest (dfrz (dcn D_is_part (hr.mono (by decide)) hA (acons (dixP (dv 0) di) anil)))))))).pt (sone (sret (m := 0) (dx db))) snil) (scons (sset 1 sc_is_sale.nd (dx (dtup (acons (dnum (c_MOST_GROSS T)) (acons (dnum (c_MOST_GROSS T)) (acons (dnum (c_MOST_RATE T)) (acons (dnum (c_MOST_HEADS T)) (acons (dnum (c_MOST_BOUNTY T)) anil)))))))) (sone (sret (m := 0) (dx (dall (m_all T) rfl (acons (dfrz (dlc (dec := de_is_sale_1) (emb := em_is_sale_1) (qb := qb_is_sale_1) [("number", 2), ("bound", 3)] (.tup [2, 3]) hde_is_sale_1 rfl sc_is_sale.nd (izip (m_zip T) (acons (dv 0) (acons (dv 1) anil))) (blkOk_by (own := [("number", 2), ("bound", 3)]) (N := N_is_sale) (sc := defScope (top 36)) (by decide +kernel)) (fun _ _ _ _ _ => pg_tup rfl (pgs_cons (pg_name (i := 2) sc_is_sale.nd rfl (Or.inl rfl)) (pgs_cons (pg_name (i := 3) sc_is_sale.nd rfl (Or.inl rfl)) pgs_nil))) (fun _ _ _ _ _ => tyes) (fun _ _ _ _ _ => (dfrz (dcn D_is_within (hr.mono (by decide)) hA (acons (dv 2) (acons di (acons (dv 3) anil)))))) (fun d i s sk yd h => Eq.mp (by kernel_rfl) h))) anil))))))), fun as Q h => ?_⟩
  unfold S_is_sale at h
  split at h
  · unfold q_is_sale at h
    rename_i x0
    refine at_env (b := [.dat x0, .un, .un, .un]) rfl ?_
    exact Eq.mp (by kernel_rfl) h
  · exact h.elim
theorem ok_is_sale (T : Tp K mg) (D_is_part : Dn P w K mg base Tb "is_part" 4 ["thing"] S_is_part) (D_is_within : Dn P w K mg base Tb "is_within" 2 ["thing", "least", "most"] S_is_within) : Dn P w K mg base Tb "is_sale" 5 ["thing"] S_is_sale := by
  obtain ⟨kV, doc, pm, an, cdv, ct, Fn⟩ := T.fun_ "is_sale" (top 36) 14 89
  exact ⟨⟨_, fg_is_sale T D_is_part D_is_within Fn, Fn.binds (ps := ["thing"]) fun _ _ _ _ _ _ us hl => match us, hl with | [_], _ => rfl⟩, T.glo "is_sale" 47, T.keep "is_sale" 89⟩
def kk_is_hour : RT → (PyData → Prop) := fun R v => R (.dat v) []
def S_is_hour : DSp := fun as Q => match as with
  | [.dat x0] => q_is_hour x0 (kk_is_hour Q)
  | _ => False
theorem len_is_hour (as : List SD) (Q : SD → List SD → Prop) (h : S_is_hour as Q) : as.length = 1 := by
  unfold S_is_hour at h
  split at h
  · rfl
  · exact h.elim
theorem cels_is_hour : CelsIn 0 S_is_hour := by
  intro as Q h i p xs e
  unfold S_is_hour at h
  split at h
  · exact absurd e (no_cel (ds := [_]) i p xs)
  · exact h.elim
def N_is_hour : List Str := ["thing"]
theorem sc_is_hour : FnScope N_is_hour ["thing"] (defScope (top 43)) := ⟨rfl, rfl, rfl, by decide +kernel, rfl, by decide +kernel, by decide +kernel⟩
theorem fg_is_hour (T : Tp K mg) (D_is_within : Dn P w K mg base Tb "is_within" 2 ["thing", "least", "most"] S_is_within) {fd : FuncData} (Fn : Fun K "is_hour" "is_hour" (top 43) (He.ga K "is_hour") fd) : FnG P w K mg base Tb 3 (He.ga K "is_hour") fd ["thing"] S_is_hour := by
  refine dfn 0 Fn sc_is_hour len_is_hour cels_is_hour fun cdv A outer s H hr hA => ⟨_, (sone (sret (m := 0) (dx (dfrz (dcn D_is_within (hr.mono (by decide)) hA (acons (dv 0) (acons di (acons (dnum (c_MOST_HOUR T)) anil)))))))), fun as Q h => ?_⟩
  unfold S_is_hour at h
  split at h
  · unfold q_is_hour at h
    rename_i x0
    refine at_env (b := [.dat x0]) rfl ?_
    exact Eq.mp (by kernel_rfl) h
  · exact h.elim
theorem ok_is_hour (T : Tp K mg) (D_is_within : Dn P w K mg base Tb "is_within" 2 ["thing", "least", "most"] S_is_within) : Dn P w K mg base Tb "is_hour" 3 ["thing"] S_is_hour := by
  obtain ⟨kV, doc, pm, an, cdv, ct, Fn⟩ := T.fun_ "is_hour" (top 43) 15 90
  exact ⟨⟨_, fg_is_hour T D_is_within Fn, Fn.binds (ps := ["thing"]) fun _ _ _ _ _ _ us hl => match us, hl with | [_], _ => rfl⟩, T.glo "is_hour" 48, T.keep "is_hour" 90⟩
def kk_is_hour_pages : RT → (PyData → Prop) := fun R v => R (.dat v) []
def S_is_hour_pages : DSp := fun as Q => match as with
  | [.dat x0] => q_is_hour_pages x0 (kk_is_hour_pages Q)
  | _ => False
theorem len_is_hour_pages (as : List SD) (Q : SD → List SD → Prop) (h : S_is_hour_pages as Q) : as.length = 1 := by
  unfold S_is_hour_pages at h
  split at h
  · rfl
  · exact h.elim
theorem cels_is_hour_pages : CelsIn 0 S_is_hour_pages := by
  intro as Q h i p xs e
  unfold S_is_hour_pages at h
  split at h
  · exact absurd e (no_cel (ds := [_]) i p xs)
  · exact h.elim
def N_is_hour_pages : List Str := ["thing"]
theorem sc_is_hour_pages : FnScope N_is_hour_pages ["thing"] (defScope (top 43)) := ⟨rfl, rfl, rfl, by decide +kernel, rfl, by decide +kernel, by decide +kernel⟩
theorem fg_is_hour_pages (T : Tp K mg) (D_is_within : Dn P w K mg base Tb "is_within" 2 ["thing", "least", "most"] S_is_within) {fd : FuncData} (Fn : Fun K "is_hour" "is_hour" (top 43) (He.ga K "is_hour_pages") fd) : FnG P w K mg base Tb 3 (He.ga K "is_hour_pages") fd ["thing"] S_is_hour_pages := by
  refine dfn 0 Fn sc_is_hour_pages len_is_hour_pages cels_is_hour_pages fun cdv A outer s H hr hA => ⟨_, (sone (sret (m := 0) (dx (dfrz (dcn D_is_within (hr.mono (by decide)) hA (acons (dv 0) (acons di (acons (dnum (c_MOST_HOUR T)) anil)))))))), fun as Q h => ?_⟩
  unfold S_is_hour_pages at h
  split at h
  · unfold q_is_hour_pages at h
    rename_i x0
    refine at_env (b := [.dat x0]) rfl ?_
    exact Eq.mp (by kernel_rfl) h
  · exact h.elim
theorem ok_is_hour_pages (T : Tp K mg) (D_is_within : Dn P w K mg base Tb "is_within" 2 ["thing", "least", "most"] S_is_within) : Dn P w K mg base Tb "is_hour_pages" 3 ["thing"] S_is_hour_pages := by
  obtain ⟨kV, doc, pm, an, cdv, ct, Fn⟩ := T.funA "is_hour_pages" "is_hour" (top 43) 16 91
  exact ⟨⟨_, fg_is_hour_pages T D_is_within Fn, Fn.binds (ps := ["thing"]) fun _ _ _ _ _ _ us hl => match us, hl with | [_], _ => rfl⟩, T.glo "is_hour_pages" 49, T.keep "is_hour_pages" 91⟩
def kk_is_day : RT → (PyData → Prop) := fun R v => R (.dat v) []
def S_is_day : DSp := fun as Q => match as with
  | [.dat x0] => q_is_day x0 (kk_is_day Q)
  | _ => False
theorem len_is_day (as : List SD) (Q : SD → List SD → Prop) (h : S_is_day as Q) : as.length = 1 := by
  unfold S_is_day at h
  split at h
  · rfl
  · exact h.elim
theorem cels_is_day : CelsIn 0 S_is_day := by
  intro as Q h i p xs e
  unfold S_is_day at h
  split at h
  · exact absurd e (no_cel (ds := [_]) i p xs)
  · exact h.elim
def N_is_day : List Str := ["thing"]
theorem sc_is_day : FnScope N_is_day ["thing"] (defScope (top 45)) := ⟨rfl, rfl, rfl, by decide +kernel, rfl, by decide +kernel, by decide +kernel⟩
theorem fg_is_day (T : Tp K mg) (D_is_within : Dn P w K mg base Tb "is_within" 2 ["thing", "least", "most"] S_is_within) {fd : FuncData} (Fn : Fun K "is_day" "is_day" (top 45) (He.ga K "is_day") fd) : FnG P w K mg base Tb 3 (He.ga K "is_day") fd ["thing"] S_is_day := by
  refine dfn 0 Fn sc_is_day len_is_day cels_is_day fun cdv A outer s H hr hA => ⟨_, (sone (sret (m := 0) (dx (dfrz (dcn D_is_within (hr.mono (by decide)) hA (acons (dv 0) (acons di (acons (dnum (c_MOST_DAY T)) anil)))))))), fun as Q h => ?_⟩
  unfold S_is_day at h
  split at h
  · unfold q_is_day at h
    rename_i x0
    refine at_env (b := [.dat x0]) rfl ?_
    exact Eq.mp (by kernel_rfl) h
  · exact h.elim
theorem ok_is_day (T : Tp K mg) (D_is_within : Dn P w K mg base Tb "is_within" 2 ["thing", "least", "most"] S_is_within) : Dn P w K mg base Tb "is_day" 3 ["thing"] S_is_day := by
  obtain ⟨kV, doc, pm, an, cdv, ct, Fn⟩ := T.fun_ "is_day" (top 45) 17 92
  exact ⟨⟨_, fg_is_day T D_is_within Fn, Fn.binds (ps := ["thing"]) fun _ _ _ _ _ _ us hl => match us, hl with | [_], _ => rfl⟩, T.glo "is_day" 50, T.keep "is_day" 92⟩
def kk_is_muster : RT → (PyData → Prop) := fun R v => R (.dat v) []
def S_is_muster : DSp := fun as Q => match as with
  | [.dat x0] => q_is_muster x0 (kk_is_muster Q)
  | _ => False
theorem len_is_muster (as : List SD) (Q : SD → List SD → Prop) (h : S_is_muster as Q) : as.length = 1 := by
  unfold S_is_muster at h
  split at h
  · rfl
  · exact h.elim
theorem cels_is_muster : CelsIn 0 S_is_muster := by
  intro as Q h i p xs e
  unfold S_is_muster at h
  split at h
  · exact absurd e (no_cel (ds := [_]) i p xs)
  · exact h.elim
def N_is_muster : List Str := ["body"]
theorem sc_is_muster : FnScope N_is_muster ["body"] (defScope (top 46)) := ⟨rfl, rfl, rfl, by decide +kernel, rfl, by decide +kernel, by decide +kernel⟩
theorem fg_is_muster (T : Tp K mg) (D_is_hour_pages : Dn P w K mg base Tb "is_hour_pages" 3 ["thing"] S_is_hour_pages) (D_is_name : Dn P w K mg base Tb "is_name" 1 ["thing"] S_is_name) {fd : FuncData} (Fn : Fun K "is_muster" "is_muster" (top 46) (He.ga K "is_muster") fd) : FnG P w K mg base Tb 4 (He.ga K "is_muster") fd ["body"] S_is_muster := by
  refine dfn 0 Fn sc_is_muster len_is_muster cels_is_muster fun cdv A outer s H hr hA => ⟨_, (sone (sret (m := 0) (dx (dandV (dfrz (dcn D_is_name (hr.mono (by decide)) hA (acons (dixP (dv 0) di) anil))) (dandV (dfrz (dcn D_is_hour_pages (hr.mono (by decide)) hA (acons (dixP (dv 0) di) anil))) (dandV (dorV (dcmp (op_eqE hr.units) opd_eq (dixP (dv 0) di) ds (nomark _)) (done (dfrz (dcn D_is_name (hr.mono (by decide)) hA (acons (dixP (dv 0) di) anil))))) (done (dfrz (dcn D_is_name (hr.mono (by decide)) hA (acons (dixP (dv 0) di) anil)))))))))), fun as Q h => ?_⟩
  unfold S_is_muster at h
  split at h
  · unfold q_is_muster at h
    rename_i x0
    refine at_env (b := [.dat x0]) rfl ?_
    exact Eq.mp (by kernel_rfl) h
  · exact h.elim
theorem ok_is_muster (T : Tp K mg) (D_is_hour_pages : Dn P w K mg base Tb "is_hour_pages" 3 ["thing"] S_is_hour_pages) (D_is_name : Dn P w K mg base Tb "is_name" 1 ["thing"] S_is_name) : Dn P w K mg base Tb "is_muster" 4 ["body"] S_is_muster := by
  obtain ⟨kV, doc, pm, an, cdv, ct, Fn⟩ := T.fun_ "is_muster" (top 46) 18 93
  exact ⟨⟨_, fg_is_muster T D_is_hour_pages D_is_name Fn, Fn.binds (ps := ["body"]) fun _ _ _ _ _ _ us hl => match us, hl with | [_], _ => rfl⟩, T.glo "is_muster" 51, T.keep "is_muster" 93⟩
def kk_is_taking : RT → (PyData → Prop) := fun R v => R (.dat v) []
def S_is_taking : DSp := fun as Q => match as with
  | [.dat x0] => q_is_taking x0 (kk_is_taking Q)
  | _ => False
theorem len_is_taking (as : List SD) (Q : SD → List SD → Prop) (h : S_is_taking as Q) : as.length = 1 := by
  unfold S_is_taking at h
  split at h
  · rfl
  · exact h.elim
theorem cels_is_taking : CelsIn 0 S_is_taking := by
  intro as Q h i p xs e
  unfold S_is_taking at h
  split at h
  · exact absurd e (no_cel (ds := [_]) i p xs)
  · exact h.elim
def N_is_taking : List Str := ["body"]
theorem sc_is_taking : FnScope N_is_taking ["body"] (defScope (top 47)) := ⟨rfl, rfl, rfl, by decide +kernel, rfl, by decide +kernel, by decide +kernel⟩
theorem fg_is_taking (T : Tp K mg) (D_is_hour_pages : Dn P w K mg base Tb "is_hour_pages" 3 ["thing"] S_is_hour_pages) (D_is_name : Dn P w K mg base Tb "is_name" 1 ["thing"] S_is_name) (D_is_within : Dn P w K mg base Tb "is_within" 2 ["thing", "least", "most"] S_is_within) {fd : FuncData} (Fn : Fun K "is_taking" "is_taking" (top 47) (He.ga K "is_taking") fd) : FnG P w K mg base Tb 4 (He.ga K "is_taking") fd ["body"] S_is_taking := by
  refine dfn 0 Fn sc_is_taking len_is_taking cels_is_taking fun cdv A outer s H hr hA => ⟨_, (scons (sif (tor (tnot (dtest (dfrz (dcn D_is_name (hr.mono (by decide)) hA (acons (dixP (dv 0) di) anil))))) (tor (tnot (dtest (dfrz (dcn D_is_name (hr.mono (by decide)) hA (acons (dixP (dv 0) di) anil))))) (tor (tnot (dtest (dfrz (dcn D_is_hour_pages (hr.mono (by decide)) hA (acons (dixP (dv 0) di) anil))))) (tor1 (tnot (dtest (dfrz (dcn D_is_hour_pages (hr.mono (by decide)) hA (acons (dixP (dv 0) di) anil))))))))).pt (sone (sret (m := 0) (dx db))) snil) (sone (sret (m := 0) (dx (dandV (dcmp op_le opr_le (dixP (dv 0) di) (dixP (dv 0) di) (nomark _)) (done (dfrz (dcn D_is_within (hr.mono (by decide)) hA (acons (dixP (dv 0) di) (acons di (acons (dnum (c_MOST_MILES T)) anil))))))))))), fun as Q h => ?_⟩
  unfold S_is_taking at h
  split at h
  · unfold q_is_taking at h
    rename_i x0
    refine at_env (b := [.dat x0]) rfl ?_
    exact Eq.mp (by kernel_rfl) h
  · exact h.elim
theorem ok_is_taking (T : Tp K mg) (D_is_hour_pages : Dn P w K mg base Tb "is_hour_pages" 3 ["thing"] S_is_hour_pages) (D_is_name : Dn P w K mg base Tb "is_name" 1 ["thing"] S_is_name) (D_is_within : Dn P w K mg base Tb "is_within" 2 ["thing", "least", "most"] S_is_within) : Dn P w K mg base Tb "is_taking" 4 ["body"] S_is_taking := by
  obtain ⟨kV, doc, pm, an, cdv, ct, Fn⟩ := T.fun_ "is_taking" (top 47) 19 94
  exact ⟨⟨_, fg_is_taking T D_is_hour_pages D_is_name D_is_within Fn, Fn.binds (ps := ["body"]) fun _ _ _ _ _ _ us hl => match us, hl with | [_], _ => rfl⟩, T.glo "is_taking" 52, T.keep "is_taking" 94⟩
def kk_is_body : RT → (PyData → Prop) := fun R v => R (.dat v) []
def S_is_body : DSp := fun as Q => match as with
  | [.dat x0, .dat x1] => q_is_body x0 x1 (kk_is_body Q)
  | _ => False
theorem len_is_body (as : List SD) (Q : SD → List SD → Prop) (h : S_is_body as Q) : as.length = 2 := by
  unfold S_is_body at h
  split at h
  · rfl
  · exact h.elim
theorem cels_is_body : CelsIn 0 S_is_body := by
  intro as Q h i p xs e
  unfold S_is_body at h
  split at h
  · exact absurd e (no_cel (ds := [_, _]) i p xs)
  · exact h.elim
def N_is_body : List Str := ["number", "body", "word", "many"]
theorem sc_is_body : FnScope N_is_body ["number", "body"] (defScope (top 48)) := ⟨rfl, rfl, rfl, by decide +kernel, rfl, by decide +kernel, by decide +kernel⟩
theorem fg_is_body (T : Tp K mg) (D_is_day : Dn P w K mg base Tb "is_day" 3 ["thing"] S_is_day) (D_is_hour_pages : Dn P w K mg base Tb "is_hour_pages" 3 ["thing"] S_is_hour_pages) (D_is_log : Dn P w K mg base Tb "is_log" 4 ["thing"] S_is_log) (D_is_muster : Dn P w K mg base Tb "is_muster" 4 ["body"] S_is_muster) (D_is_name : Dn P w K mg base Tb "is_name" 1 ["thing"] S_is_name) (D_is_sale : Dn P w K mg base Tb "is_sale" 5 ["thing"] S_is_sale) (D_is_scheme : Dn P w K mg base Tb "is_scheme" 4 ["thing"] S_is_scheme) (D_is_taking : Dn P w K mg base Tb "is_taking" 4 ["body"] S_is_taking) (D_is_within : Dn P w K mg base Tb "is_within" 2 ["thing", "least", "most"] S_is_within) {fd : FuncData} (Fn : Fun K "is_body" "is_body" (top 48) (He.ga K "is_body") fd) : FnG P w K mg base Tb 6 (He.ga K "is_body") fd ["number", "body"] S_is_body := by
  refine dfn 0 Fn sc_is_body len_is_body cels_is_body fun cdv A outer s H hr hA => ⟨_, (scons (spar 2 3 rfl sc_is_body.nd (acons (dixP (dv 1) di) (acons (dlen (m_len T) (acons (dv 1) anil)) anil))) (scons (sif (dcmpT (op_eqE hr.units) opd_eq (dv 2) ds (nomark _)) (sone (sret (m := 0) (dx (dandV (dcmp (op_eqE hr.units) opd_eq (dv 3) di (nomark _)) (dandV (dfrz (dcn D_is_name (hr.mono (by decide)) hA (acons (dixP (dv 1) di) anil))) (done (dfrz (dcn D_is_log (hr.mono (by decide)) hA (acons (dixP (dv 1) di) anil))))))))) snil) (scons (sif (dcmpT (op_eqE hr.units) opd_eq (dv 2) ds (nomark _)) (sone (sret (m := 0) (dx (dandV (dcmp (op_eqE hr.units) opd_eq (dv 3) di (nomark _)) (done (dfrz (dcn D_is_muster (hr.mono (by decide)) hA (acons (dv 1) anil)))))))) snil) (scons (sif (dcmpT (op_eqE hr.units) opd_eq (dv 2) ds (nomark _)) (sone (sret (m := 0) (dx (dandV (dcmp (op_eqE hr.units) opd_eq (dv 3) di (nomark _)) (dandV (dfrz (dcn D_is_hour_pages (hr.mono (by decide)) hA (acons (dixP (dv 1) di) anil))) (done (dfrz (dcn D_is_scheme (hr.mono (by decide)) hA (acons (dixP (dv 1) di) anil))))))))) snil) (scons (sif (dcmpT (op_eqE hr.units) opd_eq (dv 2) ds (nomark _)) (sone (sret (m := 0) (dx (dandV (dcmp (op_eqE hr.units) opd_eq (dv 3) di (nomark _)) (done (dfrz (dcn D_is_taking (hr.mono (by decide)) hA (acons (dv 1) anil)))))))) snil) (scons (sif (dcmpT (op_eqE hr.units) opd_eq (dv 2) ds (nomark _)) (sone (sret (m := 0) (dx (dandV (dcmp (op_eqE hr.units) opd_eq (dv 3) di (nomark _)) (dandV (dfrz (dcn D_is_name (hr.mono (by decide)) hA (acons (dixP (dv 1) di) anil))) (done (dfrz (dcn D_is_sale (hr.mono (by decide)) hA (acons (dsl (dv 1) (so_some di) so_none) anil))))))))) snil) (scons (sif (dcmpT (op_eqE hr.units) opd_eq (dv 2) ds (nomark _)) (sone (sret (m := 0) (dx (dandV (dcmp (op_eqE hr.units) opd_eq (dv 3) di (nomark _)) (dandV (dfrz (dcn D_is_name (hr.mono (by decide)) hA (acons (dixP (dv 1) di) anil))) (done (dfrz (dcn D_is_day (hr.mono (by decide)) hA (acons (dixP (dv 1) di) anil))))))))) snil) (scons (sif (dcmpT (op_eqE hr.units) opd_eq (dv 2) ds (nomark _)) (sone (sret (m := 0) (dx (dandV (dcmp (op_eqE hr.units) opd_eq (dv 3) di (nomark _)) (done (dfrz (dcn D_is_within (hr.mono (by decide)) hA (acons (dixP (dv 1) di) (acons di (acons (dsub (dv 0) di) anil)))))))))) snil) (sone (sret (m := 0) (dx (dandV (dcmp (op_eqE hr.units) opd_eq (dv 2) ds (nomark _)) (dandV (dcmp (op_eqE hr.units) opd_eq (dv 3) di (nomark _)) (dandV (dfrz (dcn D_is_name (hr.mono (by decide)) hA (acons (dixP (dv 1) di) anil))) (dandV (dfrz (dcn D_is_name (hr.mono (by decide)) hA (acons (dixP (dv 1) di) anil))) (done (dfrz (dcn D_is_within (hr.mono (by decide)) hA (acons (dixP (dv 1) di) (acons di (acons (dnum (c_MOST_PENCE T)) anil))))))))))))))))))))), fun as Q h => ?_⟩
  unfold S_is_body at h
  split at h
  · unfold q_is_body at h
    rename_i x0 x1
    refine at_env (b := [.dat x0, .dat x1, .un, .un]) rfl ?_
    exact Eq.mp (by kernel_rfl) h
  · exact h.elim
theorem ok_is_body (T : Tp K mg) (D_is_day : Dn P w K mg base Tb "is_day" 3 ["thing"] S_is_day) (D_is_hour_pages : Dn P w K mg base Tb "is_hour_pages" 3 ["thing"] S_is_hour_pages) (D_is_log : Dn P w K mg base Tb "is_log" 4 ["thing"] S_is_log) (D_is_muster : Dn P w K mg base Tb "is_muster" 4 ["body"] S_is_muster) (D_is_name : Dn P w K mg base Tb "is_name" 1 ["thing"] S_is_name) (D_is_sale : Dn P w K mg base Tb "is_sale" 5 ["thing"] S_is_sale) (D_is_scheme : Dn P w K mg base Tb "is_scheme" 4 ["thing"] S_is_scheme) (D_is_taking : Dn P w K mg base Tb "is_taking" 4 ["body"] S_is_taking) (D_is_within : Dn P w K mg base Tb "is_within" 2 ["thing", "least", "most"] S_is_within) : Dn P w K mg base Tb "is_body" 6 ["number", "body"] S_is_body := by
  obtain ⟨kV, doc, pm, an, cdv, ct, Fn⟩ := T.fun_ "is_body" (top 48) 20 95
  exact ⟨⟨_, fg_is_body T D_is_day D_is_hour_pages D_is_log D_is_muster D_is_name D_is_sale D_is_scheme D_is_taking D_is_within Fn, Fn.binds (ps := ["number", "body"]) fun _ _ _ _ _ _ us hl => match us, hl with | [_, _], _ => rfl⟩, T.glo "is_body" 53, T.keep "is_body" 95⟩
def kk_is_page : RT → (PyData → Prop) := fun R v => R (.dat v) []
def S_is_page : DSp := fun as Q => match as with
  | [.dat x0] => q_is_page x0 (kk_is_page Q)
  | _ => False
theorem len_is_page (as : List SD) (Q : SD → List SD → Prop) (h : S_is_page as Q) : as.length = 1 := by
  unfold S_is_page at h
  split at h
  · rfl
  · exact h.elim
theorem cels_is_page : CelsIn 0 S_is_page := by
  intro as Q h i p xs e
  unfold S_is_page at h
  split at h
  · exact absurd e (no_cel (ds := [_]) i p xs)
  · exact h.elim
def N_is_page : List Str := ["thing"]
theorem sc_is_page : FnScope N_is_page ["thing"] (defScope (top 49)) := ⟨rfl, rfl, rfl, by decide +kernel, rfl, by decide +kernel, by decide +kernel⟩
theorem fg_is_page (T : Tp K mg) (D_is_body : Dn P w K mg base Tb "is_body" 6 ["number", "body"] S_is_body) (D_is_day : Dn P w K mg base Tb "is_day" 3 ["thing"] S_is_day) {fd : FuncData} (Fn : Fun K "is_page" "is_page" (top 49) (He.ga K "is_page") fd) : FnG P w K mg base Tb 7 (He.ga K "is_page") fd ["thing"] S_is_page := by
  refine dfn 0 Fn sc_is_page len_is_page cels_is_page fun cdv A outer s H hr hA => ⟨_, (scons (sif (tor (tnot (dtest (disi "tuple" "tuple" (m_isinstance T) (m_tuple T) (by decide +kernel) (by decide +kernel) (dv 0)))) (tor (dcmpT (op_neE hr.units) opd_ne (dlen (m_len T) (acons (dv 0) anil)) di (nomark _)) (tor (tnot (dtest (dfrz (dcn D_is_day (hr.mono (by decide)) hA (acons (dixP (dv 0) di) anil))))) (tor1 (tnot (dtest (dfrz (dcn D_is_day (hr.mono (by decide)) hA (acons (dixP (dv 0) di) anil))))))))).pt (sone (sret (m := 0) (dx db))) snil) (scons (sif (tor (tnot (dtest (disi "tuple" "tuple" (m_isinstance T) (m_tuple T) (by decide +kernel) (by decide +kernel) (dixP (dv 0) di)))) (tor (dcmpT (op_empE hr.units) opd_emp (dixP (dv 0) di) (dtup anil) (nomark _)) (tor1 (tnot (dtest (disi "str" "str" (m_isinstance T) (m_str T) (by decide +kernel) (by decide +kernel) (dixP (dixP (dv 0) di) di))))))).pt (sone (sret (m := 0) (dx db))) snil) (sone (sret (m := 0) (dx (dfrz (dcn D_is_body (hr.mono (by decide)) hA (acons (dixP (dv 0) di) (acons (dixP (dv 0) di) anil))))))))), fun as Q h => ?_⟩
  unfold S_is_page at h
  split at h
  · unfold q_is_page at h
    rename_i x0
    refine at_env (b := [.dat x0]) rfl ?_
    exact Eq.mp (by kernel_rfl) h
  · exact h.elim
theorem ok_is_page (T : Tp K mg) (D_is_body : Dn P w K mg base Tb "is_body" 6 ["number", "body"] S_is_body) (D_is_day : Dn P w K mg base Tb "is_day" 3 ["thing"] S_is_day) : Dn P w K mg base Tb "is_page" 7 ["thing"] S_is_page := by
  obtain ⟨kV, doc, pm, an, cdv, ct, Fn⟩ := T.fun_ "is_page" (top 49) 21 96
  exact ⟨⟨_, fg_is_page T D_is_body D_is_day Fn, Fn.binds (ps := ["thing"]) fun _ _ _ _ _ _ us hl => match us, hl with | [_], _ => rfl⟩, T.glo "is_page" 54, T.keep "is_page" 96⟩
def kk_are_pages : RT → (PyData → Prop) := fun R v => R (.dat v) []
def em_are_pages_1 (i : PyData) (s : Unit) : List SD := [.dat i, .un]
def de_are_pages_1 : List SD → Option ((PyData) × (Unit))
  | [.dat x0, .un] => some (x0, ())
  | _ => none
theorem hde_are_pages_1 : ∀ env i s, de_are_pages_1 env = some (i, s) → env = em_are_pages_1 i s := by
  intro env i s h
  unfold de_are_pages_1 at h
  split at h
  · cases h; rfl
  · cases h
def em_are_pages_2 (i : PyData) (s : Unit) : List SD := [.dat i, .un]
def de_are_pages_2 : List SD → Option ((PyData) × (Unit))
  | [.dat x0, .un] => some (x0, ())
  | _ => none
theorem hde_are_pages_2 : ∀ env i s, de_are_pages_2 env = some (i, s) → env = em_are_pages_2 i s := by
  intro env i s h
  unfold de_are_pages_2 at h
  split at h
  · cases h; rfl
  · cases h
def S_are_pages : DSp := fun as Q => match as with
  | [.dat x0] => q_are_pages x0 (kk_are_pages Q)
  | _ => False
theorem len_are_pages (as : List SD) (Q : SD → List SD → Prop) (h : S_are_pages as Q) : as.length = 1 := by
  unfold S_are_pages at h
  split at h
  · rfl
  · exact h.elim
theorem cels_are_pages : CelsIn 0 S_are_pages := by
  intro as Q h i p xs e
  unfold S_are_pages at h
  split at h
  · exact absurd e (no_cel (ds := [_]) i p xs)
  · exact h.elim
def N_are_pages : List Str := ["thing", "page"]
theorem sc_are_pages : FnScope N_are_pages ["thing"] (defScope (top 50)) := ⟨rfl, rfl, rfl, by decide +kernel, rfl, by decide +kernel, by decide +kernel⟩
theorem fg_are_pages (T : Tp K mg) (D_is_page : Dn P w K mg base Tb "is_page" 7 ["thing"] S_is_page) {fd : FuncData} (Fn : Fun K "are_pages" "are_pages" (top 50) (He.ga K "are_pages") fd) : FnG P w K mg base Tb 8 (He.ga K "are_pages") fd ["thing"] S_are_pages := by
  refine dfn 0 Fn sc_are_pages len_are_pages cels_are_pages fun cdv A outer s H hr hA => ⟨_, (scons (sif (tor (tnot (dtest (disi "tuple" "tuple" (m_isinstance T) (m_tuple T) (by decide +kernel) (by decide +kernel) (dv 0)))) (tor (dcmpT op_gt opr_gt (dlen (m_len T) (acons (dv 0) anil)) (dnum (c_MOST_PAGES T)) (nomark _)) (tor1 (tnot (dtest (dall (m_all T) rfl (acons (dfrz (dlc (dec := de_are_pages_1) (emb := em_are_pages_1) (qb := qb_are_pages_1) [("page", 1)] (.one 1) hde_are_pages_1 rfl sc_are_pages.nd (iseq (dv 0)) (blkOk_by (own := [("page", 1)]) (N := N_are_pages) (sc := defScope (top 50)) (by decide +kernel)) (fun _ _ _ _ _ => pg_name (i := 1) sc_are_pages.nd rfl (Or.inl rfl)) (fun _ _ _ _ _ => tyes) (fun _ _ _ _ _ => (dfrz (dcn D_is_page (hr.mono (by decide)) hA (acons (dv 1) anil)))) (fun d i s sk yd h => Eq.mp (by kernel_rfl) h))) anil))))))).pt (sone (sret (m := 0) (dx db))) snil) (sone (sret (m := 0) (dx (dcmp (op_eqE hr.units) opd_eq (dlenSetI (by rfl) (m_len T) (m_set T) (dfrz (dlc (dec := de_are_pages_2) (emb := em_are_pages_2) (qb := qb_are_pages_2) [("page", 1)] (.one 1) hde_are_pages_2 rfl sc_are_pages.nd (iseq (dv 0)) (blkOk_by (own := [("page", 1)]) (N := N_are_pages) (sc := defScope (top 50)) (by decide +kernel)) (fun _ _ _ _ _ => pg_name (i := 1) sc_are_pages.nd rfl (Or.inl rfl)) (fun _ _ _ _ _ => tyes) (fun _ _ _ _ _ => (dixP (dv 1) di)) (fun d i s sk yd h => Eq.mp (by kernel_rfl) h)))) (dlen (m_len T) (acons (dv 0) anil)) (nomark _)))))), fun as Q h => ?_⟩
  unfold S_are_pages at h
  split at h
  · unfold q_are_pages at h
    rename_i x0
    refine at_env (b := [.dat x0, .un]) rfl ?_
    exact Eq.mp (by kernel_rfl) h
  · exact h.elim
theorem ok_are_pages (T : Tp K mg) (D_is_page : Dn P w K mg base Tb "is_page" 7 ["thing"] S_is_page) : Dn P w K mg base Tb "are_pages" 8 ["thing"] S_are_pages := by
  obtain ⟨kV, doc, pm, an, cdv, ct, Fn⟩ := T.fun_ "are_pages" (top 50) 22 97
  exact ⟨⟨_, fg_are_pages T D_is_page Fn, Fn.binds (ps := ["thing"]) fun _ _ _ _ _ _ us hl => match us, hl with | [_], _ => rfl⟩, T.glo "are_pages" 55, T.keep "are_pages" 97⟩
def kk_need_day : RT → (PyData → Prop) := fun R v => R (.dat v) []
def S_need_day : DSp := fun as Q => match as with
  | [.dat x0] => q_need_day x0 (kk_need_day Q)
  | _ => False
theorem len_need_day (as : List SD) (Q : SD → List SD → Prop) (h : S_need_day as Q) : as.length = 1 := by
  unfold S_need_day at h
  split at h
  · rfl
  · exact h.elim
theorem cels_need_day : CelsIn 0 S_need_day := by
  intro as Q h i p xs e
  unfold S_need_day at h
  split at h
  · exact absurd e (no_cel (ds := [_]) i p xs)
  · exact h.elim
def N_need_day : List Str := ["thing"]
theorem sc_need_day : FnScope N_need_day ["thing"] (defScope (top 51)) := ⟨rfl, rfl, rfl, by decide +kernel, rfl, by decide +kernel, by decide +kernel⟩
theorem fg_need_day (T : Tp K mg) (D_is_day : Dn P w K mg base Tb "is_day" 3 ["thing"] S_is_day) {fd : FuncData} (Fn : Fun K "need_day" "need_day" (top 51) (He.ga K "need_day") fd) : FnG P w K mg base Tb 4 (He.ga K "need_day") fd ["thing"] S_need_day := by
  refine dfn 0 Fn sc_need_day len_need_day cels_need_day fun cdv A outer s H hr hA => ⟨_, (sone (sif (tnot (dtest (dfrz (dcn D_is_day (hr.mono (by decide)) hA (acons (dv 0) anil))))) (sone snever) snil)), fun as Q h => ?_⟩
  unfold S_need_day at h
  split at h
  · unfold q_need_day at h
    rename_i x0
    refine at_env (b := [.dat x0]) rfl ?_
    exact Eq.mp (by kernel_rfl) h
  · exact h.elim
theorem ok_need_day (T : Tp K mg) (D_is_day : Dn P w K mg base Tb "is_day" 3 ["thing"] S_is_day) : Dn P w K mg base Tb "need_day" 4 ["thing"] S_need_day := by
  obtain ⟨kV, doc, pm, an, cdv, ct, Fn⟩ := T.fun_ "need_day" (top 51) 23 98
  exact ⟨⟨_, fg_need_day T D_is_day Fn, Fn.binds (ps := ["thing"]) fun _ _ _ _ _ _ us hl => match us, hl with | [_], _ => rfl⟩, T.glo "need_day" 56, T.keep "need_day" 98⟩
def kk_need_book : RT → (PyData → Prop) := fun R v => R (.dat v) []
def S_need_book : DSp := fun as Q => match as with
  | [.dat x0, .dat x1] => q_need_book x0 x1 (kk_need_book Q)
  | _ => False
theorem len_need_book (as : List SD) (Q : SD → List SD → Prop) (h : S_need_book as Q) : as.length = 2 := by
  unfold S_need_book at h
  split at h
  · rfl
  · exact h.elim
theorem cels_need_book : CelsIn 0 S_need_book := by
  intro as Q h i p xs e
  unfold S_need_book at h
  split at h
  · exact absurd e (no_cel (ds := [_, _]) i p xs)
  · exact h.elim
def N_need_book : List Str := ["pages", "day"]
theorem sc_need_book : FnScope N_need_book ["pages", "day"] (defScope (top 52)) := ⟨rfl, rfl, rfl, by decide +kernel, rfl, by decide +kernel, by decide +kernel⟩
theorem fg_need_book (T : Tp K mg) (D_are_pages : Dn P w K mg base Tb "are_pages" 8 ["thing"] S_are_pages) (D_need_day : Dn P w K mg base Tb "need_day" 4 ["thing"] S_need_day) {fd : FuncData} (Fn : Fun K "need_book" "need_book" (top 52) (He.ga K "need_book") fd) : FnG P w K mg base Tb 9 (He.ga K "need_book") fd ["pages", "day"] S_need_book := by
  refine dfn 0 Fn sc_need_book len_need_book cels_need_book fun cdv A outer s H hr hA => ⟨_, (scons (sif (tnot (dtest (dfrz (dcn D_are_pages (hr.mono (by decide)) hA (acons (dv 0) anil))))) (sone snever) snil) (sone (sexpr (dcn D_need_day (hr.mono (by decide)) hA (acons (dv 1) anil))))), fun as Q h => ?_⟩
  unfold S_need_book at h
  split at h
  · unfold q_need_book at h
    rename_i x0 x1
    refine at_env (b := [.dat x0, .dat x1]) rfl ?_
    exact Eq.mp (by kernel_rfl) h
  · exact h.elim
theorem ok_need_book (T : Tp K mg) (D_are_pages : Dn P w K mg base Tb "are_pages" 8 ["thing"] S_are_pages) (D_need_day : Dn P w K mg base Tb "need_day" 4 ["thing"] S_need_day) : Dn P w K mg base Tb "need_book" 9 ["pages", "day"] S_need_book := by
  obtain ⟨kV, doc, pm, an, cdv, ct, Fn⟩ := T.fun_ "need_book" (top 52) 24 99
  exact ⟨⟨_, fg_need_book T D_are_pages D_need_day Fn, Fn.binds (ps := ["pages", "day"]) fun _ _ _ _ _ _ us hl => match us, hl with | [_, _], _ => rfl⟩, T.glo "need_book" 57, T.keep "need_book" 99⟩
def kk_standing : RT → (PyData → Prop) := fun R v => R (.dat v) []
def em_standing_1 (i : PyData × PyData) (s : Unit) : List SD := [.dat i.1, .dat i.2, .un, .un, .un, .un]
def de_standing_1 : List SD → Option ((PyData × PyData) × (Unit))
  | [.dat x0, .dat x1, .un, .un, .un, .un] => some ((x0, x1), ())
  | _ => none
theorem hde_standing_1 : ∀ env i s, de_standing_1 env = some (i, s) → env = em_standing_1 i s := by
  intro env i s h
  unfold de_standing_1 at h
  split at h
  · cases h; rfl
  · cases h
def em_standing_2 (i : Unit) (s : KVM × List PyData) : List SD := [.un, .un, .un, .dic (.kk s.1), .cel false s.2, .un]
def de_standing_2 : List SD → Option ((Unit) × (KVM × List PyData))
  | [.un, .un, .un, .dic (.kk x3), .cel false x4, .un] => some ((), (x3, x4))
  | _ => none
theorem hde_standing_2 : ∀ env i s, de_standing_2 env = some (i, s) → env = em_standing_2 i s := by
  intro env i s h
  unfold de_standing_2 at h
  split at h
  · cases h; rfl
  · cases h
def S_standing : DSp := fun as Q => match as with
  | [.dat x0, .dat x1] => q_standing x0 x1 (kk_standing Q)
  | _ => False
theorem len_standing (as : List SD) (Q : SD → List SD → Prop) (h : S_standing as Q) : as.length = 2 := by
  unfold S_standing at h
  split at h
  · rfl
  · exact h.elim
theorem cels_standing : CelsIn 0 S_standing := by
  intro as Q h i p xs e
  unfold S_standing at h
  split at h
  · exact absurd e (no_cel (ds := [_, _]) i p xs)
  · exact h.elim
def N_standing : List Str := ["pages", "day", "known", "struck", "found", "page"]
theorem sc_standing : FnScope N_standing ["pages", "day"] (defScope (top 53)) := ⟨rfl, rfl, rfl, by decide +kernel, rfl, by decide +kernel, by decide +kernel⟩
theorem fg_standing (T : Tp K mg)  {fd : FuncData} (Fn : Fun K "standing" "standing" (top 53) (He.ga K "standing") fd) : FnG P w K mg base Tb 1 (He.ga K "standing") fd ["pages", "day"] S_standing := by
  refine dfnLW lam 0 0 Fn sc_standing len_standing cels_standing rfl fun cdv A outer s H hP hW LC hr hA => ⟨_, (scons (sset 2 sc_standing.nd (dx (dfrz (dsortedK (.ix .it 1) hr (m_sorted T) LC (dfrz (dlc (dec := de_standing_1) (emb := em_standing_1) (qb := qb_standing_1) [("page", 5)] (.one 5) hde_standing_1 rfl sc_standing.nd (iseq (dv 0)) (blkOk_by (own := [("page", 5)]) (N := N_standing) (sc := defScope (top 53)) (by decide +kernel)) (fun _ _ _ _ _ => pg_name (i := 5) sc_standing.nd rfl (Or.inl rfl)) (fun _ _ _ _ _ => tif1 (dcmpT op_le opr_le (dixP (dv 5) di) (dv 1) (nomark _))) (fun _ _ _ _ _ => (dv 5)) (fun d i s sk yd h => Eq.mp (by kernel_rfl) h))) (.ix (i := 1) .it (by decide)) ⟨rfl, rfl, rfl, rfl, by decide⟩ (fun _ _ _ _ _ => rfl))))) (scons (sknew 3 sc_standing.nd hP hW) (scons (sset 4 sc_standing.nd (dlst anil)) (ssforget [0, 1] (scons (sforQ [2, 5] de_standing_2 em_standing_2 kk_standing qb_standing_2 hde_standing_2 PassesOwn.never rfl (iseq (drevA (dv 2))) (gn 5 sc_standing.nd) (sone (sif (tborW hP hW (tninM hr (dixP (dv 5) di) (dv 3))) (scons (sins 4 di (dv 5)) (sone (sif (dcmpT (op_eqE hr.units) opd_eq (dixP (dixP (dv 5) di) di) ds (nomark _)) (sone (skput 3 hr hP hW db (dixP (dixP (dv 5) di) di))) snil))) snil)) (fun R d i s nx bk h => Eq.mp (by kernel_rfl) h)) (ssfreeze2 4 (sone (sret (m := 0) (dx (dv 4)))))))))), fun as Q h => ?_⟩
  unfold S_standing at h
  split at h
  · unfold q_standing at h
    rename_i x0 x1
    refine at_env (b := [.dat x0, .dat x1, .un, .un, .un, .un]) rfl ?_
    exact Eq.mp (by kernel_rfl) h
  · exact h.elim
theorem ok_standing (T : Tp K mg)  : Dn P w K mg base Tb "standing" 1 ["pages", "day"] S_standing := by
  obtain ⟨kV, doc, pm, an, cdv, ct, Fn⟩ := T.fun_ "standing" (top 53) 25 100
  exact ⟨⟨_, fg_standing T  Fn, Fn.binds (ps := ["pages", "day"]) fun _ _ _ _ _ _ us hl => match us, hl with | [_, _], _ => rfl⟩, T.glo "standing" 58, T.keep "standing" 100⟩
def kk_prizes_on : RT → (PyData → Prop) := fun R v => R (.dat v) []
def em_prizes_on_1 (i : Unit) (s : List PyData) : List SD := [.un, .un, .cel false s, .un]
def de_prizes_on_1 : List SD → Option ((Unit) × (List PyData))
  | [.un, .un, .cel false x2, .un] => some ((), x2)
  | _ => none
theorem hde_prizes_on_1 : ∀ env i s, de_prizes_on_1 env = some (i, s) → env = em_prizes_on_1 i s := by
  intro env i s h
  unfold de_prizes_on_1 at h
  split at h
  · cases h; rfl
  · cases h
def S_prizes_on : DSp := fun as Q => match as with
  | [.dat x0, .dat x1] => q_prizes_on x0 x1 (kk_prizes_on Q)
  | _ => False
theorem len_prizes_on (as : List SD) (Q : SD → List SD → Prop) (h : S_prizes_on as Q) : as.length = 2 := by
  unfold S_prizes_on at h
  split at h
  · rfl
  · exact h.elim
theorem cels_prizes_on : CelsIn 0 S_prizes_on := by
  intro as Q h i p xs e
  unfold S_prizes_on at h
  split at h
  · exact absurd e (no_cel (ds := [_, _]) i p xs)
  · exact h.elim
def N_prizes_on : List Str := ["pages", "day", "found", "page"]
theorem sc_prizes_on : FnScope N_prizes_on ["pages", "day"] (defScope (top 55)) := ⟨rfl, rfl, rfl, by decide +kernel, rfl, by decide +kernel, by decide +kernel⟩
theorem fg_prizes_on (T : Tp K mg) (D_need_book : Dn P w K mg base Tb "need_book" 9 ["pages", "day"] S_need_book) (D_standing : Dn P w K mg base Tb "standing" 1 ["pages", "day"] S_standing) {fd : FuncData} (Fn : Fun K "prizes_on" "prizes_on" (top 55) (He.ga K "prizes_on") fd) : FnG P w K mg base Tb 10 (He.ga K "prizes_on") fd ["pages", "day"] S_prizes_on := by
  refine dfn 0 Fn sc_prizes_on len_prizes_on cels_prizes_on fun cdv A outer s H hr hA => ⟨_, (scons (sexpr (dcn D_need_book (hr.mono (by decide)) hA (acons (dv 0) (acons (dv 1) anil)))) (scons (sset 2 sc_prizes_on.nd (dlst anil)) (scons (sforQ [0, 1, 3] de_prizes_on_1 em_prizes_on_1 kk_prizes_on qb_prizes_on_1 hde_prizes_on_1 PassesOwn.never rfl (iseq (dfrz (dcn D_standing (hr.mono (by decide)) hA (acons (dv 0) (acons (dv 1) anil))))) (gn 3 sc_prizes_on.nd) (scons (sif (tin hr (dixP (dixP (dv 3) di) di) (dtup (acons ds (acons ds anil)))) (sone (sapp 2 (dixP (dixP (dv 3) di) di))) snil) (sone (sif (dcmpT (op_eqE hr.units) opd_eq (dixP (dixP (dv 3) di) di) ds (nomark _)) (sone (sapp 2 (dixP (dixP (dv 3) di) di))) snil))) (fun R d i s nx bk h => Eq.mp (by kernel_rfl) h)) (ssfreeze2 2 (sone (sret (m := 0) (dx (dtupleOf (m_tuple T) (acons (dfrz (dsortSetT (by rfl) (m_sorted T) (m_set T) (dv 2))) anil))))))))), fun as Q h => ?_⟩
  unfold S_prizes_on at h
  split at h
  · unfold q_prizes_on at h
    rename_i x0 x1
    refine at_env (b := [.dat x0, .dat x1, .un, .un]) rfl ?_
    exact Eq.mp (by kernel_rfl) h
  · exact h.elim
theorem ok_prizes_on (T : Tp K mg) (D_need_book : Dn P w K mg base Tb "need_book" 9 ["pages", "day"] S_need_book) (D_standing : Dn P w K mg base Tb "standing" 1 ["pages", "day"] S_standing) : Dn P w K mg base Tb "prizes_on" 10 ["pages", "day"] S_prizes_on := by
  obtain ⟨kV, doc, pm, an, cdv, ct, Fn⟩ := T.fun_ "prizes_on" (top 55) 26 101
  exact ⟨⟨_, fg_prizes_on T D_need_book D_standing Fn, Fn.binds (ps := ["pages", "day"]) fun _ _ _ _ _ _ us hl => match us, hl with | [_, _], _ => rfl⟩, T.glo "prizes_on" 59, T.keep "prizes_on" 101⟩
def kk_law_pot_of : RT → (List PyData → Prop) := fun R v => R (.cel false v) []
def S_law_pot_of : DSp := fun as Q => match as with
  | [.dat x0, .dat x1] => q_law_pot_of x0 x1 (kk_law_pot_of Q)
  | _ => False
theorem len_law_pot_of (as : List SD) (Q : SD → List SD → Prop) (h : S_law_pot_of as Q) : as.length = 2 := by
  unfold S_law_pot_of at h
  split at h
  · rfl
  · exact h.elim
theorem cels_law_pot_of : CelsIn 0 S_law_pot_of := by
  intro as Q h i p xs e
  unfold S_law_pot_of at h
  split at h
  · exact absurd e (no_cel (ds := [_, _]) i p xs)
  · exact h.elim
def N_law_pot_of : List Str := ["_law_script", "_law_k", "_law_cell"]
theorem sc_law_pot_of : FnScope N_law_pot_of ["_law_script", "_law_k"] (defScope (top 57)) := ⟨rfl, rfl, rfl, by decide +kernel, rfl, by decide +kernel, by decide +kernel⟩
theorem fg_law_pot_of (T : Tp K mg)  {fd : FuncData} (Fn : Fun K "_law_pot_of" "_law_pot_of" (top 57) (He.ga K "_law_pot_of") fd) : FnG P w K mg base Tb 1 (He.ga K "_law_pot_of") fd ["_law_script", "_law_k"] S_law_pot_of := by
  refine dfn 0 Fn sc_law_pot_of len_law_pot_of cels_law_pot_of fun cdv A outer s H hr hA => ⟨_, (scons (sset 2 sc_law_pot_of.nd (dx di)) (scons (sif (dcmpT op_ltA opr_ltA (dv 1) (dlen (m_len T) (acons (dv 0) anil)) (nomark _)) (sone (sset 2 sc_law_pot_of.nd (dx (dmod (dabs (m_abs T) (acons (dixP (dv 0) (dv 1)) anil)) (dpow (dpow di di) di))))) snil) (sone (sret (m := 0) (dlst (acons (dmul (dv 2) (dintOf (m_int T) (acons (dcmp op_ge opr_ge (dv 2) (dpow di di) (nomark _)) anil))) (acons (dmod (dpow (dadd (dadd (dmod (dv 2) di) (dmul di (dv 1))) di) di) di) anil))))))), fun as Q h => ?_⟩
  unfold S_law_pot_of at h
  split at h
  · unfold q_law_pot_of at h
    rename_i x0 x1
    refine at_env (b := [.dat x0, .dat x1, .un]) rfl ?_
    exact Eq.mp (by kernel_rfl) h
  · exact h.elim
theorem ok_law_pot_of (T : Tp K mg)  : Dn P w K mg base Tb "_law_pot_of" 1 ["_law_script", "_law_k"] S_law_pot_of := by
  obtain ⟨kV, doc, pm, an, cdv, ct, Fn⟩ := T.fun_ "_law_pot_of" (top 57) 27 102
  exact ⟨⟨_, fg_law_pot_of T  Fn, Fn.binds (ps := ["_law_script", "_law_k"]) fun _ _ _ _ _ _ us hl => match us, hl with | [_, _], _ => rfl⟩, T.glo "_law_pot_of" 60, T.keep "_law_pot_of" 102⟩
def kk_law_draw : RT → (PyData → List PyData → Prop) := fun R v c => R (.dat v) [.cel true c]
def S_law_draw : DSp := fun as Q => match as with
  | [.cel true x0, .dat x1] => q_law_draw x0 x1 (kk_law_draw Q)
  | _ => False
theorem len_law_draw (as : List SD) (Q : SD → List SD → Prop) (h : S_law_draw as Q) : as.length = 2 := by
  unfold S_law_draw at h
  split at h
  · rfl
  · exact h.elim
theorem cels_law_draw : CelsIn 1 S_law_draw := by
  intro as Q h i p xs e
  unfold S_law_draw at h
  split at h
  · exact cels1 (ds := [_]) e
  · exact h.elim
def N_law_draw : List Str := ["_law_pot", "_law_many", "_law_found"]
theorem sc_law_draw : FnScope N_law_draw ["_law_pot", "_law_many"] (defScope (top 58)) := ⟨rfl, rfl, rfl, by decide +kernel, rfl, by decide +kernel, by decide +kernel⟩
theorem fg_law_draw (T : Tp K mg)  {fd : FuncData} (Fn : Fun K "_law_draw" "_law_draw" (top 58) (He.ga K "_law_draw") fd) : FnG P w K mg base Tb 1 (He.ga K "_law_draw") fd ["_law_pot", "_law_many"] S_law_draw := by
  refine dfn 1 Fn sc_law_draw len_law_draw cels_law_draw fun cdv A outer s H hr hA => ⟨_, (scons (sif (dcmpT op_gt opr_gt (dixC 0 di) di (nomark _)) (scons (sset 2 sc_law_draw.nd (dx (dmod (dixC 0 di) (dv 1)))) (scons (ssetC 0 (ddiv (dixC 0 di) (dv 1)) di) (sone (sret (m := 1) (dx (dv 2)))))) snil) (scons (ssetC 0 (dmod (dadd (dmul (dixC 0 di) di) di) di) di) (sone (sret (m := 1) (dx (dmod (ddiv (dmod (dmul (dixC 0 di) (dixC 0 di)) di) di) (dv 1))))))), fun as Q h => ?_⟩
  unfold S_law_draw at h
  split at h
  · unfold q_law_draw at h
    rename_i x0 x1
    refine at_env (b := [.cel true x0, .dat x1, .un]) rfl ?_
    exact Eq.mp (by kernel_rfl) h
  · exact h.elim
theorem ok_law_draw (T : Tp K mg)  : Dn P w K mg base Tb "_law_draw" 1 ["_law_pot", "_law_many"] S_law_draw := by
  obtain ⟨kV, doc, pm, an, cdv, ct, Fn⟩ := T.fun_ "_law_draw" (top 58) 28 103
  exact ⟨⟨_, fg_law_draw T  Fn, Fn.binds (ps := ["_law_pot", "_law_many"]) fun _ _ _ _ _ _ us hl => match us, hl with | [_, _], _ => rfl⟩, T.glo "_law_draw" 61, T.keep "_law_draw" 103⟩
def kk_law_name : RT → (PyData → List PyData → Prop) := fun R v c => R (.dat v) [.cel true c]
def em_law_name_1 (i : PyData × PyData) (s : List PyData) : List SD := [.cel true s, .dat i.1, .dat i.2, .un]
def de_law_name_1 : List SD → Option ((PyData × PyData) × (List PyData))
  | [.cel true x0, .dat x1, .dat x2, .un] => some ((x1, x2), x0)
  | _ => none
theorem hde_law_name_1 : ∀ env i s, de_law_name_1 env = some (i, s) → env = em_law_name_1 i s := by
  intro env i s h
  unfold de_law_name_1 at h
  split at h
  · cases h; rfl
  · cases h
def S_law_name : DSp := fun as Q => match as with
  | [.cel true x0, .dat x1] => q_law_name x0 x1 (kk_law_name Q)
  | _ => False
theorem len_law_name (as : List SD) (Q : SD → List SD → Prop) (h : S_law_name as Q) : as.length = 2 := by
  unfold S_law_name at h
  split at h
  · rfl
  · exact h.elim
theorem cels_law_name : CelsIn 1 S_law_name := by
  intro as Q h i p xs e
  unfold S_law_name at h
  split at h
  · exact cels1 (ds := [_]) e
  · exact h.elim
def N_law_name : List Str := ["_law_pot", "_law_last", "_law_letters", "_law_k"]
theorem sc_law_name : FnScope N_law_name ["_law_pot", "_law_last"] (defScope (top 59)) := ⟨rfl, rfl, rfl, by decide +kernel, rfl, by decide +kernel, by decide +kernel⟩
theorem fg_law_name (T : Tp K mg) (D_law_draw : Dn P w K mg base Tb "_law_draw" 1 ["_law_pot", "_law_many"] S_law_draw) {fd : FuncData} (Fn : Fun K "_law_name" "_law_name" (top 59) (He.ga K "_law_name") fd) : FnG P w K mg base Tb 2 (He.ga K "_law_name") fd ["_law_pot", "_law_last"] S_law_name := by
  refine dfn 1 Fn sc_law_name len_law_name cels_law_name fun cdv A outer s H hr hA => ⟨_, (scons (sset 2 sc_law_name.nd (dx ds)) (sone (sret (m := 1) (dx (dadd (djoin (dfrz (dlc (dec := de_law_name_1) (emb := em_law_name_1) (qb := qb_law_name_1) [("_law_k", 3)] (.one 3) hde_law_name_1 rfl sc_law_name.nd (irange1 (m_range T) (acons (dfrz (dcnC 0 D_law_draw (hr.mono (by decide)) hA (acons di anil))) anil)) (blkOk_by (own := [("_law_k", 3)]) (N := N_law_name) (sc := defScope (top 59)) (by decide +kernel)) (fun _ _ _ _ _ => pg_name (i := 3) sc_law_name.nd rfl (Or.inl rfl)) (fun _ _ _ _ _ => tyes) (fun _ _ _ _ _ => (dixP (dv 2) (dfrz (dcnC 0 D_law_draw (hr.mono (by decide)) hA (acons di anil))))) (fun d i s sk yd h => Eq.mp (by kernel_rfl) h)))) (dixP (dv 2) (dv 1))))))), fun as Q h => ?_⟩
  unfold S_law_name at h
  split at h
  · unfold q_law_name at h
    rename_i x0 x1
    refine at_env (b := [.cel true x0, .dat x1, .un, .un]) rfl ?_
    exact Eq.mp (by kernel_rfl) h
  · exact h.elim
theorem ok_law_name (T : Tp K mg) (D_law_draw : Dn P w K mg base Tb "_law_draw" 1 ["_law_pot", "_law_many"] S_law_draw) : Dn P w K mg base Tb "_law_name" 2 ["_law_pot", "_law_last"] S_law_name := by
  obtain ⟨kV, doc, pm, an, cdv, ct, Fn⟩ := T.fun_ "_law_name" (top 59) 29 104
  exact ⟨⟨_, fg_law_name T D_law_draw Fn, Fn.binds (ps := ["_law_pot", "_law_last"]) fun _ _ _ _ _ _ us hl => match us, hl with | [_, _], _ => rfl⟩, T.glo "_law_name" 62, T.keep "_law_name" 104⟩
def kk_law_shuffled : RT → (PyData → List PyData → Prop) := fun R v c => R (.dat v) [.cel true c]
def em_law_shuffled_1 (i : PyData) (s : List PyData × List PyData) : List SD := [.cel true s.1, .dat i, .cel false s.2, .un]
def de_law_shuffled_1 : List SD → Option ((PyData) × (List PyData × List PyData))
  | [.cel true x0, .dat x1, .cel false x2, .un] => some (x1, (x0, x2))
  | _ => none
theorem hde_law_shuffled_1 : ∀ env i s, de_law_shuffled_1 env = some (i, s) → env = em_law_shuffled_1 i s := by
  intro env i s h
  unfold de_law_shuffled_1 at h
  split at h
  · cases h; rfl
  · cases h
def S_law_shuffled : DSp := fun as Q => match as with
  | [.cel true x0, .dat x1] => q_law_shuffled x0 x1 (kk_law_shuffled Q)
  | _ => False
theorem len_law_shuffled (as : List SD) (Q : SD → List SD → Prop) (h : S_law_shuffled as Q) : as.length = 2 := by
  unfold S_law_shuffled at h
  split at h
  · rfl
  · exact h.elim
theorem cels_law_shuffled : CelsIn 1 S_law_shuffled := by
  intro as Q h i p xs e
  unfold S_law_shuffled at h
  split at h
  · exact cels1 (ds := [_]) e
  · exact h.elim
def N_law_shuffled : List Str := ["_law_pot", "_law_some", "_law_left", "_law_k"]
theorem sc_law_shuffled : FnScope N_law_shuffled ["_law_pot", "_law_some"] (defScope (top 60)) := ⟨rfl, rfl, rfl, by decide +kernel, rfl, by decide +kernel, by decide +kernel⟩
theorem fg_law_shuffled (T : Tp K mg) (D_law_draw : Dn P w K mg base Tb "_law_draw" 1 ["_law_pot", "_law_many"] S_law_draw) {fd : FuncData} (Fn : Fun K "_law_shuffled" "_law_shuffled" (top 60) (He.ga K "_law_shuffled") fd) : FnG P w K mg base Tb 2 (He.ga K "_law_shuffled") fd ["_law_pot", "_law_some"] S_law_shuffled := by
  refine dfn 1 Fn sc_law_shuffled len_law_shuffled cels_law_shuffled fun cdv A outer s H hr hA => ⟨_, (scons (sset 2 sc_law_shuffled.nd (dlistOf (m_list T) (acons (dv 1) anil))) (sone (sret (m := 1) (dx (dtupleOf (m_tuple T) (acons (dfrz (dlc (dec := de_law_shuffled_1) (emb := em_law_shuffled_1) (qb := qb_law_shuffled_1) [("_law_k", 3)] (.one 3) hde_law_shuffled_1 rfl sc_law_shuffled.nd (irange1 (m_range T) (acons (dlen (m_len T) (acons (dv 1) anil)) anil)) (blkOk_by (own := [("_law_k", 3)]) (N := N_law_shuffled) (sc := defScope (top 60)) (by decide +kernel)) (fun _ _ _ _ _ => pg_name (i := 3) sc_law_shuffled.nd rfl (Or.inl rfl)) (fun _ _ _ _ _ => tyes) (fun _ _ _ _ _ => (dpop 2 (dfrz (dcnC 0 D_law_draw (hr.mono (by decide)) hA (acons (dlenC 2 (m_len T)) anil))))) (fun d i s sk yd h => Eq.mp (by kernel_rfl) h))) anil)))))), fun as Q h => ?_⟩
  unfold S_law_shuffled at h
  split at h
  · unfold q_law_shuffled at h
    rename_i x0 x1
    refine at_env (b := [.cel true x0, .dat x1, .un, .un]) rfl ?_
    exact Eq.mp (by kernel_rfl) h
  · exact h.elim
theorem ok_law_shuffled (T : Tp K mg) (D_law_draw : Dn P w K mg base Tb "_law_draw" 1 ["_law_pot", "_law_many"] S_law_draw) : Dn P w K mg base Tb "_law_shuffled" 2 ["_law_pot", "_law_some"] S_law_shuffled := by
  obtain ⟨kV, doc, pm, an, cdv, ct, Fn⟩ := T.fun_ "_law_shuffled" (top 60) 30 105
  exact ⟨⟨_, fg_law_shuffled T D_law_draw Fn, Fn.binds (ps := ["_law_pot", "_law_some"]) fun _ _ _ _ _ _ us hl => match us, hl with | [_, _], _ => rfl⟩, T.glo "_law_shuffled" 63, T.keep "_law_shuffled" 105⟩
def kk_law_log : RT → (PyData → List PyData → Prop) := fun R v c => R (.dat v) [.cel true c]
def em_law_log_1 (i : Unit) (s : List PyData × PyData × List PyData) : List SD := [.cel true s.1, .dat s.2.1, .cel false s.2.2, .un]
def de_law_log_1 : List SD → Option ((Unit) × (List PyData × PyData × List PyData))
  | [.cel true x0, .dat x1, .cel false x2, .un] => some ((), (x0, x1, x2))
  | _ => none
theorem hde_law_log_1 : ∀ env i s, de_law_log_1 env = some (i, s) → env = em_law_log_1 i s := by
  intro env i s h
  unfold de_law_log_1 at h
  split at h
  · cases h; rfl
  · cases h
def S_law_log : DSp := fun as Q => match as with
  | [.cel true x0] => q_law_log x0 (kk_law_log Q)
  | _ => False
theorem len_law_log (as : List SD) (Q : SD → List SD → Prop) (h : S_law_log as Q) : as.length = 1 := by
  unfold S_law_log at h
  split at h
  · rfl
  · exact h.elim
theorem cels_law_log : CelsIn 1 S_law_log := by
  intro as Q h i p xs e
  unfold S_law_log at h
  split at h
  · exact cels1 (ds := []) e
  · exact h.elim
def N_law_log : List Str := ["_law_pot", "_law_hour", "_law_found", "_law_k"]
theorem sc_law_log : FnScope N_law_log ["_law_pot"] (defScope (top 61)) := ⟨rfl, rfl, rfl, by decide +kernel, rfl, by decide +kernel, by decide +kernel⟩
theorem fg_law_log (T : Tp K mg) (D_law_draw : Dn P w K mg base Tb "_law_draw" 1 ["_law_pot", "_law_many"] S_law_draw) {fd : FuncData} (Fn : Fun K "_law_log" "_law_log" (top 61) (He.ga K "_law_log") fd) : FnG P w K mg base Tb 2 (He.ga K "_law_log") fd ["_law_pot"] S_law_log := by
  refine dfn 1 Fn sc_law_log len_law_log cels_law_log fun cdv A outer s H hr hA => ⟨_, (scons (sset 1 sc_law_log.nd (dcnC 0 D_law_draw (hr.mono (by decide)) hA (acons di anil))) (scons (sset 2 sc_law_log.nd (dlst anil)) (scons (sforQ [3] de_law_log_1 em_law_log_1 kk_law_log qb_law_log_1 hde_law_log_1 PassesOwn.never rfl (irange1 (m_range T) (acons (dadd di (dfrz (dcnC 0 D_law_draw (hr.mono (by decide)) hA (acons di anil)))) anil)) (gn 3 sc_law_log.nd) (scons (sapp 2 (dtup (acons (dv 1) (acons (dsub (dfrz (dcnC 0 D_law_draw (hr.mono (by decide)) hA (acons di anil))) di) (acons (dsub (dfrz (dcnC 0 D_law_draw (hr.mono (by decide)) hA (acons di anil))) di) anil))))) (sone (sset 1 sc_law_log.nd (dx (dadd (dadd (dv 1) di) (dfrz (dcnC 0 D_law_draw (hr.mono (by decide)) hA (acons di anil)))))))) (fun R d i s nx bk h => Eq.mp (by kernel_rfl) h)) (sone (sret (m := 1) (dx (dtupC 2 (m_tuple T)))))))), fun as Q h => ?_⟩
  unfold S_law_log at h
  split at h
  · unfold q_law_log at h
    rename_i x0
    refine at_env (b := [.cel true x0, .un, .un, .un]) rfl ?_
    exact Eq.mp (by kernel_rfl) h
  · exact h.elim
theorem ok_law_log (T : Tp K mg) (D_law_draw : Dn P w K mg base Tb "_law_draw" 1 ["_law_pot", "_law_many"] S_law_draw) : Dn P w K mg base Tb "_law_log" 2 ["_law_pot"] S_law_log := by
  obtain ⟨kV, doc, pm, an, cdv, ct, Fn⟩ := T.fun_ "_law_log" (top 61) 31 106
  exact ⟨⟨_, fg_law_log T D_law_draw Fn, Fn.binds (ps := ["_law_pot"]) fun _ _ _ _ _ _ us hl => match us, hl with | [_], _ => rfl⟩, T.glo "_law_log" 64, T.keep "_law_log" 106⟩
def kk_law_scheme : RT → (PyData → List PyData → Prop) := fun R v c => R (.dat v) [.cel true c]
def em_law_scheme_1 (i : PyData × PyData) (s : List PyData × List PyData) : List SD := [.cel true s.1, .dat i.1, .dat i.2, .cel false s.2, .un, .un, .un, .un]
def de_law_scheme_1 : List SD → Option ((PyData × PyData) × (List PyData × List PyData))
  | [.cel true x0, .dat x1, .dat x2, .cel false x3, .un, .un, .un, .un] => some ((x1, x2), (x0, x3))
  | _ => none
theorem hde_law_scheme_1 : ∀ env i s, de_law_scheme_1 env = some (i, s) → env = em_law_scheme_1 i s := by
  intro env i s h
  unfold de_law_scheme_1 at h
  split at h
  · cases h; rfl
  · cases h
def em_law_scheme_2 (i : PyData × PyData × List PyData) (s : List PyData) : List SD := [.cel true s, .dat i.1, .dat i.2.1, .cel false i.2.2, .un, .un, .un, .un]
def de_law_scheme_2 : List SD → Option ((PyData × PyData × List PyData) × (List PyData))
  | [.cel true x0, .dat x1, .dat x2, .cel false x3, .un, .un, .un, .un] => some ((x1, x2, x3), x0)
  | _ => none
theorem hde_law_scheme_2 : ∀ env i s, de_law_scheme_2 env = some (i, s) → env = em_law_scheme_2 i s := by
  intro env i s h
  unfold de_law_scheme_2 at h
  split at h
  · cases h; rfl
  · cases h
def S_law_scheme : DSp := fun as Q => match as with
  | [.cel true x0, .dat x1] => q_law_scheme x0 x1 (kk_law_scheme Q)
  | _ => False
theorem len_law_scheme (as : List SD) (Q : SD → List SD → Prop) (h : S_law_scheme as Q) : as.length = 2 := by
  unfold S_law_scheme at h
  split at h
  · rfl
  · exact h.elim
theorem cels_law_scheme : CelsIn 1 S_law_scheme := by
  intro as Q h i p xs e
  unfold S_law_scheme at h
  split at h
  · exact cels1 (ds := [_]) e
  · exact h.elim
def N_law_scheme : List Str := ["_law_pot", "_law_ranks", "_law_classes", "_law_eighths", "_law_k", "_law_at", "_law_named", "_law_rank"]
theorem sc_law_scheme : FnScope N_law_scheme ["_law_pot", "_law_ranks"] (defScope (top 62)) := ⟨rfl, rfl, rfl, by decide +kernel, rfl, by decide +kernel, by decide +kernel⟩
theorem fg_law_scheme (T : Tp K mg) (D_law_draw : Dn P w K mg base Tb "_law_draw" 1 ["_law_pot", "_law_many"] S_law_draw) {fd : FuncData} (Fn : Fun K "_law_scheme" "_law_scheme" (top 62) (He.ga K "_law_scheme") fd) : FnG P w K mg base Tb 2 (He.ga K "_law_scheme") fd ["_law_pot", "_law_ranks"] S_law_scheme := by
  refine dfn 1 Fn sc_law_scheme len_law_scheme cels_law_scheme fun cdv A outer s H hr hA => ⟨_, (scons (sset 2 sc_law_scheme.nd (dx (dadd di (dfrz (dcnC 0 D_law_draw (hr.mono (by decide)) hA (acons di anil)))))) (scons (sset 3 sc_law_scheme.nd (drep di (dv 2))) (scons (sforQ [4, 5] de_law_scheme_1 em_law_scheme_1 kk_law_scheme qb_law_scheme_1 hde_law_scheme_1 PassesOwn.never rfl (irange1 (m_range T) (acons di anil)) (gn 4 sc_law_scheme.nd) (scons (sset 5 sc_law_scheme.nd (dcnC 0 D_law_draw (hr.mono (by decide)) hA (acons (dv 2) anil))) (sone (ssetC 3 (dadd (dixC 3 (dv 5)) di) (dv 5)))) (fun R d i s nx bk h => Eq.mp (by kernel_rfl) h)) (scons (ssetLc (dec := de_law_scheme_2) (emb := em_law_scheme_2) (qb := qb_law_scheme_2) 6 [("_law_rank", 7)] (.one 7) hde_law_scheme_2 rfl sc_law_scheme.nd (iseq (dfrz (dsorted hr (m_sorted T) (dv 1)))) (blkOk_by (own := [("_law_rank", 7)]) (N := N_law_scheme) (sc := defScope (top 62)) (by decide +kernel)) (fun _ _ _ _ _ => pg_name (i := 7) sc_law_scheme.nd rfl (Or.inl rfl)) (fun _ _ _ _ _ => tif1 (dcmpT op_gt opr_gt (dfrz (dcnC 0 D_law_draw (hr.mono (by decide)) hA (acons di anil))) di (nomark _))) (fun _ _ _ _ _ => (dtup (acons (dv 7) (acons (dfrz (dcnC 0 D_law_draw (hr.mono (by decide)) hA (acons (dv 2) anil))) anil)))) (fun d i s sk yd h => Eq.mp (by kernel_rfl) h) (sw_true rfl rfl rfl (by decide +kernel))) (sone (sret (m := 1) (dx (dtup (acons (dtupC 3 (m_tuple T)) (acons (dtupC 6 (m_tuple T)) anil)))))))))), fun as Q h => ?_⟩
  unfold S_law_scheme at h
  split at h
  · unfold q_law_scheme at h
    rename_i x0 x1
    refine at_env (b := [.cel true x0, .dat x1, .un, .un, .un, .un, .un, .un]) rfl ?_
    exact Eq.mp (by kernel_rfl) h
  · exact h.elim
theorem ok_law_scheme (T : Tp K mg) (D_law_draw : Dn P w K mg base Tb "_law_draw" 1 ["_law_pot", "_law_many"] S_law_draw) : Dn P w K mg base Tb "_law_scheme" 2 ["_law_pot", "_law_ranks"] S_law_scheme := by
  obtain ⟨kV, doc, pm, an, cdv, ct, Fn⟩ := T.fun_ "_law_scheme" (top 62) 32 107
  exact ⟨⟨_, fg_law_scheme T D_law_draw Fn, Fn.binds (ps := ["_law_pot", "_law_ranks"]) fun _ _ _ _ _ _ us hl => match us, hl with | [_, _], _ => rfl⟩, T.glo "_law_scheme" 65, T.keep "_law_scheme" 107⟩
def kk_law_sale : RT → (PyData → List PyData → Prop) := fun R v c => R (.dat v) [.cel true c]
def S_law_sale : DSp := fun as Q => match as with
  | [.cel true x0] => q_law_sale x0 (kk_law_sale Q)
  | _ => False
theorem len_law_sale (as : List SD) (Q : SD → List SD → Prop) (h : S_law_sale as Q) : as.length = 1 := by
  unfold S_law_sale at h
  split at h
  · rfl
  · exact h.elim
theorem cels_law_sale : CelsIn 1 S_law_sale := by
  intro as Q h i p xs e
  unfold S_law_sale at h
  split at h
  · exact cels1 (ds := []) e
  · exact h.elim
def N_law_sale : List Str := ["_law_pot", "_law_way", "_law_gross", "_law_charges", "_law_rate", "_law_part"]
theorem sc_law_sale : FnScope N_law_sale ["_law_pot"] (defScope (top 63)) := ⟨rfl, rfl, rfl, by decide +kernel, rfl, by decide +kernel, by decide +kernel⟩
theorem fg_law_sale (T : Tp K mg) (D_law_draw : Dn P w K mg base Tb "_law_draw" 1 ["_law_pot", "_law_many"] S_law_draw) {fd : FuncData} (Fn : Fun K "_law_sale" "_law_sale" (top 63) (He.ga K "_law_sale") fd) : FnG P w K mg base Tb 2 (He.ga K "_law_sale") fd ["_law_pot"] S_law_sale := by
  refine dfn 1 Fn sc_law_sale len_law_sale cels_law_sale fun cdv A outer s H hr hA => ⟨_, (scons (sset 1 sc_law_sale.nd (dcnC 0 D_law_draw (hr.mono (by decide)) hA (acons di anil))) (scons (sset 2 sc_law_sale.nd (dx (dixP (dtup (acons (dfrz (dcnC 0 D_law_draw (hr.mono (by decide)) hA (acons di anil))) (acons (dfrz (dcnC 0 D_law_draw (hr.mono (by decide)) hA (acons di anil))) (acons (dfrz (dcnC 0 D_law_draw (hr.mono (by decide)) hA (acons (dadd (dpow di di) di) anil))) (acons (dpow di di) anil))))) (dv 1)))) (scons (sset 3 sc_law_sale.nd (dx (dixP (dtup (acons di (acons (dfrz (dcnC 0 D_law_draw (hr.mono (by decide)) hA (acons di anil))) (acons (dfrz (dcnC 0 D_law_draw (hr.mono (by decide)) hA (acons (dadd (dpow di di) di) anil))) (acons (dfrz (dcnC 0 D_law_draw (hr.mono (by decide)) hA (acons di anil))) anil))))) (dfrz (dcnC 0 D_law_draw (hr.mono (by decide)) hA (acons di anil)))))) (scons (sset 4 sc_law_sale.nd (dx (dixP (dtup (acons di (acons (dfrz (dcnC 0 D_law_draw (hr.mono (by decide)) hA (acons di anil))) (acons di (acons di anil))))) (dfrz (dcnC 0 D_law_draw (hr.mono (by decide)) hA (acons di anil)))))) (scons (sset 5 sc_law_sale.nd (dx (dixP (dtup (acons (dtup (acons di (acons di anil))) (acons (dtup (acons di (acons di anil))) (acons (dtup (acons di (acons di anil))) (acons (dtup (acons di (acons di anil))) anil))))) (dfrz (dcnC 0 D_law_draw (hr.mono (by decide)) hA (acons di anil)))))) (sone (sret (m := 1) (dx (dtup (acons (dv 2) (acons (dv 3) (acons (dv 4) (acons (dfrz (dcnC 0 D_law_draw (hr.mono (by decide)) hA (acons di anil))) (acons (dixP (dtup (acons (dfrz (dcnC 0 D_law_draw (hr.mono (by decide)) hA (acons di anil))) (acons (dpow di di) anil))) (ddiv (dfrz (dcnC 0 D_law_draw (hr.mono (by decide)) hA (acons di anil))) di)) (acons (dv 5) anil))))))))))))))), fun as Q h => ?_⟩
  unfold S_law_sale at h
  split at h
  · unfold q_law_sale at h
    rename_i x0
    refine at_env (b := [.cel true x0, .un, .un, .un, .un, .un]) rfl ?_
    exact Eq.mp (by kernel_rfl) h
  · exact h.elim
theorem ok_law_sale (T : Tp K mg) (D_law_draw : Dn P w K mg base Tb "_law_draw" 1 ["_law_pot", "_law_many"] S_law_draw) : Dn P w K mg base Tb "_law_sale" 2 ["_law_pot"] S_law_sale := by
  obtain ⟨kV, doc, pm, an, cdv, ct, Fn⟩ := T.fun_ "_law_sale" (top 63) 33 108
  exact ⟨⟨_, fg_law_sale T D_law_draw Fn, Fn.binds (ps := ["_law_pot"]) fun _ _ _ _ _ _ us hl => match us, hl with | [_], _ => rfl⟩, T.glo "_law_sale" 66, T.keep "_law_sale" 108⟩
def kk_law_folk : RT → (PyData → List PyData → Prop) := fun R v c => R (.dat v) [.cel true c]
def em_law_folk_1 (i : Unit) (s : List PyData) : List SD := [.cel true s, .un, .un, .un, .un]
def de_law_folk_1 : List SD → Option ((Unit) × (List PyData))
  | [.cel true x0, .un, .un, .un, .un] => some ((), x0)
  | _ => none
theorem hde_law_folk_1 : ∀ env i s, de_law_folk_1 env = some (i, s) → env = em_law_folk_1 i s := by
  intro env i s h
  unfold de_law_folk_1 at h
  split at h
  · cases h; rfl
  · cases h
def em_law_folk_2 (i : List PyData) (s : List PyData) : List SD := [.cel true s, .cel false i, .un, .un, .un]
def de_law_folk_2 : List SD → Option ((List PyData) × (List PyData))
  | [.cel true x0, .cel false x1, .un, .un, .un] => some (x1, x0)
  | _ => none
theorem hde_law_folk_2 : ∀ env i s, de_law_folk_2 env = some (i, s) → env = em_law_folk_2 i s := by
  intro env i s h
  unfold de_law_folk_2 at h
  split at h
  · cases h; rfl
  · cases h
def em_law_folk_3 (i : List PyData × List PyData) (s : List PyData) : List SD := [.cel true s, .cel false i.1, .cel false i.2, .un, .un]
def de_law_folk_3 : List SD → Option ((List PyData × List PyData) × (List PyData))
  | [.cel true x0, .cel false x1, .cel false x2, .un, .un] => some ((x1, x2), x0)
  | _ => none
theorem hde_law_folk_3 : ∀ env i s, de_law_folk_3 env = some (i, s) → env = em_law_folk_3 i s := by
  intro env i s h
  unfold de_law_folk_3 at h
  split at h
  · cases h; rfl
  · cases h
def S_law_folk : DSp := fun as Q => match as with
  | [.cel true x0] => q_law_folk x0 (kk_law_folk Q)
  | _ => False
theorem len_law_folk (as : List SD) (Q : SD → List SD → Prop) (h : S_law_folk as Q) : as.length = 1 := by
  unfold S_law_folk at h
  split at h
  · rfl
  · exact h.elim
theorem cels_law_folk : CelsIn 1 S_law_folk := by
  intro as Q h i p xs e
  unfold S_law_folk at h
  split at h
  · exact cels1 (ds := []) e
  · exact h.elim
def N_law_folk : List Str := ["_law_pot", "_law_ships", "_law_men", "_law_ranks", "_law_k"]
theorem sc_law_folk : FnScope N_law_folk ["_law_pot"] (defScope (top 64)) := ⟨rfl, rfl, rfl, by decide +kernel, rfl, by decide +kernel, by decide +kernel⟩
theorem fg_law_folk (T : Tp K mg) (D_law_draw : Dn P w K mg base Tb "_law_draw" 1 ["_law_pot", "_law_many"] S_law_draw) (D_law_name : Dn P w K mg base Tb "_law_name" 2 ["_law_pot", "_law_last"] S_law_name) {fd : FuncData} (Fn : Fun K "_law_folk" "_law_folk" (top 64) (He.ga K "_law_folk") fd) : FnG P w K mg base Tb 3 (He.ga K "_law_folk") fd ["_law_pot"] S_law_folk := by
  refine dfn 1 Fn sc_law_folk len_law_folk cels_law_folk fun cdv A outer s H hr hA => ⟨_, (scons (ssetLc (dec := de_law_folk_1) (emb := em_law_folk_1) (qb := qb_law_folk_1) 1 [("_law_k", 4)] (.one 4) hde_law_folk_1 rfl sc_law_folk.nd (irange1 (m_range T) (acons (dadd di (dfrz (dcnC 0 D_law_draw (hr.mono (by decide)) hA (acons di anil)))) anil)) (blkOk_by (own := [("_law_k", 4)]) (N := N_law_folk) (sc := defScope (top 64)) (by decide +kernel)) (fun _ _ _ _ _ => pg_name (i := 4) sc_law_folk.nd rfl (Or.inl rfl)) (fun _ _ _ _ _ => tyes) (fun _ _ _ _ _ => (dfrz (dcnC 0 D_law_name (hr.mono (by decide)) hA (acons (dv 4) anil)))) (fun d i s sk yd h => Eq.mp (by kernel_rfl) h) (sw_true rfl rfl rfl (by decide +kernel))) (scons (ssetLc (dec := de_law_folk_2) (emb := em_law_folk_2) (qb := qb_law_folk_2) 2 [("_law_k", 4)] (.one 4) hde_law_folk_2 rfl sc_law_folk.nd (irange1 (m_range T) (acons (dadd di (dfrz (dcnC 0 D_law_draw (hr.mono (by decide)) hA (acons di anil)))) anil)) (blkOk_by (own := [("_law_k", 4)]) (N := N_law_folk) (sc := defScope (top 64)) (by decide +kernel)) (fun _ _ _ _ _ => pg_name (i := 4) sc_law_folk.nd rfl (Or.inl rfl)) (fun _ _ _ _ _ => tyes) (fun _ _ _ _ _ => (dfrz (dcnC 0 D_law_name (hr.mono (by decide)) hA (acons (dadd di (dv 4)) anil)))) (fun d i s sk yd h => Eq.mp (by kernel_rfl) h) (sw_true rfl rfl rfl (by decide +kernel))) (scons (ssetLc (dec := de_law_folk_3) (emb := em_law_folk_3) (qb := qb_law_folk_3) 3 [("_law_k", 4)] (.one 4) hde_law_folk_3 rfl sc_law_folk.nd (irange1 (m_range T) (acons di anil)) (blkOk_by (own := [("_law_k", 4)]) (N := N_law_folk) (sc := defScope (top 64)) (by decide +kernel)) (fun _ _ _ _ _ => pg_name (i := 4) sc_law_folk.nd rfl (Or.inl rfl)) (fun _ _ _ _ _ => tyes) (fun _ _ _ _ _ => (dfrz (dcnC 0 D_law_name (hr.mono (by decide)) hA (acons (dadd di (dv 4)) anil)))) (fun d i s sk yd h => Eq.mp (by kernel_rfl) h) (sw_true rfl rfl rfl (by decide +kernel))) (ssfreeze2 2 (ssfreeze2 3 (ssfreeze2 1 (sone (sret (m := 1) (dx (dtup (acons (dv 1) (acons (dv 2) (acons (dv 3) (acons (dfrz (dlst (acons (dfrz (dcnC 0 D_law_name (hr.mono (by decide)) hA (acons di anil))) (acons (dfrz (dcnC 0 D_law_name (hr.mono (by decide)) hA (acons di anil))) anil)))) anil)))))))))))))), fun as Q h => ?_⟩
  unfold S_law_folk at h
  split at h
  · unfold q_law_folk at h
    rename_i x0
    refine at_env (b := [.cel true x0, .un, .un, .un, .un]) rfl ?_
    exact Eq.mp (by kernel_rfl) h
  · exact h.elim
theorem ok_law_folk (T : Tp K mg) (D_law_draw : Dn P w K mg base Tb "_law_draw" 1 ["_law_pot", "_law_many"] S_law_draw) (D_law_name : Dn P w K mg base Tb "_law_name" 2 ["_law_pot", "_law_last"] S_law_name) : Dn P w K mg base Tb "_law_folk" 3 ["_law_pot"] S_law_folk := by
  obtain ⟨kV, doc, pm, an, cdv, ct, Fn⟩ := T.fun_ "_law_folk" (top 64) 34 109
  exact ⟨⟨_, fg_law_folk T D_law_draw D_law_name Fn, Fn.binds (ps := ["_law_pot"]) fun _ _ _ _ _ _ us hl => match us, hl with | [_], _ => rfl⟩, T.glo "_law_folk" 67, T.keep "_law_folk" 109⟩
def kk_law_core : RT → (PyData → List PyData → Prop) := fun R v c => R (.dat v) [.cel true c]
def em_law_core_1 (i : PyData × PyData × PyData × PyData) (s : List PyData × List PyData) : List SD := [.cel true s.1, .un, .dat i.1, .dat i.2.1, .dat i.2.2.1, .dat i.2.2.2, .cel false s.2, .un, .un, .un, .un]
def de_law_core_1 : List SD → Option ((PyData × PyData × PyData × PyData) × (List PyData × List PyData))
  | [.cel true x0, .un, .dat x2, .dat x3, .dat x4, .dat x5, .cel false x6, .un, .un, .un, .un] => some ((x2, x3, x4, x5), (x0, x6))
  | _ => none
theorem hde_law_core_1 : ∀ env i s, de_law_core_1 env = some (i, s) → env = em_law_core_1 i s := by
  intro env i s h
  unfold de_law_core_1 at h
  split at h
  · cases h; rfl
  · cases h
def em_law_core_2 (i : PyData × PyData × PyData × PyData × List PyData × PyData) (s : List PyData) : List SD := [.cel true s, .un, .dat i.1, .dat i.2.1, .dat i.2.2.1, .dat i.2.2.2.1, .cel false i.2.2.2.2.1, .dat i.2.2.2.2.2, .un, .un, .un]
def de_law_core_2 : List SD → Option ((PyData × PyData × PyData × PyData × List PyData × PyData) × (List PyData))
  | [.cel true x0, .un, .dat x2, .dat x3, .dat x4, .dat x5, .cel false x6, .dat x7, .un, .un, .un] => some ((x2, x3, x4, x5, x6, x7), x0)
  | _ => none
theorem hde_law_core_2 : ∀ env i s, de_law_core_2 env = some (i, s) → env = em_law_core_2 i s := by
  intro env i s h
  unfold de_law_core_2 at h
  split at h
  · cases h; rfl
  · cases h
def em_law_core_3 (i : PyData × PyData × PyData) (s : List PyData × List PyData) : List SD := [.cel true s.1, .un, .dat i.1, .un, .dat i.2.1, .dat i.2.2, .cel false s.2, .un, .un, .un, .un]
def de_law_core_3 : List SD → Option ((PyData × PyData × PyData) × (List PyData × List PyData))
  | [.cel true x0, .un, .dat x2, .un, .dat x4, .dat x5, .cel false x6, .un, .un, .un, .un] => some ((x2, x4, x5), (x0, x6))
  | _ => none
theorem hde_law_core_3 : ∀ env i s, de_law_core_3 env = some (i, s) → env = em_law_core_3 i s := by
  intro env i s h
  unfold de_law_core_3 at h
  split at h
  · cases h; rfl
  · cases h
def S_law_core : DSp := fun as Q => match as with
  | [.cel true x0, .dat x1] => q_law_core x0 x1 (kk_law_core Q)
  | _ => False
theorem len_law_core (as : List SD) (Q : SD → List SD → Prop) (h : S_law_core as Q) : as.length = 2 := by
  unfold S_law_core at h
  split at h
  · rfl
  · exact h.elim
theorem cels_law_core : CelsIn 1 S_law_core := by
  intro as Q h i p xs e
  unfold S_law_core at h
  split at h
  · exact cels1 (ds := [_]) e
  · exact h.elim
def N_law_core : List Str := ["_law_pot", "_law_folk_here", "_law_ships", "_law_men", "_law_ranks", "_law_prizes", "_law_found", "_law_ship", "_law_k", "_law_man", "_law_low"]
theorem sc_law_core : FnScope N_law_core ["_law_pot", "_law_folk_here"] (defScope (top 65)) := ⟨rfl, rfl, rfl, by decide +kernel, rfl, by decide +kernel, by decide +kernel⟩
theorem fg_law_core (T : Tp K mg) (D_law_draw : Dn P w K mg base Tb "_law_draw" 1 ["_law_pot", "_law_many"] S_law_draw) (D_law_log : Dn P w K mg base Tb "_law_log" 2 ["_law_pot"] S_law_log) (D_law_sale : Dn P w K mg base Tb "_law_sale" 2 ["_law_pot"] S_law_sale) (D_law_scheme : Dn P w K mg base Tb "_law_scheme" 2 ["_law_pot", "_law_ranks"] S_law_scheme) {fd : FuncData} (Fn : Fun K "_law_core" "_law_core" (top 65) (He.ga K "_law_core") fd) : FnG P w K mg base Tb 3 (He.ga K "_law_core") fd ["_law_pot", "_law_folk_here"] S_law_core := by
  refine dfn 1 Fn sc_law_core len_law_core cels_law_core fun cdv A outer s H hr hA => ⟨_, (scons (sasg (dv 1) (gtup (gl_cons gok_n (gl_cons gok_n (gl_cons gok_n (gl_cons gok_n gl_nil)))) rfl (gcons (gn 2 sc_law_core.nd) (gcons (gn 3 sc_law_core.nd) (gcons (gn 4 sc_law_core.nd) (gcons (gn 5 sc_law_core.nd) gnil)))))) (scons (sset 6 sc_law_core.nd (dlst anil)) (ssforget [1] (scons (sforQ [7] de_law_core_1 em_law_core_1 kk_law_core qb_law_core_1 hde_law_core_1 PassesOwn.never rfl (iseq (dv 2)) (gn 7 sc_law_core.nd) (sone (sext 6 (dlc (dec := de_law_core_2) (emb := em_law_core_2) (qb := qb_law_core_2) [("_law_k", 8)] (.one 8) hde_law_core_2 rfl sc_law_core.nd (irange1 (m_range T) (acons (dadd di (dfrz (dcnC 0 D_law_draw (hr.mono (by decide)) hA (acons di anil)))) anil)) (blkOk_by (own := [("_law_k", 8)]) (N := N_law_core) (sc := defScope (top 65)) (by decide +kernel)) (fun _ _ _ _ _ => pg_name (i := 8) sc_law_core.nd rfl (Or.inl rfl)) (fun _ _ _ _ _ => tyes) (fun _ _ _ _ _ => (dtup (acons ds (acons (dv 7) (acons (dfrz (dcnC 0 D_law_log (hr.mono (by decide)) hA anil)) anil))))) (fun d i s sk yd h => Eq.mp (by kernel_rfl) h)))) (fun R d i s nx bk h => Eq.mp (by kernel_rfl) h)) (scons (sforQ [3, 7, 8, 9] de_law_core_3 em_law_core_3 kk_law_core qb_law_core_3 hde_law_core_3 PassesOwn.never rfl (ienum (m_enumerate T) (acons (dv 3) anil)) (gtup (gl_cons gok_n (gl_cons gok_n gl_nil)) rfl (gcons (gn 8 sc_law_core.nd) (gcons (gn 9 sc_law_core.nd) gnil))) (scons (sset 7 sc_law_core.nd (dx (dixP (dadd (dadd (dfrz (dlst (acons (dixP (dv 2) di) anil))) (dv 2)) (dfrz (dlst (acons ds anil)))) (dmul (dfrz (dcnC 0 D_law_draw (hr.mono (by decide)) hA (acons (dadd (dlen (m_len T) (acons (dv 2) anil)) di) anil))) (dintOf (m_int T) (acons (dcmp op_gt opr_gt (dv 8) di (nomark _)) anil)))))) (sone (sapp 6 (dtup (acons ds (acons (dv 9) (acons (dfrz (dcnC 0 D_law_draw (hr.mono (by decide)) hA (acons di anil))) (acons (dv 7) (acons (dixP (dv 4) (dfrz (dcnC 0 D_law_draw (hr.mono (by decide)) hA (acons di anil)))) anil))))))))) (fun R d i s nx bk h => Eq.mp (by kernel_rfl) h)) (scons (sapp 6 (dtup (acons ds (acons (dfrz (dcnC 0 D_law_draw (hr.mono (by decide)) hA (acons di anil))) (acons (dfrz (dcnC 0 D_law_scheme (hr.mono (by decide)) hA (acons (dv 4) anil))) anil))))) (scons (sset 10 sc_law_core.nd (dx (dadd di (dfrz (dcnC 0 D_law_draw (hr.mono (by decide)) hA (acons di anil)))))) (scons (sapp 6 (dtup (acons ds (acons (dixP (dv 5) di) (acons (dixP (dv 2) di) (acons (dv 10) (acons (dadd (dv 10) (dfrz (dcnC 0 D_law_draw (hr.mono (by decide)) hA (acons di anil)))) (acons (dfrz (dcnC 0 D_law_draw (hr.mono (by decide)) hA (acons di anil))) anil)))))))) (scons (sapp 6 (dadd (dtup (acons ds (acons (dixP (dv 5) di) anil))) (dfrz (dcnC 0 D_law_sale (hr.mono (by decide)) hA anil)))) (ssforget [2, 4, 5, 10] (scons (sif (dcmpT (op_eqE hr.units) opd_eq (dfrz (dcnC 0 D_law_draw (hr.mono (by decide)) hA (acons di anil))) di (nomark _)) (sone (sexpr (dx (dpop 6 (dfrz (dcnC 0 D_law_draw (hr.mono (by decide)) hA (acons (dlenC 6 (m_len T)) anil))))))) snil) (ssfreeze2 6 (sone (sret (m := 1) (dx (dv 6)))))))))))))))), fun as Q h => ?_⟩
  unfold S_law_core at h
  split at h
  · unfold q_law_core at h
    rename_i x0 x1
    refine at_env (b := [.cel true x0, .dat x1, .un, .un, .un, .un, .un, .un, .un, .un, .un]) rfl ?_
    exact Eq.mp (by kernel_rfl) h
  · exact h.elim
theorem ok_law_core (T : Tp K mg) (D_law_draw : Dn P w K mg base Tb "_law_draw" 1 ["_law_pot", "_law_many"] S_law_draw) (D_law_log : Dn P w K mg base Tb "_law_log" 2 ["_law_pot"] S_law_log) (D_law_sale : Dn P w K mg base Tb "_law_sale" 2 ["_law_pot"] S_law_sale) (D_law_scheme : Dn P w K mg base Tb "_law_scheme" 2 ["_law_pot", "_law_ranks"] S_law_scheme) : Dn P w K mg base Tb "_law_core" 3 ["_law_pot", "_law_folk_here"] S_law_core := by
  obtain ⟨kV, doc, pm, an, cdv, ct, Fn⟩ := T.fun_ "_law_core" (top 65) 35 110
  exact ⟨⟨_, fg_law_core T D_law_draw D_law_log D_law_sale D_law_scheme Fn, Fn.binds (ps := ["_law_pot", "_law_folk_here"]) fun _ _ _ _ _ _ us hl => match us, hl with | [_, _], _ => rfl⟩, T.glo "_law_core" 68, T.keep "_law_core" 110⟩
def kk_law_more : RT → (PyData → List PyData → Prop) := fun R v c => R (.dat v) [.cel true c]
def S_law_more : DSp := fun as Q => match as with
  | [.cel true x0, .dat x1, .dat x2, .dat x3] => q_law_more x0 x1 x2 x3 (kk_law_more Q)
  | _ => False
theorem len_law_more (as : List SD) (Q : SD → List SD → Prop) (h : S_law_more as Q) : as.length = 4 := by
  unfold S_law_more at h
  split at h
  · rfl
  · exact h.elim
theorem cels_law_more : CelsIn 1 S_law_more := by
  intro as Q h i p xs e
  unfold S_law_more at h
  split at h
  · exact cels1 (ds := [_, _, _]) e
  · exact h.elim
def N_law_more : List Str := ["_law_pot", "_law_folk_here", "_law_numbers", "_law_own", "_law_ships", "_law_men", "_law_ranks", "_law_prizes", "_law_ship", "_law_man", "_law_prize", "_law_number", "_law_way", "_law_aboard", "_law_low"]
theorem sc_law_more : FnScope N_law_more ["_law_pot", "_law_folk_here", "_law_numbers", "_law_own"] (defScope (top 66)) := ⟨rfl, rfl, rfl, by decide +kernel, rfl, by decide +kernel, by decide +kernel⟩
theorem fg_law_more (T : Tp K mg) (D_law_draw : Dn P w K mg base Tb "_law_draw" 1 ["_law_pot", "_law_many"] S_law_draw) (D_law_log : Dn P w K mg base Tb "_law_log" 2 ["_law_pot"] S_law_log) (D_law_sale : Dn P w K mg base Tb "_law_sale" 2 ["_law_pot"] S_law_sale) (D_law_scheme : Dn P w K mg base Tb "_law_scheme" 2 ["_law_pot", "_law_ranks"] S_law_scheme) {fd : FuncData} (Fn : Fun K "_law_more" "_law_more" (top 66) (He.ga K "_law_more") fd) : FnG P w K mg base Tb 3 (He.ga K "_law_more") fd ["_law_pot", "_law_folk_here", "_law_numbers", "_law_own"] S_law_more := by
  refine dfn 1 Fn sc_law_more len_law_more cels_law_more fun cdv A outer s H hr hA => ⟨_, (scons (sasg (dv 1) (gtup (gl_cons gok_n (gl_cons gok_n (gl_cons gok_n (gl_cons gok_n gl_nil)))) rfl (gcons (gn 4 sc_law_more.nd) (gcons (gn 5 sc_law_more.nd) (gcons (gn 6 sc_law_more.nd) (gcons (gn 7 sc_law_more.nd) gnil)))))) (scons (sset 8 sc_law_more.nd (dx (dixP (dv 4) (dfrz (dcnC 0 D_law_draw (hr.mono (by decide)) hA (acons (dlen (m_len T) (acons (dv 4) anil)) anil)))))) (scons (sset 9 sc_law_more.nd (dx (dixP (dv 5) (dfrz (dcnC 0 D_law_draw (hr.mono (by decide)) hA (acons (dlen (m_len T) (acons (dv 5) anil)) anil)))))) (scons (sset 10 sc_law_more.nd (dx (dixP (dv 7) (ddiv (dfrz (dcnC 0 D_law_draw (hr.mono (by decide)) hA (acons di anil))) di)))) (scons (sset 11 sc_law_more.nd (dx (dixP (dv 2) (dfrz (dcnC 0 D_law_draw (hr.mono (by decide)) hA (acons (dlen (m_len T) (acons (dv 2) anil)) anil)))))) (scons (sset 12 sc_law_more.nd (dcnC 0 D_law_draw (hr.mono (by decide)) hA (acons di anil))) (ssforget [1, 2, 5, 7] (scons (sif (dcmpT (op_eqE hr.units) opd_eq (dv 12) di (nomark _)) (sone (sret (m := 1) (dx (dtup (acons ds (acons (dv 8) (acons (dfrz (dcnC 0 D_law_log (hr.mono (by decide)) hA anil)) anil))))))) snil) (scons (sif (dcmpT (op_eqE hr.units) opd_eq (dv 12) di (nomark _)) (scons (sset 13 sc_law_more.nd (dx (dixP (dadd (dv 4) (dfrz (dlst (acons ds anil)))) (dfrz (dcnC 0 D_law_draw (hr.mono (by decide)) hA (acons (dadd (dlen (m_len T) (acons (dv 4) anil)) di) anil)))))) (sone (sret (m := 1) (dx (dtup (acons ds (acons (dv 9) (acons (dfrz (dcnC 0 D_law_draw (hr.mono (by decide)) hA (acons di anil))) (acons (dv 13) (acons (dixP (dv 6) (dfrz (dcnC 0 D_law_draw (hr.mono (by decide)) hA (acons di anil)))) anil)))))))))) snil) (ssforget [4] (scons (sif (dcmpT (op_eqE hr.units) opd_eq (dv 12) di (nomark _)) (sone (sret (m := 1) (dx (dtup (acons ds (acons (dfrz (dcnC 0 D_law_draw (hr.mono (by decide)) hA (acons di anil))) (acons (dfrz (dcnC 0 D_law_scheme (hr.mono (by decide)) hA (acons (dv 6) anil))) anil))))))) snil) (ssforget [6] (scons (sif (dcmpT (op_eqE hr.units) opd_eq (dv 12) di (nomark _)) (scons (sset 14 sc_law_more.nd (dcnC 0 D_law_draw (hr.mono (by decide)) hA (acons di anil))) (sone (sret (m := 1) (dx (dtup (acons ds (acons (dv 10) (acons (dv 8) (acons (dv 14) (acons (dadd (dv 14) (dfrz (dcnC 0 D_law_draw (hr.mono (by decide)) hA (acons di anil)))) (acons (dfrz (dcnC 0 D_law_draw (hr.mono (by decide)) hA (acons di anil))) anil))))))))))) snil) (scons (sif (dcmpT (op_eqE hr.units) opd_eq (dv 12) di (nomark _)) (sone (sret (m := 1) (dx (dadd (dtup (acons ds (acons (dv 10) anil))) (dfrz (dcnC 0 D_law_sale (hr.mono (by decide)) hA anil)))))) snil) (scons (sif (dcmpT op_ltA opr_ltA (dv 12) di (nomark _)) (sone (sret (m := 1) (dx (dtup (acons ds (acons (dv 9) (acons (dv 10) (acons (dadd di (dixP (dtup (acons (dfrz (dcnC 0 D_law_draw (hr.mono (by decide)) hA (acons di anil))) (acons (dfrz (dcnC 0 D_law_draw (hr.mono (by decide)) hA (acons (dpow di di) anil))) anil))) (ddiv (dfrz (dcnC 0 D_law_draw (hr.mono (by decide)) hA (acons di anil))) di))) anil)))))))) snil) (ssforget [9, 10] (scons (sif (tand (dcmpT op_ltA opr_ltA (dv 12) di (nomark _)) (tand1 (dcmpT op_ltA opr_ltA (dv 11) (dv 3) (nomark _)))).pt (sone (sret (m := 1) (dx (dtup (acons ds (acons (dv 11) anil)))))) snil) (sone (sret (m := 1) (dx (dtup (acons ds (acons (dv 8) (acons (dv 11) anil)))))))))))))))))))))))), fun as Q h => ?_⟩
  unfold S_law_more at h
  split at h
  · unfold q_law_more at h
    rename_i x0 x1 x2 x3
    refine at_env (b := [.cel true x0, .dat x1, .dat x2, .dat x3, .un, .un, .un, .un, .un, .un, .un, .un, .un, .un, .un]) rfl ?_
    exact Eq.mp (by kernel_rfl) h
  · exact h.elim
theorem ok_law_more (T : Tp K mg) (D_law_draw : Dn P w K mg base Tb "_law_draw" 1 ["_law_pot", "_law_many"] S_law_draw) (D_law_log : Dn P w K mg base Tb "_law_log" 2 ["_law_pot"] S_law_log) (D_law_sale : Dn P w K mg base Tb "_law_sale" 2 ["_law_pot"] S_law_sale) (D_law_scheme : Dn P w K mg base Tb "_law_scheme" 2 ["_law_pot", "_law_ranks"] S_law_scheme) : Dn P w K mg base Tb "_law_more" 3 ["_law_pot", "_law_folk_here", "_law_numbers", "_law_own"] S_law_more := by
  obtain ⟨kV, doc, pm, an, cdv, ct, Fn⟩ := T.fun_ "_law_more" (top 66) 36 111
  exact ⟨⟨_, fg_law_more T D_law_draw D_law_log D_law_sale D_law_scheme Fn, Fn.binds (ps := ["_law_pot", "_law_folk_here", "_law_numbers", "_law_own"]) fun _ _ _ _ _ _ us hl => match us, hl with | [_, _, _, _], _ => rfl⟩, T.glo "_law_more" 69, T.keep "_law_more" 111⟩
def kk_law_book : RT → (PyData → List PyData → Prop) := fun R v c => R (.dat v) [.cel true c]
def em_law_book_1 (i : PyData × PyData × PyData) (s : List PyData × List PyData × PyData) : List SD := [.cel true s.1, .dat i.1, .dat i.2.1, .dat i.2.2, .cel false s.2.1, .dat s.2.2, .un, .un, .un, .un]
def de_law_book_1 : List SD → Option ((PyData × PyData × PyData) × (List PyData × List PyData × PyData))
  | [.cel true x0, .dat x1, .dat x2, .dat x3, .cel false x4, .dat x5, .un, .un, .un, .un] => some ((x1, x2, x3), (x0, x4, x5))
  | _ => none
theorem hde_law_book_1 : ∀ env i s, de_law_book_1 env = some (i, s) → env = em_law_book_1 i s := by
  intro env i s h
  unfold de_law_book_1 at h
  split at h
  · cases h; rfl
  · cases h
def em_law_book_2 (i : PyData × PyData) (s : List PyData × List PyData × PyData) : List SD := [.cel true s.1, .dat i.1, .un, .dat i.2, .cel false s.2.1, .dat s.2.2, .un, .un, .un, .un]
def de_law_book_2 : List SD → Option ((PyData × PyData) × (List PyData × List PyData × PyData))
  | [.cel true x0, .dat x1, .un, .dat x3, .cel false x4, .dat x5, .un, .un, .un, .un] => some ((x1, x3), (x0, x4, x5))
  | _ => none
theorem hde_law_book_2 : ∀ env i s, de_law_book_2 env = some (i, s) → env = em_law_book_2 i s := by
  intro env i s h
  unfold de_law_book_2 at h
  split at h
  · cases h; rfl
  · cases h
def em_law_book_3 (i : PyData × PyData × PyData × PyData × PyData) (s : Unit) : List SD := [.dat i.1, .dat i.2.1, .un, .dat i.2.2.1, .dat i.2.2.2.1, .dat i.2.2.2.2, .un, .un, .un, .un]
def de_law_book_3 : List SD → Option ((PyData × PyData × PyData × PyData × PyData) × (Unit))
  | [.dat x0, .dat x1, .un, .dat x3, .dat x4, .dat x5, .un, .un, .un, .un] => some ((x0, x1, x3, x4, x5), ())
  | _ => none
theorem hde_law_book_3 : ∀ env i s, de_law_book_3 env = some (i, s) → env = em_law_book_3 i s := by
  intro env i s h
  unfold de_law_book_3 at h
  split at h
  · cases h; rfl
  · cases h
def S_law_book : DSp := fun as Q => match as with
  | [.cel true x0, .dat x1, .dat x2] => q_law_book x0 x1 x2 (kk_law_book Q)
  | _ => False
theorem len_law_book (as : List SD) (Q : SD → List SD → Prop) (h : S_law_book as Q) : as.length = 3 := by
  unfold S_law_book at h
  split at h
  · rfl
  · exact h.elim
theorem cels_law_book : CelsIn 1 S_law_book := by
  intro as Q h i p xs e
  unfold S_law_book at h
  split at h
  · exact cels1 (ds := [_, _]) e
  · exact h.elim
def N_law_book : List Str := ["_law_pot", "_law_folk_here", "_law_most", "_law_far", "_law_found", "_law_number", "_law_body", "_law_k", "_law_numbers", "_law_page"]
theorem sc_law_book : FnScope N_law_book ["_law_pot", "_law_folk_here", "_law_most"] (defScope (top 67)) := ⟨rfl, rfl, rfl, by decide +kernel, rfl, by decide +kernel, by decide +kernel⟩
theorem fg_law_book (T : Tp K mg) (D_law_core : Dn P w K mg base Tb "_law_core" 3 ["_law_pot", "_law_folk_here"] S_law_core) (D_law_draw : Dn P w K mg base Tb "_law_draw" 1 ["_law_pot", "_law_many"] S_law_draw) (D_law_more : Dn P w K mg base Tb "_law_more" 3 ["_law_pot", "_law_folk_here", "_law_numbers", "_law_own"] S_law_more) (D_law_shuffled : Dn P w K mg base Tb "_law_shuffled" 2 ["_law_pot", "_law_some"] S_law_shuffled) {fd : FuncData} (Fn : Fun K "_law_book" "_law_book" (top 67) (He.ga K "_law_book") fd) : FnG P w K mg base Tb 4 (He.ga K "_law_book") fd ["_law_pot", "_law_folk_here", "_law_most"] S_law_book := by
  refine dfn 1 Fn sc_law_book len_law_book cels_law_book fun cdv A outer s H hr hA => ⟨_, (scons (sset 3 sc_law_book.nd (dx (dixP (dtup (acons di (acons di (acons di (acons (dadd (dpow di di) di) anil))))) (dfrz (dcnC 0 D_law_draw (hr.mono (by decide)) hA (acons di anil)))))) (scons (sset 4 sc_law_book.nd (dlst anil)) (scons (sset 5 sc_law_book.nd (dcnC 0 D_law_draw (hr.mono (by decide)) hA (acons di anil))) (scons (sforQ [6] de_law_book_1 em_law_book_1 kk_law_book qb_law_book_1 hde_law_book_1 PassesOwn.never rfl (iseq (dfrz (dcnC 0 D_law_core (hr.mono (by decide)) hA (acons (dv 1) anil)))) (gn 6 sc_law_book.nd) (scons (sapp 4 (dtup (acons (dfrz (dcnC 0 D_law_draw (hr.mono (by decide)) hA (acons (dv 3) anil))) (acons (dv 5) (acons (dv 6) anil))))) (sone (sset 5 sc_law_book.nd (dx (dadd (dadd (dv 5) di) (dfrz (dcnC 0 D_law_draw (hr.mono (by decide)) hA (acons di anil)))))))) (fun R d i s nx bk h => Eq.mp (by kernel_rfl) h)) (scons (sforQ [2, 7, 8] de_law_book_2 em_law_book_2 kk_law_book qb_law_book_2 hde_law_book_2 PassesOwn.never rfl (irange1 (m_range T) (acons (dfrz (dcnC 0 D_law_draw (hr.mono (by decide)) hA (acons (dadd (dv 2) di) anil))) anil)) (gn 7 sc_law_book.nd) (ssforget [7] (scons (sset 8 sc_law_book.nd (dx (dadd (dfrz (dborX (dlc (dec := de_law_book_3) (emb := em_law_book_3) (qb := qb_law_book_3) [("_law_page", 9)] (.one 9) hde_law_book_3 rfl sc_law_book.nd (iseq (dv 4)) (blkOk_by (own := [("_law_page", 9)]) (N := N_law_book) (sc := defScope (top 67)) (by decide +kernel)) (fun _ _ _ _ _ => pg_name (i := 9) sc_law_book.nd rfl (Or.inl rfl)) (fun _ _ _ _ _ => tyes) (fun _ _ _ _ _ => (dixP (dv 9) di)) (fun d i s sk yd h => Eq.mp (by kernel_rfl) h)))) (dfrz (dlst (acons (dadd (dv 5) di) anil)))))) (scons (sapp 4 (dtup (acons (dfrz (dcnC 0 D_law_draw (hr.mono (by decide)) hA (acons (dv 3) anil))) (acons (dv 5) (acons (dfrz (dcnC 0 D_law_more (hr.mono (by decide)) hA (acons (dv 1) (acons (dv 8) (acons (dv 5) anil))))) anil))))) (sone (sset 5 sc_law_book.nd (dx (dadd (dadd (dv 5) di) (dfrz (dcnC 0 D_law_draw (hr.mono (by decide)) hA (acons di anil)))))))))) (fun R d i s nx bk h => Eq.mp (by kernel_rfl) h)) (ssfreeze2 4 (sone (sret (m := 1) (dx (dfrz (dcnC 0 D_law_shuffled (hr.mono (by decide)) hA (acons (dv 4) anil)))))))))))), fun as Q h => ?_⟩
  unfold S_law_book at h
  split at h
  · unfold q_law_book at h
    rename_i x0 x1 x2
    refine at_env (b := [.cel true x0, .dat x1, .dat x2, .un, .un, .un, .un, .un, .un, .un]) rfl ?_
    exact Eq.mp (by kernel_rfl) h
  · exact h.elim
theorem ok_law_book (T : Tp K mg) (D_law_core : Dn P w K mg base Tb "_law_core" 3 ["_law_pot", "_law_folk_here"] S_law_core) (D_law_draw : Dn P w K mg base Tb "_law_draw" 1 ["_law_pot", "_law_many"] S_law_draw) (D_law_more : Dn P w K mg base Tb "_law_more" 3 ["_law_pot", "_law_folk_here", "_law_numbers", "_law_own"] S_law_more) (D_law_shuffled : Dn P w K mg base Tb "_law_shuffled" 2 ["_law_pot", "_law_some"] S_law_shuffled) : Dn P w K mg base Tb "_law_book" 4 ["_law_pot", "_law_folk_here", "_law_most"] S_law_book := by
  obtain ⟨kV, doc, pm, an, cdv, ct, Fn⟩ := T.fun_ "_law_book" (top 67) 37 112
  exact ⟨⟨_, fg_law_book T D_law_core D_law_draw D_law_more D_law_shuffled Fn, Fn.binds (ps := ["_law_pot", "_law_folk_here", "_law_most"]) fun _ _ _ _ _ _ us hl => match us, hl with | [_, _, _], _ => rfl⟩, T.glo "_law_book" 70, T.keep "_law_book" 112⟩
def kk_law_day : RT → (PyData → List PyData → Prop) := fun R v c => R (.dat v) [.cel true c]
def em_law_day_1 (i : List PyData × PyData) (s : Unit) : List SD := [.cel true i.1, .dat i.2, .un, .un, .un]
def de_law_day_1 : List SD → Option ((List PyData × PyData) × (Unit))
  | [.cel true x0, .dat x1, .un, .un, .un] => some ((x0, x1), ())
  | _ => none
theorem hde_law_day_1 : ∀ env i s, de_law_day_1 env = some (i, s) → env = em_law_day_1 i s := by
  intro env i s h
  unfold de_law_day_1 at h
  split at h
  · cases h; rfl
  · cases h
def S_law_day : DSp := fun as Q => match as with
  | [.cel true x0, .dat x1] => q_law_day x0 x1 (kk_law_day Q)
  | _ => False
theorem len_law_day (as : List SD) (Q : SD → List SD → Prop) (h : S_law_day as Q) : as.length = 2 := by
  unfold S_law_day at h
  split at h
  · rfl
  · exact h.elim
theorem cels_law_day : CelsIn 1 S_law_day := by
  intro as Q h i p xs e
  unfold S_law_day at h
  split at h
  · exact cels1 (ds := [_]) e
  · exact h.elim
def N_law_day : List Str := ["_law_pot", "_law_pages", "_law_days", "_law_day_here", "_law_page"]
theorem sc_law_day : FnScope N_law_day ["_law_pot", "_law_pages"] (defScope (top 68)) := ⟨rfl, rfl, rfl, by decide +kernel, rfl, by decide +kernel, by decide +kernel⟩
theorem fg_law_day (T : Tp K mg) (D_law_draw : Dn P w K mg base Tb "_law_draw" 1 ["_law_pot", "_law_many"] S_law_draw) {fd : FuncData} (Fn : Fun K "_law_day" "_law_day" (top 68) (He.ga K "_law_day") fd) : FnG P w K mg base Tb 2 (He.ga K "_law_day") fd ["_law_pot", "_law_pages"] S_law_day := by
  refine dfn 1 Fn sc_law_day len_law_day cels_law_day fun cdv A outer s H hr hA => ⟨_, (scons (sset 2 sc_law_day.nd (dx (dadd (dfrz (dsorted hr (m_sorted T) (dfrz (dlc (dec := de_law_day_1) (emb := em_law_day_1) (qb := qb_law_day_1) [("_law_page", 4)] (.one 4) hde_law_day_1 rfl sc_law_day.nd (iseq (dv 1)) (blkOk_by (own := [("_law_page", 4)]) (N := N_law_day) (sc := defScope (top 68)) (by decide +kernel)) (fun _ _ _ _ _ => pg_name (i := 4) sc_law_day.nd rfl (Or.inl rfl)) (fun _ _ _ _ _ => tyes) (fun _ _ _ _ _ => (dixP (dv 4) di)) (fun d i s sk yd h => Eq.mp (by kernel_rfl) h))))) (dfrz (dlst (acons di anil)))))) (scons (sset 3 sc_law_day.nd (dx (dixP (dv 2) (dfrz (dcnC 0 D_law_draw (hr.mono (by decide)) hA (acons (dlen (m_len T) (acons (dv 2) anil)) anil)))))) (sone (sret (m := 1) (dx (dixP (dtup (acons (dv 3) (acons (dixP (dv 2) (dneg di)) (acons (dmaxL (m_max T) rfl hr.units (acons (dv 2) anil)) (acons (dmax2 (m_max T) rfl (acons di (acons (dsub (dv 3) di) anil))) (acons (dfrz (dcnC 0 D_law_draw (hr.mono (by decide)) hA (acons di anil))) (acons (dpow di di) anil))))))) (dfrz (dcnC 0 D_law_draw (hr.mono (by decide)) hA (acons di anil))))))))), fun as Q h => ?_⟩
  unfold S_law_day at h
  split at h
  · unfold q_law_day at h
    rename_i x0 x1
    refine at_env (b := [.cel true x0, .dat x1, .un, .un, .un]) rfl ?_
    exact Eq.mp (by kernel_rfl) h
  · exact h.elim
theorem ok_law_day (T : Tp K mg) (D_law_draw : Dn P w K mg base Tb "_law_draw" 1 ["_law_pot", "_law_many"] S_law_draw) : Dn P w K mg base Tb "_law_day" 2 ["_law_pot", "_law_pages"] S_law_day := by
  obtain ⟨kV, doc, pm, an, cdv, ct, Fn⟩ := T.fun_ "_law_day" (top 68) 38 113
  exact ⟨⟨_, fg_law_day T D_law_draw Fn, Fn.binds (ps := ["_law_pot", "_law_pages"]) fun _ _ _ _ _ _ us hl => match us, hl with | [_, _], _ => rfl⟩, T.glo "_law_day" 71, T.keep "_law_day" 113⟩
def kk_law_stand : RT → (PyData → Prop) := fun R v => R (.dat v) []
def em_law_stand_1 (i : PyData × PyData × KVM × KVM) (s : Unit) : List SD := [.dat i.1, .dat i.2.1, .dic (.kk i.2.2.1), .dic (.kk i.2.2.2), .un, .un]
def de_law_stand_1 : List SD → Option ((PyData × PyData × KVM × KVM) × (Unit))
  | [.dat x0, .dat x1, .dic (.kk x2), .dic (.kk x3), .un, .un] => some ((x0, x1, x2, x3), ())
  | _ => none
theorem hde_law_stand_1 : ∀ env i s, de_law_stand_1 env = some (i, s) → env = em_law_stand_1 i s := by
  intro env i s h
  unfold de_law_stand_1 at h
  split at h
  · cases h; rfl
  · cases h
def em_law_stand_2 (i : PyData) (s : KVM × KVM) : List SD := [.un, .dat i, .dic (.kk s.1), .dic (.kk s.2), .un, .un]
def de_law_stand_2 : List SD → Option ((PyData) × (KVM × KVM))
  | [.un, .dat x1, .dic (.kk x2), .dic (.kk x3), .un, .un] => some (x1, (x2, x3))
  | _ => none
theorem hde_law_stand_2 : ∀ env i s, de_law_stand_2 env = some (i, s) → env = em_law_stand_2 i s := by
  intro env i s h
  unfold de_law_stand_2 at h
  split at h
  · cases h; rfl
  · cases h
def em_law_stand_3 (i : PyData × KVM) (s : Unit) : List SD := [.un, .un, .dat i.1, .dic (.kk i.2), .un, .un]
def de_law_stand_3 : List SD → Option ((PyData × KVM) × (Unit))
  | [.un, .un, .dat x2, .dic (.kk x3), .un, .un] => some ((x2, x3), ())
  | _ => none
theorem hde_law_stand_3 : ∀ env i s, de_law_stand_3 env = some (i, s) → env = em_law_stand_3 i s := by
  intro env i s h
  unfold de_law_stand_3 at h
  split at h
  · cases h; rfl
  · cases h
def S_law_stand : DSp := fun as Q => match as with
  | [.dat x0, .dat x1] => q_law_stand x0 x1 (kk_law_stand Q)
  | _ => False
theorem len_law_stand (as : List SD) (Q : SD → List SD → Prop) (h : S_law_stand as Q) : as.length = 2 := by
  unfold S_law_stand at h
  split at h
  · rfl
  · exact h.elim
theorem cels_law_stand : CelsIn 0 S_law_stand := by
  intro as Q h i p xs e
  unfold S_law_stand at h
  split at h
  · exact absurd e (no_cel (ds := [_, _]) i p xs)
  · exact h.elim
def N_law_stand : List Str := ["_law_pages", "_law_day_here", "_law_found", "_law_struck", "_law_number", "_law_page"]
theorem sc_law_stand : FnScope N_law_stand ["_law_pages", "_law_day_here"] (defScope (top 69)) := ⟨rfl, rfl, rfl, by decide +kernel, rfl, by decide +kernel, by decide +kernel⟩
theorem fg_law_stand (T : Tp K mg)  {fd : FuncData} (Fn : Fun K "_law_stand" "_law_stand" (top 69) (He.ga K "_law_stand") fd) : FnG P w K mg base Tb 1 (He.ga K "_law_stand") fd ["_law_pages", "_law_day_here"] S_law_stand := by
  refine dfnW 0 Fn sc_law_stand len_law_stand cels_law_stand fun cdv A outer s H hP hW hr hA => ⟨_, (scons (sknew 2 sc_law_stand.nd hP hW) (scons (sknew 3 sc_law_stand.nd hP hW) (scons (sforQ [0, 4, 5] de_law_stand_2 em_law_stand_2 kk_law_stand qb_law_stand_2 hde_law_stand_2 PassesOwn.never rfl (iseqM (dfrz (dsortedN (b := true) hr (m_sorted T) (dfrz (dlc (dec := de_law_stand_1) (emb := em_law_stand_1) (qb := qb_law_stand_1) [("_law_page", 5)] (.one 5) hde_law_stand_1 rfl sc_law_stand.nd (iseqM (dv 0)) (blkOk_by (own := [("_law_page", 5)]) (N := N_law_stand) (sc := defScope (top 69)) (by decide +kernel)) (fun _ _ _ _ _ => pg_name (i := 5) sc_law_stand.nd rfl (Or.inl rfl)) (fun _ _ _ _ _ => tyes) (fun _ _ _ _ _ => (dtup (acons (dixP (dv 5) di) (acons (dv 5) anil)))) (fun d i s sk yd h => Eq.mp (by kernel_rfl) h)))))) (gtup (gl_cons gok_n (gl_cons gok_n gl_nil)) rfl (gcons (gn 4 sc_law_stand.nd) (gcons (gn 5 sc_law_stand.nd) gnil))) (sone (sif (tand (dcmpT op_le opr_le (dixP (dv 5) di) (dv 1) (nomark _)) (tand1 (tborW hP hW (tninM hr (dv 4) (dv 3))))).pt (scons (skput 2 hr hP hW (dv 5) (dv 4)) (sone (sif (dcmpT (op_eqE hr.units) opd_eq (dixP (dixP (dv 5) di) di) ds (nomark _)) (sone (skput 3 hr hP hW (dv 4) (dixP (dixP (dv 5) di) di))) snil))) snil)) (fun R d i s nx bk h => Eq.mp (by kernel_rfl) h)) (ssforget [1] (ssfreezeW 2 hP hW (sone (sret (m := 0) (dx (dfrz (dlc (dec := de_law_stand_3) (emb := em_law_stand_3) (qb := qb_law_stand_3) [("_law_number", 4)] (.one 4) hde_law_stand_3 rfl sc_law_stand.nd (iseqM (dfrz (dsortKk hr (by rfl) (m_sorted T) (dv 2)))) (blkOk_by (own := [("_law_number", 4)]) (N := N_law_stand) (sc := defScope (top 69)) (by decide +kernel)) (fun _ _ _ _ _ => pg_name (i := 4) sc_law_stand.nd rfl (Or.inl rfl)) (fun _ _ _ _ _ => tyes) (fun _ _ _ _ _ => (dixM hr (dv 2) (dv 4))) (fun d i s sk yd h => Eq.mp (by kernel_rfl) h))))))))))), fun as Q h => ?_⟩
  unfold S_law_stand at h
  split at h
  · unfold q_law_stand at h
    rename_i x0 x1
    refine at_env (b := [.dat x0, .dat x1, .un, .un, .un, .un]) rfl ?_
    exact Eq.mp (by kernel_rfl) h
  · exact h.elim
theorem ok_law_stand (T : Tp K mg)  : Dn P w K mg base Tb "_law_stand" 1 ["_law_pages", "_law_day_here"] S_law_stand := by
  obtain ⟨kV, doc, pm, an, cdv, ct, Fn⟩ := T.fun_ "_law_stand" (top 69) 39 114
  exact ⟨⟨_, fg_law_stand T  Fn, Fn.binds (ps := ["_law_pages", "_law_day_here"]) fun _ _ _ _ _ _ us hl => match us, hl with | [_, _], _ => rfl⟩, T.glo "_law_stand" 72, T.keep "_law_stand" 114⟩
def kk_law_more_prizes : RT → (PyData → List PyData → Prop) := fun R v c => R (.dat v) [.cel true c]
def em_law_more_prizes_1 (i : List PyData × PyData × PyData × List PyData) (s : Unit) : List SD := [.cel true i.1, .dat i.2.1, .dat i.2.2.1, .cel false i.2.2.2, .un, .un, .un, .un, .un]
def de_law_more_prizes_1 : List SD → Option ((List PyData × PyData × PyData × List PyData) × (Unit))
  | [.cel true x0, .dat x1, .dat x2, .cel false x3, .un, .un, .un, .un, .un] => some ((x0, x1, x2, x3), ())
  | _ => none
theorem hde_law_more_prizes_1 : ∀ env i s, de_law_more_prizes_1 env = some (i, s) → env = em_law_more_prizes_1 i s := by
  intro env i s h
  unfold de_law_more_prizes_1 at h
  split at h
  · cases h; rfl
  · cases h
def em_law_more_prizes_2 (i : PyData) (s : List PyData × List PyData × PyData) : List SD := [.cel true s.1, .dat i, .un, .cel false s.2.1, .dat s.2.2, .un, .un, .un, .un]
def de_law_more_prizes_2 : List SD → Option ((PyData) × (List PyData × List PyData × PyData))
  | [.cel true x0, .dat x1, .un, .cel false x3, .dat x4, .un, .un, .un, .un] => some (x1, (x0, x3, x4))
  | _ => none
theorem hde_law_more_prizes_2 : ∀ env i s, de_law_more_prizes_2 env = some (i, s) → env = em_law_more_prizes_2 i s := by
  intro env i s h
  unfold de_law_more_prizes_2 at h
  split at h
  · cases h; rfl
  · cases h
def S_law_more_prizes : DSp := fun as Q => match as with
  | [.cel true x0, .dat x1, .dat x2] => q_law_more_prizes x0 x1 x2 (kk_law_more_prizes Q)
  | _ => False
theorem len_law_more_prizes (as : List SD) (Q : SD → List SD → Prop) (h : S_law_more_prizes as Q) : as.length = 3 := by
  unfold S_law_more_prizes at h
  split at h
  · rfl
  · exact h.elim
theorem cels_law_more_prizes : CelsIn 1 S_law_more_prizes := by
  intro as Q h i p xs e
  unfold S_law_more_prizes at h
  split at h
  · exact cels1 (ds := [_, _]) e
  · exact h.elim
def N_law_more_prizes : List Str := ["_law_pot", "_law_folk_here", "_law_pages", "_law_found", "_law_number", "_law_k", "_law_prize", "_law_body", "_law_page"]
theorem sc_law_more_prizes : FnScope N_law_more_prizes ["_law_pot", "_law_folk_here", "_law_pages"] (defScope (top 70)) := ⟨rfl, rfl, rfl, by decide +kernel, rfl, by decide +kernel, by decide +kernel⟩
theorem fg_law_more_prizes (T : Tp K mg) (D_law_draw : Dn P w K mg base Tb "_law_draw" 1 ["_law_pot", "_law_many"] S_law_draw) (D_law_name : Dn P w K mg base Tb "_law_name" 2 ["_law_pot", "_law_last"] S_law_name) (D_law_sale : Dn P w K mg base Tb "_law_sale" 2 ["_law_pot"] S_law_sale) (D_law_shuffled : Dn P w K mg base Tb "_law_shuffled" 2 ["_law_pot", "_law_some"] S_law_shuffled) {fd : FuncData} (Fn : Fun K "_law_more_prizes" "_law_more_prizes" (top 70) (He.ga K "_law_more_prizes") fd) : FnG P w K mg base Tb 3 (He.ga K "_law_more_prizes") fd ["_law_pot", "_law_folk_here", "_law_pages"] S_law_more_prizes := by
  refine dfn 1 Fn sc_law_more_prizes len_law_more_prizes cels_law_more_prizes fun cdv A outer s H hr hA => ⟨_, (scons (sset 3 sc_law_more_prizes.nd (dlistOf (m_list T) (acons (dv 2) anil))) (scons (sset 4 sc_law_more_prizes.nd (dx (dadd (dmaxL (m_max T) rfl hr.units (acons (dfrz (dlc (dec := de_law_more_prizes_1) (emb := em_law_more_prizes_1) (qb := qb_law_more_prizes_1) [("_law_page", 8)] (.one 8) hde_law_more_prizes_1 rfl sc_law_more_prizes.nd (iseq (dv 2)) (blkOk_by (own := [("_law_page", 8)]) (N := N_law_more_prizes) (sc := defScope (top 70)) (by decide +kernel)) (fun _ _ _ _ _ => pg_name (i := 8) sc_law_more_prizes.nd rfl (Or.inl rfl)) (fun _ _ _ _ _ => tyes) (fun _ _ _ _ _ => (dixP (dv 8) di)) (fun d i s sk yd h => Eq.mp (by kernel_rfl) h))) anil)) di))) (ssforget [2] (scons (sforQ [5, 6, 7] de_law_more_prizes_2 em_law_more_prizes_2 kk_law_more_prizes qb_law_more_prizes_2 hde_law_more_prizes_2 PassesOwn.never rfl (irange1 (m_range T) (acons (dfrz (dcnC 0 D_law_draw (hr.mono (by decide)) hA (acons di anil))) anil)) (gn 5 sc_law_more_prizes.nd) (scons (sset 6 sc_law_more_prizes.nd (dcnC 0 D_law_name (hr.mono (by decide)) hA (acons (dfrz (dcnC 0 D_law_draw (hr.mono (by decide)) hA (acons di anil))) anil))) (scons (sset 7 sc_law_more_prizes.nd (dx (dixP (dtup (acons (dadd (dtup (acons ds (acons (dv 6) anil))) (dfrz (dcnC 0 D_law_sale (hr.mono (by decide)) hA anil))) (acons (dtup (acons ds (acons (dv 6) (acons (dixP (dixP (dv 1) di) di) (acons di (acons di (acons di anil))))))) (acons (dtup (acons ds (acons (dv 6) (acons (dixP (dixP (dv 1) di) di) (acons di anil))))) (acons (dtup (acons ds (acons (dixP (dixP (dv 1) di) di) (acons (dv 6) (acons di anil))))) (acons (dtup (acons ds (acons (dixP (dixC 3 (dfrz (dcnC 0 D_law_draw (hr.mono (by decide)) hA (acons (dlenC 3 (m_len T)) anil)))) di) anil))) anil)))))) (dfrz (dcnC 0 D_law_draw (hr.mono (by decide)) hA (acons di anil)))))) (scons (sapp 3 (dtup (acons (dfrz (dcnC 0 D_law_draw (hr.mono (by decide)) hA (acons di anil))) (acons (dv 4) (acons (dv 7) anil))))) (sone (sset 4 sc_law_more_prizes.nd (dx (dadd (dv 4) di))))))) (fun R d i s nx bk h => Eq.mp (by kernel_rfl) h)) (ssfreeze2 3 (sone (sret (m := 1) (dx (dfrz (dcnC 0 D_law_shuffled (hr.mono (by decide)) hA (acons (dv 3) anil))))))))))), fun as Q h => ?_⟩
  unfold S_law_more_prizes at h
  split at h
  · unfold q_law_more_prizes at h
    rename_i x0 x1 x2
    refine at_env (b := [.cel true x0, .dat x1, .dat x2, .un, .un, .un, .un, .un, .un]) rfl ?_
    exact Eq.mp (by kernel_rfl) h
  · exact h.elim
theorem ok_law_more_prizes (T : Tp K mg) (D_law_draw : Dn P w K mg base Tb "_law_draw" 1 ["_law_pot", "_law_many"] S_law_draw) (D_law_name : Dn P w K mg base Tb "_law_name" 2 ["_law_pot", "_law_last"] S_law_name) (D_law_sale : Dn P w K mg base Tb "_law_sale" 2 ["_law_pot"] S_law_sale) (D_law_shuffled : Dn P w K mg base Tb "_law_shuffled" 2 ["_law_pot", "_law_some"] S_law_shuffled) : Dn P w K mg base Tb "_law_more_prizes" 3 ["_law_pot", "_law_folk_here", "_law_pages"] S_law_more_prizes := by
  obtain ⟨kV, doc, pm, an, cdv, ct, Fn⟩ := T.fun_ "_law_more_prizes" (top 70) 40 115
  exact ⟨⟨_, fg_law_more_prizes T D_law_draw D_law_name D_law_sale D_law_shuffled Fn, Fn.binds (ps := ["_law_pot", "_law_folk_here", "_law_pages"]) fun _ _ _ _ _ _ us hl => match us, hl with | [_, _, _], _ => rfl⟩, T.glo "_law_more_prizes" 73, T.keep "_law_more_prizes" 115⟩
def kk_law : RT → (PyData → Prop) := fun R v => R (.dat v) []
def em_law_1 (i : PyData) (s : Unit) : List SD := [.dat i, .un, .un, .un, .un, .un, .un, .un, .un, .un]
def de_law_1 : List SD → Option ((PyData) × (Unit))
  | [.dat x0, .un, .un, .un, .un, .un, .un, .un, .un, .un] => some (x0, ())
  | _ => none
theorem hde_law_1 : ∀ env i s, de_law_1 env = some (i, s) → env = em_law_1 i s := by
  intro env i s h
  unfold de_law_1 at h
  split at h
  · cases h; rfl
  · cases h
def em_law_2 (i : PyData × PyData) (s : List PyData) : List SD := [.dat i.1, .un, .cel false s, .un, .dat i.2, .un, .un, .un, .un, .un]
def de_law_2 : List SD → Option ((PyData × PyData) × (List PyData))
  | [.dat x0, .un, .cel false x2, .un, .dat x4, .un, .un, .un, .un, .un] => some ((x0, x4), x2)
  | _ => none
theorem hde_law_2 : ∀ env i s, de_law_2 env = some (i, s) → env = em_law_2 i s := by
  intro env i s h
  unfold de_law_2 at h
  split at h
  · cases h; rfl
  · cases h
def em_law_3 (i : PyData × List PyData × PyData × PyData × PyData) (s : Unit) : List SD := [.dat i.1, .un, .cel false i.2.1, .un, .dat i.2.2.1, .un, .dat i.2.2.2.1, .dat i.2.2.2.2, .un, .un]
def de_law_3 : List SD → Option ((PyData × List PyData × PyData × PyData × PyData) × (Unit))
  | [.dat x0, .un, .cel false x2, .un, .dat x4, .un, .dat x6, .dat x7, .un, .un] => some ((x0, x2, x4, x6, x7), ())
  | _ => none
theorem hde_law_3 : ∀ env i s, de_law_3 env = some (i, s) → env = em_law_3 i s := by
  intro env i s h
  unfold de_law_3 at h
  split at h
  · cases h; rfl
  · cases h
def em_law_4 (i : PyData × List PyData × PyData × PyData × PyData × PyData) (s : Unit) : List SD := [.dat i.1, .un, .cel false i.2.1, .un, .dat i.2.2.1, .un, .dat i.2.2.2.1, .dat i.2.2.2.2.1, .dat i.2.2.2.2.2, .un]
def de_law_4 : List SD → Option ((PyData × List PyData × PyData × PyData × PyData × PyData) × (Unit))
  | [.dat x0, .un, .cel false x2, .un, .dat x4, .un, .dat x6, .dat x7, .dat x8, .un] => some ((x0, x2, x4, x6, x7, x8), ())
  | _ => none
theorem hde_law_4 : ∀ env i s, de_law_4 env = some (i, s) → env = em_law_4 i s := by
  intro env i s h
  unfold de_law_4 at h
  split at h
  · cases h; rfl
  · cases h
def S_law : DSp := fun as Q => match as with
  | [.dat x0] => q_law x0 (kk_law Q)
  | _ => False
theorem len_law (as : List SD) (Q : SD → List SD → Prop) (h : S_law as Q) : as.length = 1 := by
  unfold S_law at h
  split at h
  · rfl
  · exact h.elim
theorem cels_law : CelsIn 0 S_law := by
  intro as Q h i p xs e
  unfold S_law at h
  split at h
  · exact absurd e (no_cel (ds := [_]) i p xs)
  · exact h.elim
def N_law : List Str := ["_law_script", "_law_k", "_law_pot", "_law_folk_here", "_law_pages", "_law_turn", "_law_day_here", "_law_stand_here", "_law_due", "_law_page"]
theorem sc_law : FnScope N_law ["_law_script"] (defScope (top 71)) := ⟨rfl, rfl, rfl, by decide +kernel, rfl, by decide +kernel, by decide +kernel⟩
theorem fg_law (T : Tp K mg) (D_law_book : Dn P w K mg base Tb "_law_book" 4 ["_law_pot", "_law_folk_here", "_law_most"] S_law_book) (D_law_day : Dn P w K mg base Tb "_law_day" 2 ["_law_pot", "_law_pages"] S_law_day) (D_law_folk : Dn P w K mg base Tb "_law_folk" 3 ["_law_pot"] S_law_folk) (D_law_more_prizes : Dn P w K mg base Tb "_law_more_prizes" 3 ["_law_pot", "_law_folk_here", "_law_pages"] S_law_more_prizes) (D_law_pot_of : Dn P w K mg base Tb "_law_pot_of" 1 ["_law_script", "_law_k"] S_law_pot_of) (D_law_shuffled : Dn P w K mg base Tb "_law_shuffled" 2 ["_law_pot", "_law_some"] S_law_shuffled) (D_law_stand : Dn P w K mg base Tb "_law_stand" 1 ["_law_pages", "_law_day_here"] S_law_stand) (D_prizes_on : Dn P w K mg base Tb "prizes_on" 10 ["pages", "day"] S_prizes_on) {fd : FuncData} (Fn : Fun K "law" "law" (top 71) (He.ga K "law") fd) : FnG P w K mg base Tb 11 (He.ga K "law") fd ["_law_script"] S_law := by
  refine dfn 0 Fn sc_law len_law cels_law fun cdv A outer s H hr hA => ⟨_, (scons (sforQ [1, 2, 3, 4, 5, 6, 7, 8] de_law_1 em_law_1 kk_law qb_law_1 hde_law_1 PassesOwn.never rfl (irange1 (m_range T) (acons (dmax2 (m_max T) rfl (acons di (acons (dmin2 (m_min T) rfl (acons (dlen (m_len T) (acons (dv 0) anil)) (acons di anil))) anil))) anil)) (gn 1 sc_law.nd) (scons (sset 2 sc_law.nd (dcn D_law_pot_of (hr.mono (by decide)) hA (acons (dv 0) (acons (dv 1) anil)))) (scons (sset 3 sc_law.nd (dcnC 2 D_law_folk (hr.mono (by decide)) hA anil)) (scons (sset 4 sc_law.nd (dcnC 2 D_law_more_prizes (hr.mono (by decide)) hA (acons (dv 3) (acons (dfrz (dcnC 2 D_law_book (hr.mono (by decide)) hA (acons (dv 3) (acons di anil)))) anil)))) (ssforget [1, 3] (sone (sforQ [5, 6, 7, 8] de_law_2 em_law_2 kk_law qb_law_2 hde_law_2 PassesOwn.never rfl (irange1 (m_range T) (acons di anil)) (gn 5 sc_law.nd) (scons (sset 6 sc_law.nd (dcnC 2 D_law_day (hr.mono (by decide)) hA (acons (dv 4) anil))) (scons (sset 7 sc_law.nd (dcn D_law_stand (hr.mono (by decide)) hA (acons (dv 4) (acons (dv 6) anil)))) (ssforget [5] (scons (ssetLc (dec := de_law_3) (emb := em_law_3) (qb := qb_law_3) 8 [("_law_page", 9)] (.one 9) hde_law_3 rfl sc_law.nd (iseq (dv 7)) (blkOk_by (own := [("_law_page", 9)]) (N := N_law) (sc := defScope (top 71)) (by decide +kernel)) (fun _ _ _ _ _ => pg_name (i := 9) sc_law.nd rfl (Or.inl rfl)) (fun _ _ _ _ _ => tif1 (tin hr (dixP (dixP (dv 9) di) di) (dtup (acons ds (acons ds anil))))) (fun _ _ _ _ _ => (dixP (dixP (dv 9) di) di)) (fun d i s sk yd h => Eq.mp (by kernel_rfl) h) (sw_true rfl rfl rfl (by decide +kernel))) (ssfreeze2 8 (scons (sset 8 sc_law.nd (dx (dtupleOf (m_tuple T) (acons (dfrz (dsortSetT (by rfl) (m_sorted T) (m_set T) (dadd (dv 8) (dfrz (dlc (dec := de_law_4) (emb := em_law_4) (qb := qb_law_4) [("_law_page", 9)] (.one 9) hde_law_4 rfl sc_law.nd (iseq (dv 7)) (blkOk_by (own := [("_law_page", 9)]) (N := N_law) (sc := defScope (top 71)) (by decide +kernel)) (fun _ _ _ _ _ => pg_name (i := 9) sc_law.nd rfl (Or.inl rfl)) (fun _ _ _ _ _ => tif1 (dcmpT (op_eqE hr.units) opd_eq (dixP (dixP (dv 9) di) di) ds (nomark _))) (fun _ _ _ _ _ => (dixP (dixP (dv 9) di) di)) (fun d i s sk yd h => Eq.mp (by kernel_rfl) h)))))) anil)))) (ssforget [7] (sone (sif (tor (dcmpT (op_neE hr.units) opd_ne (dfrz (dcn D_prizes_on (hr.mono (by decide)) hA (acons (dv 4) (acons (dv 6) anil)))) (dv 8) (nomark _)) (tor1 (dcmpT (op_neE hr.units) opd_ne (dfrz (dcn D_prizes_on (hr.mono (by decide)) hA (acons (dfrz (dcnC 2 D_law_shuffled (hr.mono (by decide)) hA (acons (dv 4) anil))) (acons (dv 6) anil)))) (dv 8) (nomark _)))).pt (sone (sret (m := 0) (dx db))) snil))))))))) (fun R d i s nx bk h => Eq.mp (by kernel_rfl) h))))))) (fun R d i s nx bk h => Eq.mp (by kernel_rfl) h)) (sone (sret (m := 0) (dx (dcmp (op_empE hr.units) opd_emp (dfrz (dcn D_prizes_on (hr.mono (by decide)) hA (acons (dtup anil) (acons (dpow di di) anil)))) (dtup anil) (nomark _)))))), fun as Q h => ?_⟩
  unfold S_law at h
  split at h
  · unfold q_law at h
    rename_i x0
    refine at_env (b := [.dat x0, .un, .un, .un, .un, .un, .un, .un, .un, .un]) rfl ?_
    exact Eq.mp (by kernel_rfl) h
  · exact h.elim
theorem ok_law (T : Tp K mg) (D_law_book : Dn P w K mg base Tb "_law_book" 4 ["_law_pot", "_law_folk_here", "_law_most"] S_law_book) (D_law_day : Dn P w K mg base Tb "_law_day" 2 ["_law_pot", "_law_pages"] S_law_day) (D_law_folk : Dn P w K mg base Tb "_law_folk" 3 ["_law_pot"] S_law_folk) (D_law_more_prizes : Dn P w K mg base Tb "_law_more_prizes" 3 ["_law_pot", "_law_folk_here", "_law_pages"] S_law_more_prizes) (D_law_pot_of : Dn P w K mg base Tb "_law_pot_of" 1 ["_law_script", "_law_k"] S_law_pot_of) (D_law_shuffled : Dn P w K mg base Tb "_law_shuffled" 2 ["_law_pot", "_law_some"] S_law_shuffled) (D_law_stand : Dn P w K mg base Tb "_law_stand" 1 ["_law_pages", "_law_day_here"] S_law_stand) (D_prizes_on : Dn P w K mg base Tb "prizes_on" 10 ["pages", "day"] S_prizes_on) : Dn P w K mg base Tb "law" 11 ["_law_script"] S_law := by
  obtain ⟨kV, doc, pm, an, cdv, ct, Fn⟩ := T.fun_ "law" (top 71) 41 116
  exact ⟨⟨_, fg_law T D_law_book D_law_day D_law_folk D_law_more_prizes D_law_pot_of D_law_shuffled D_law_stand D_prizes_on Fn, Fn.binds (ps := ["_law_script"]) fun _ _ _ _ _ _ us hl => match us, hl with | [_], _ => rfl⟩, T.glo "law" 74, T.keep "law" 116⟩
theorem law_imp (as : List SD) (Q : SD → List SD → Prop) (h : lawS 63 as Q) : S_law as Q := by
  unfold lawS at h
  split at h
  · obtain ⟨⟨ns, rfl, hn⟩, h⟩ := h
    exact the_law ns hn _ (h [])
  · exact h.elim

end
theorem facts {P : Program} {w : World} {K : PySem.W.Frag} {h : Heap} {mg : Str → Option Value} {f : Addr} (X : K.In h) (G : h.Ns mainGlobals mg) (hfa : mg ("law" : Str) = some (.ref f)) (c : He.SaysE fa fn K) (cx : FxSays fx K) :
    ∃ fd : FuncData, (∀ (s : Shared) (v : Value), BindsTo s fd ⟨[v], []⟩ [("_law_script", v)]) ∧ ∀ base : Heap, K.In base → base.Ns mainGlobals mg → SysD base → LamB K base mg (tabsOf K lam) lam → FnG P w K mg base (tabsOf K lam) 11 f fd ["_law_script"] (lawS 63) := by
  have T : Tp K mg := ⟨⟨c, h, X, G⟩, cx⟩
  have e := hfa.symm.trans (T.glo "law" 74)
  cases e
  obtain ⟨kV, doc, pm, an, cdv, ct, Fn⟩ := T.fun_ "law" (top 71) 41 116
  refine ⟨PySem.W.fnOf "law" "law" (defArgs (top 71)) (defBody (top 71)) (defScope (top 71)) .none kV doc pm an cdv ct, fun s v => .of_eq rfl, fun base _ _ BD LB => ?_⟩
  haveI : SysB base := ⟨BD⟩
  have D_is_whole : Dn P w K mg base (tabsOf K lam) "is_whole" 1 ["thing"] S_is_whole := ok_is_whole T 
  have D_is_within : Dn P w K mg base (tabsOf K lam) "is_within" 2 ["thing", "least", "most"] S_is_within := ok_is_within T D_is_whole
  have D_are_wholes : Dn P w K mg base (tabsOf K lam) "are_wholes" 2 ["thing", "many"] S_are_wholes := ok_are_wholes T D_is_whole
  have D_divisor_of : Dn P w K mg base (tabsOf K lam) "divisor_of" 1 ["one", "other"] S_divisor_of := ok_divisor_of T 
  have D_is_fraction : Dn P w K mg base (tabsOf K lam) "is_fraction" 3 ["thing"] S_is_fraction := ok_is_fraction T D_are_wholes D_divisor_of
  have D_is_hour_tracks : Dn P w K mg base (tabsOf K lam) "is_hour_tracks" 2 ["thing"] S_is_hour_tracks := ok_is_hour_tracks T D_is_whole
  have D_is_log_row : Dn P w K mg base (tabsOf K lam) "is_log_row" 3 ["thing"] S_is_log_row := ok_is_log_row T D_is_hour_tracks D_is_whole
  have D_is_log : Dn P w K mg base (tabsOf K lam) "is_log" 4 ["thing"] S_is_log := ok_is_log T D_is_log_row
  have D_is_name : Dn P w K mg base (tabsOf K lam) "is_name" 1 ["thing"] S_is_name := ok_is_name T 
  have D_are_heads : Dn P w K mg base (tabsOf K lam) "are_heads" 2 ["thing", "many"] S_are_heads := ok_are_heads T D_is_whole
  have D_are_eighths : Dn P w K mg base (tabsOf K lam) "are_eighths" 3 ["thing"] S_are_eighths := ok_are_eighths T D_are_heads
  have D_is_pair : Dn P w K mg base (tabsOf K lam) "is_pair" 2 ["thing", "classes"] S_is_pair := ok_is_pair T D_is_name D_is_whole
  have D_is_scheme : Dn P w K mg base (tabsOf K lam) "is_scheme" 4 ["thing"] S_is_scheme := ok_is_scheme T D_are_eighths D_is_pair
  have D_is_part : Dn P w K mg base (tabsOf K lam) "is_part" 4 ["thing"] S_is_part := ok_is_part T D_is_fraction
  have D_is_sale : Dn P w K mg base (tabsOf K lam) "is_sale" 5 ["thing"] S_is_sale := ok_is_sale T D_is_part D_is_within
  have D_is_hour : Dn P w K mg base (tabsOf K lam) "is_hour" 3 ["thing"] S_is_hour := ok_is_hour T D_is_within
  have D_is_hour_pages : Dn P w K mg base (tabsOf K lam) "is_hour_pages" 3 ["thing"] S_is_hour_pages := ok_is_hour_pages T D_is_within
  have D_is_day : Dn P w K mg base (tabsOf K lam) "is_day" 3 ["thing"] S_is_day := ok_is_day T D_is_within
  have D_is_muster : Dn P w K mg base (tabsOf K lam) "is_muster" 4 ["body"] S_is_muster := ok_is_muster T D_is_hour_pages D_is_name
  have D_is_taking : Dn P w K mg base (tabsOf K lam) "is_taking" 4 ["body"] S_is_taking := ok_is_taking T D_is_hour_pages D_is_name D_is_within
  have D_is_body : Dn P w K mg base (tabsOf K lam) "is_body" 6 ["number", "body"] S_is_body := ok_is_body T D_is_day D_is_hour_pages D_is_log D_is_muster D_is_name D_is_sale D_is_scheme D_is_taking D_is_within
  have D_is_page : Dn P w K mg base (tabsOf K lam) "is_page" 7 ["thing"] S_is_page := ok_is_page T D_is_body D_is_day
  have D_are_pages : Dn P w K mg base (tabsOf K lam) "are_pages" 8 ["thing"] S_are_pages := ok_are_pages T D_is_page
  have D_need_day : Dn P w K mg base (tabsOf K lam) "need_day" 4 ["thing"] S_need_day := ok_need_day T D_is_day
  have D_need_book : Dn P w K mg base (tabsOf K lam) "need_book" 9 ["pages", "day"] S_need_book := ok_need_book T D_are_pages D_need_day
  have D_standing : Dn P w K mg base (tabsOf K lam) "standing" 1 ["pages", "day"] S_standing := ok_standing T 
  have D_prizes_on : Dn P w K mg base (tabsOf K lam) "prizes_on" 10 ["pages", "day"] S_prizes_on := ok_prizes_on T D_need_book D_standing
  have D_law_pot_of : Dn P w K mg base (tabsOf K lam) "_law_pot_of" 1 ["_law_script", "_law_k"] S_law_pot_of := ok_law_pot_of T 
  have D_law_draw : Dn P w K mg base (tabsOf K lam) "_law_draw" 1 ["_law_pot", "_law_many"] S_law_draw := ok_law_draw T 
  have D_law_name : Dn P w K mg base (tabsOf K lam) "_law_name" 2 ["_law_pot", "_law_last"] S_law_name := ok_law_name T D_law_draw
  have D_law_shuffled : Dn P w K mg base (tabsOf K lam) "_law_shuffled" 2 ["_law_pot", "_law_some"] S_law_shuffled := ok_law_shuffled T D_law_draw
  have D_law_log : Dn P w K mg base (tabsOf K lam) "_law_log" 2 ["_law_pot"] S_law_log := ok_law_log T D_law_draw
  have D_law_scheme : Dn P w K mg base (tabsOf K lam) "_law_scheme" 2 ["_law_pot", "_law_ranks"] S_law_scheme := ok_law_scheme T D_law_draw
  have D_law_sale : Dn P w K mg base (tabsOf K lam) "_law_sale" 2 ["_law_pot"] S_law_sale := ok_law_sale T D_law_draw
  have D_law_folk : Dn P w K mg base (tabsOf K lam) "_law_folk" 3 ["_law_pot"] S_law_folk := ok_law_folk T D_law_draw D_law_name
  have D_law_core : Dn P w K mg base (tabsOf K lam) "_law_core" 3 ["_law_pot", "_law_folk_here"] S_law_core := ok_law_core T D_law_draw D_law_log D_law_sale D_law_scheme
  have D_law_more : Dn P w K mg base (tabsOf K lam) "_law_more" 3 ["_law_pot", "_law_folk_here", "_law_numbers", "_law_own"] S_law_more := ok_law_more T D_law_draw D_law_log D_law_sale D_law_scheme
  have D_law_book : Dn P w K mg base (tabsOf K lam) "_law_book" 4 ["_law_pot", "_law_folk_here", "_law_most"] S_law_book := ok_law_book T D_law_core D_law_draw D_law_more D_law_shuffled
  have D_law_day : Dn P w K mg base (tabsOf K lam) "_law_day" 2 ["_law_pot", "_law_pages"] S_law_day := ok_law_day T D_law_draw
  have D_law_stand : Dn P w K mg base (tabsOf K lam) "_law_stand" 1 ["_law_pages", "_law_day_here"] S_law_stand := ok_law_stand T 
  have D_law_more_prizes : Dn P w K mg base (tabsOf K lam) "_law_more_prizes" 3 ["_law_pot", "_law_folk_here", "_law_pages"] S_law_more_prizes := ok_law_more_prizes T D_law_draw D_law_name D_law_sale D_law_shuffled
  exact (fg_law T D_law_book D_law_day D_law_folk D_law_more_prizes D_law_pot_of D_law_shuffled D_law_stand D_prizes_on Fn).imp law_imp
end K67
open PySem PySem.W PySem.Calls PyProof.Rows
set_option maxHeartbeats 0 in
theorem PySem.Challenge.cw_prizelog_k67_names_of_prizes_holds : PySem.Challenge.rw_prizelog_k67_names_of_prizes.Holds := by
  w_on; o_law
  refine HandSHeadRun.head_any (r := K67.R) (q := view K67.R.prog [71]) (H := K67.hk) (ob := K67.ob) (M := 20000) (loose := K67.loose) (d := HandSHeadRun.topDef K67.R.prog 71) (kwd := []) K67.ob_eq
    (by kernel_rfl) (fun s => by kernel_rfl) K67.run (by kernel_rfl) (by kernel_rfl) (by kernel_rfl) (by rfl) (by first | assumption | decide +kernel) (by decide +kernel) ⟨rfl, rfl, rfl, rfl, rfl, by decide +kernel⟩ ?hw ?hc
  case hw => w_witness2
  case hc =>
    refine DL.walk_dataL (lam := K67.lam) (l := PySem.Challenge.rw_prizelog_k67_names_of_prizes) (n := 63) (k := 11) (x := "_law_script") rfl (by decide) (by kernel_rfl) ⟨rfl, by decide, by decide⟩ ?F
    intro w mg fa h Y G hmg0
    obtain ⟨⟨K, KX, c, cx, cl⟩, hsys⟩ := Y
    have hmg : mg ("law" : PySem.Str) = some (.ref fa) := by
      have e : (HandSHeadRun.topDef K67.R.prog 71).name = ("law" : PySem.Str) := by kernel_rfl
      rw [← e]
      exact hmg0
    obtain ⟨fd, hb, hF⟩ := K67.facts (P := (PySem.Challenge.rw_prizelog_k67_names_of_prizes).prog) (w := w) KX G hmg c cx
    exact ⟨K, fd, KX, hsys, cl, hb, hF⟩
