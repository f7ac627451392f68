import PyProof.Rows.All
import Wide.All
import OpenK.AllK
import Wide.FinOn
import HandS.TupAny
import HandS.TupMul
import HandS.Conv
import HandS.Iter
import HandS.Deep
import HandS.ForMost
import HandS.Exc
import HandS.ExcOwn
import HandS.TryOnly
import HandS.WordsExc
import HandS.Wide
import HandS.IsInst
import HandS.Walk
import HandS.Zip
import HandS.Evl
import HandS.ExcIs
import HandS.HeadHook1
import HandS.Lambda
import HandS.Head0
import HandS.Head1
import HandS.Head2
import HandS.HeadEnd
import PyProof.ReprBulk
import KE.KTupSum
import HandS.Style
import HandS.Dict
import KE.GoesEnum
import HandS.Flt
import KE.DatumOrd
import PyProof.P3In
import HandS.SetFor
import HandS.Strs
import HandS.More
import HandS.HotCalls
import KE.SortData
import KE.DataAny
import KE.KDictSum
import KE.GoesComp
import HandS.TupSets
import KE.SortKeyHeap
import HandS.SortKw
import HandS.EndTab
import HandS.WordsDict
import KE.KDictPairs
import KE.KEqDict
import KE.KDictCopyH
import PySem.Challenge.RW_prizelog_k62_pages_known
set_option Elab.async false
set_option linter.all false
set_option maxRecDepth 100000
set_option maxHeartbeats 4000000
namespace DL
open PySem PySem.Spec PyProof.Rows L2
/-- a tuple's object that has no dict -/
def PlT (o : Obj) : Prop := o.cls = .type "tuple" ∧ o.dict = none
section
variable {X : Cx} {pins : List (Addr × Obj)} {σ : L2.St} {H : Hp} {s : Shared}
theorem layZ (I : Inv X pins σ H s) {xs : List V} {its : List Value} {arr : Array Value} {tk : Nat} (r : Vals xs its) (ha : arr = its.toArray) (hz : xs.length ≤ sizeLine) :
    ∃ o, PlT o ∧ Inv X pins σ (upd H s.heap.objs.size (.frz o (.tup xs))) { s with heap := s.heap.push { cls := .type "tuple", data := .seq arr }, toks := tk } := by
  subst ha
  refine ⟨{ cls := .type "tuple", data := .seq its.toArray }, ⟨rfl, rfl⟩, I.laid (fun b u e => Heap.get?_push_of_some _ e) (Nat.le_refl _) ?_⟩
  exact ⟨Heap.get?_push_size _ rfl, hz, its, r, ⟨_, Heap.get?_push_size _ rfl, rfl, _, rfl⟩⟩
/-- what a new tuple of the items xs is answered with -/
def NewZ (H : Hp) (xs : List V) (Q : VK) : Prop := ∀ p o, H p = none → PlT o → Q (.ref p) (upd H p (.frz o (.tup xs)))
theorem endZ (I : Inv X pins σ H s) {xs : List V} {its : List Value} {arr : Array Value} {tk : Nat} {Q : VK} (r : Vals xs its) (ha : arr = its.toArray) (hz : xs.length ≤ sizeLine) (q : NewZ H xs Q) :
    EP X pins σ Q (.ref s.heap.objs.size) { s with heap := s.heap.push { cls := .type "tuple", data := .seq arr }, toks := tk } := by
  obtain ⟨o, po, J⟩ := layZ (tk := tk) I r ha hz
  exact ⟨.ref s.heap.objs.size, _, J, rfl, q _ _ (I.hok.fresh (Nat.le_refl _)) po⟩
end
section
variable {X : Cx} {a b e : Expr} {es : List Expr} {t : TA} {ta : TE} {pos : Pos}
def tTupZ (t : TA) : TE := fun σ H Q => t σ H fun xs H1 => xs.length ≤ sizeLine ∧ NewZ H1 xs Q
theorem pe_tupZ {x1} (h : PA X es t) : PE X (.Tuple es x1 pos) (tTupZ t) := ⟨fun pins s σ H Q I hq => by
  refine wpAny_Tuple_spliced (thn (h.run pos pins s σ H _ I hq) ?_)
  intro us s1 ⟨xs, H1, I1, r, z, q⟩
  exact ⟨r.length ▸ z, endZ (tk := s1.toks) I1 r rfl z q⟩⟩
def rCatZ (K : PySem.W.Frag) : R2 := fun x y H Q => ∃ a b xs ys, x = .ref a ∧ y = .ref b ∧ SqT K H a xs ∧ SqT K H b ys ∧ xs.length + ys.length ≤ sizeLine ∧
  (xs = [] → Q (.ref b) H) ∧ (xs ≠ [] → ys = [] → Q (.ref a) H) ∧ (xs ≠ [] → ys ≠ [] → NewZ H (xs ++ ys) Q)
theorem op_catZ : OpR X (binaryOp .Add) (rCatZ X.K) := by
  rintro pins s σ H _ _ v u Q I rx ry ⟨l, m, xs, ys, rfl, rfl, hl, hm, hz, q0, q1, q2⟩
  cases rx
  cases ry
  obtain ⟨us, r1, p1, _⟩ := I.tuple hl
  obtain ⟨ws, r2, p2, _⟩ := I.tuple hm
  by_cases hx : xs = []
  · subst hx
    cases r1
    exact cat_tup0 p1 p2 ⟨.ref m, H, I, rfl, q0 rfl⟩
  · refine HT.cat_tup p1 p2 (mt r1.nil_iff.mp hx) (fun z => ⟨.ref l, H, I, rfl, q1 hx (r2.nil_iff.mp z)⟩) (fun z => ?_) (by rw [← r1.length, ← r2.length]; exact hz)
    exact endZ (tk := s.toks) I (r1.append r2) rfl (by simpa using hz) (q2 hx (mt r2.nil_iff.mpr z))
def rSlZ (K : PySem.W.Frag) : V → Option Int → Option Int → Hp → VK → Prop := fun x lo hi H Q => ∃ a xs, x = .ref a ∧ SqT K H a xs ∧
  (HT.sIx xs.length 0 lo = 0 ∧ HT.sIx xs.length xs.length hi = xs.length → Q (.ref a) H) ∧ (¬ (HT.sIx xs.length 0 lo = 0 ∧ HT.sIx xs.length xs.length hi = xs.length) → NewZ H (cutV xs lo hi) Q)
theorem sl_tupZ : SlR X (rSlZ X.K) := by
  rintro pins s σ H _ v vl vu lo hi sl Q I rx hs pl pu ⟨l, xs, rfl, hl, q1, q2⟩
  cases rx
  obtain ⟨us, r, ht, hz⟩ := I.tuple hl
  have hn : us.toArray.size = xs.length := by rw [List.size_toArray, ← r.length]
  refine ⟨"tuple", _, PyProof.Rows.slot_tuple_getitem.lookup, ht.typeIs, ?_⟩
  by_cases hw : HT.sIx xs.length 0 lo = 0 ∧ HT.sIx xs.length xs.length hi = xs.length
  · exact getItem_tuple_whole ht hs pl pu (hn ▸ hw) ⟨.ref l, H, I, rfl, q1 hw⟩
  · refine HT.getItem_tuple_cut ht hs pl pu (hn ▸ hw) ?_ (hn ▸ hz)
    rw [hn]
    exact endZ (tk := s.toks) I ((r.drop _).take _) rfl (Nat.le_trans (cutV_length xs lo hi) hz) (q2 hw)
/-- tuple(..) of a list or a tuple -/
def kTupZ (K : PySem.W.Frag) (x : V) (H : Hp) (Q : VK) : Prop := (∃ p xs, x = .ref p ∧ SqL K H p xs ∧ NewZ H xs Q) ∨ (∃ p xs, x = .ref p ∧ SqT K H p xs ∧ Q (.ref p) H)
theorem rl_tupleZ (pins : List (Addr × Obj)) (s : Shared) (σ : L2.St) (H : Hp) (x : V) (v : Value) (Q : VK) (I : Inv X pins σ H s) (r : RelV x v) (h : kTupZ X.K x H Q) :
    wpAny (model X.prog X.w) X.A (call (.type "tuple") [v]) (EP X pins σ Q) X.xe s := by
  rcases h with ⟨l, xs, rfl, hs, q⟩ | ⟨l, xs, rfl, hs, q⟩
  · cases r
    obtain ⟨us, rv, pl, hz⟩ := I.list hs
    refine call_tuple_list pl.isList (fun h' hk => ?_) (by rw [List.size_toArray, ← rv.length]; exact hz)
    exact endZ (tk := s.toks) (s := { s with heap := h' }) (I.kept (t' := s.toks) hk) rv rfl hz q
  · cases r
    obtain ⟨us, rv, pl, hz⟩ := I.tuple hs
    exact call_tuple_tup pl ⟨.ref l, H, I, rfl, q⟩
theorem pe_tupleZ {p : Pos} (hg : Gl X "tuple") (hm : X.mg "tuple" = none) (ha : PE X a ta) (na : starEach [a] X.env = (false, eval a X.env) :: starEach [] X.env := by rfl) :
    PE X (.Call (.Name "tuple" p) [a] [] pos) (tThen ta (kTupZ X.K)) := ⟨fun pins s σ H Q I h =>
  Call_ (ld_blt I hg hm boot_tuple (PyProof.Rows.callWith_type1 (one_arg ha I h (fun v s2 x H2 I2 r q => rl_tupleZ pins s2 σ H2 x v Q I2 r q) na) na))⟩
/-- xs * k, k from 2 on -/
def rRepZ (K : PySem.W.Frag) : R2 := fun x y H Q => ∃ l k xs, x = .ref l ∧ y = .int k ∧ SqT K H l xs ∧ xs ≠ [] ∧ 2 ≤ k ∧ k ≤ 1000 ∧ xs.length ≤ 1000 ∧ NewZ H (List.replicate k.toNat xs).flatten Q
theorem op_repZ : OpR X (binaryOp .Mult) (rRepZ X.K) := by
  rintro pins s σ H _ _ v u Q I rx ry ⟨l, k, xs, rfl, rfl, hT, hne, h1, h2, hz, q⟩
  cases rx
  obtain ⟨t, rfl⟩ := ry
  obtain ⟨us, r, ⟨⟨cls, dd, data, sl⟩, ho, hc, n, hd⟩, _⟩ := I.tuple hT
  simp only at hc hd
  subst hc hd
  have hl : us.toArray.size = xs.length := by rw [List.size_toArray, ← r.length]
  have e0 : us.toArray.isEmpty = false := by
    cases us with
    | nil => exact absurd (r.nil_iff.mp rfl) hne
    | cons _ _ => rfl
  have big : k.toNat * xs.length ≤ 1000 * 1000 := Nat.mul_le_mul (by omega) hz
  have bigI : ((us.toArray.size : Nat) : Int) * k ≤ 1000000 := by
    have z : ((xs.length * k.toNat : Nat) : Int) ≤ 1000000 := by rw [Nat.mul_comm]; omega
    rw [hl]
    rw [Int.natCast_mul, Int.toNat_of_nonneg (by omega)] at z
    exact z
  have fl : (List.replicate k.toNat us).flatten.length ≤ sizeLine := by
    rw [PyProof.Rows.lm_len_rep_flat, ← r.length, sizeLine_eq]
    omega
  have c0 : (decide (k < -(2 ^ 63)) || decide (k ≥ 2 ^ 63)) = false := by
    rw [Bool.or_eq_false_iff]
    exact ⟨decide_eq_false (by omega), decide_eq_false (by omega)⟩
  have c1 : (us.toArray.isEmpty || k == 1) = false := by rw [e0, Bool.false_or, beq_eq_false_iff_ne]; omega
  have c2 : (decide (k ≤ 0) || us.toArray.isEmpty) = false := by rw [e0, Bool.or_false]; exact decide_eq_false (by omega)
  have c4 : Builtin.Tuple.tupleTooMany (((us.toArray.size : Nat) : Int) * k) = false := decide_eq_false (by rw [sizeLine_eq]; omega)
  refine wpAny_binaryOp_repeat_ref (T := "tuple") (U := "int") (by decide) ⟨_, ho, rfl⟩ (fun _ => typeIs_int _ k t) noFill_tuple_mul F.fills_int_mul F.slot_int_rmul repeat_tuple F.slot_int_index.lookup ?_
  refine call_meets F.slot_int_rmul (typeIs_int s k t) F.entry_int_rmul (F.args_int_rmul_2 _ _) (int_rmul_tuple k t l us.toArray n dd sl) ⟨ho, rfl, ⟨_, ho, rfl⟩, ?_⟩
  refine call_meets F.slot_tuple_mul ⟨_, ho, rfl⟩ F.entry_tuple_mul (F.args_tuple_mul_2 _ _) (tuple_mulW l us.toArray n dd sl k t c0 c1 c2 (by omega) c4 ?_) ⟨ho, ?_⟩
  · rw [size_rep, List.size_toArray]
    exact fl
  · rw [size_rep]
    exact endZ (tk := s.toks) I (r.rep k.toNat) rfl (by rw [PyProof.Rows.lm_len_rep_flat, sizeLine_eq]; omega) q
end
/-- a dict whose keys are tuples of whole numbers and texts: the keys, where they stand, the values -/
abbrev DicE (P : Program) (w : World) (a : Addr) (xs : List (List Key × Addr × Value)) : HO := .ext fun h => ((a == sysModules) = false ∧ xs.length ≤ sizeLine) ∧
  ∃ o es ep, h.get? a = some o ∧ o.ExactDict ∧ o.data = .dict es ep ∧ es.toList = xs.map (entryOfKey (tupleKind (mixKind P w))) ∧ (xs.map (·.1)).Nodup
end DL

namespace DL
open PySem PySem.Spec PyProof.Rows L2
open Evl (Ex)

/-- a list that stays as it is: tracked, known, or written at the top -/
def RdL (K : PySem.W.Frag) (F : Hp) (a : Addr) (xs : List V) : Prop :=
  Rd F a (.lst xs) ∨ ∃ (its : List Value) (n : Nat), K.lookup a = some { cls := .type "list", data := .seq its.toArray n } ∧ Vals xs its ∧ its.length ≤ sizeLine
theorem RdL.mono {K : PySem.W.Frag} {F F' : Hp} {a : Addr} {xs : List V} (e : Ex F F') (h : RdL K F a xs) : RdL K F' a xs := h.imp (Evl.ex_rd e) id
theorem RdL.of {K : PySem.W.Frag} {F : Hp} {a : Addr} {xs : List V} (h : F a = some (.lst xs)) : RdL K F a xs := .inl (.inl h)
theorem RdL.sq {K : PySem.W.Frag} {F : Hp} {a : Addr} {xs : List V} (h : RdL K F a xs) : SqL K F a xs := by
  rcases h with h | ⟨its, n, h1, h2, h3⟩
  · exact .inl h
  · exact .inr ⟨_, its.toArray, n, h1, rfl, rfl, rfl, by simpa using h3, by simpa using h2⟩
theorem RdL.obj {X : Cx} {pins : List (Addr × Obj)} {σ : L2.St} {H : Hp} {s : Shared} {a : Addr} {xs : List V} (h : RdL X.K H a xs) (I : Inv X pins σ H s) : xs.length ≤ sizeLine ∧ ∃ (its : List Value) (n : Nat), Vals xs its ∧ s.heap.get? a = some { cls := .type "list", data := .seq its.toArray n } := by
  rcases h with h | ⟨its, n, h1, h2, h3⟩
  · exact h.ok I.hok
  · exact ⟨by rw [h2.length]; exact h3, its, n, h2, I.kIn a _ h1⟩
/-- the classes of refusals -/
def exNames : List Str := "PrizeError" :: "NoWeights" :: "NoPart" :: "NoNumber" :: "NoLog" :: "NoChase" :: "NoMiles" :: "NoLogs" :: "NoTable" :: "NoSights" :: "NoSet" :: "NoRoll" :: "NoName" :: "NoHour" :: "NoScheme" :: "NoCrew" :: "NoMan" :: "NoSale" :: "NoCrews" :: "NoPages" :: "NoPage" :: "NoPrize" :: "NoBalances" :: "NoMoney" :: "NoChange" :: "TooMany" :: "NoText" :: "NoRow" :: []
def exBases : List Value := [.type "ValueError", .type "Exception", .type "BaseException", .type "object"]
def exTypes : List String := ["int", "bool", "str", "tuple", "dict"]
/-- whether the one is the other or of it -/
def exSub (c d : Str) : Bool := decide (c = d) || decide (d = "PrizeError")
/-- what a class of refusals must say -/
def xcB (K : PySem.W.Frag) (c : Str) : Bool :=
  decide (PySem.W.findIn K (.ref (He.ga K c)) "__getattribute__" = some (some (.builtin "BaseException.__getattribute__"))) &&
  (decide (PySem.W.findIn K (.ref (He.ga K c)) "__getattr__" = some none) &&
  (decide (PySem.W.subIn K (.ref (He.ga K c)) (.type "BaseException") = some true) &&
  (PySem.W.hasDictIn K (He.ga K c) &&
  (decide (PySem.W.findIn K (.ref (He.ga K c)) "__class__" = some (some (.builtin "object.__class__"))) &&
  (decide (PySem.W.specialIn K (.builtin "object.__class__") "__get__" = some (some (.builtin "getset_descriptor.__get__"))) &&
  (decide (PySem.W.takesIn K (.builtin "object.__class__") = some true) &&
  (decide (PySem.W.mroIn K (He.ga K c) (.type "object") = some true) &&
  (PySem.W.excIn K (He.ga K c) exBases "ValueError.__new__" &&
  (PySem.W.keepIn K (.ref (He.ga K c)) &&
  (decide (PySem.W.typeIn K (.ref (He.ga K c)) = some (.type "type")) &&
  (decide (PySem.W.exmOne K (.ref (He.ga K c)) (.ref (He.ga K "PrizeError")) = some true) &&
  (decide (PySem.W.kitOne K (.ref (He.ga K c)) (.type "ValueError") = some true) &&
  (exTypes.all (fun T => decide (PySem.W.kitOne K (.ref (He.ga K c)) (.type T) = some false)) &&
  exNames.all (fun d => decide (PySem.W.kitOne K (.ref (He.ga K c)) (.ref (He.ga K d)) = some (exSub c d))))))))))))))))
structure XcF (K : PySem.W.Frag) (c : Str) : Prop where
  cls : ExcC K (He.ga K c)
  made : PySem.W.excIn K (He.ga K c) exBases "ValueError.__new__" = true
  kp : PySem.W.keepIn K (.ref (He.ga K c)) = true
  ty : PySem.W.typeIn K (.ref (He.ga K c)) = some (.type "type")
  exm : PySem.W.exmOne K (.ref (He.ga K c)) (.ref (He.ga K "PrizeError")) = some true
  ve : PySem.W.kitOne K (.ref (He.ga K c)) (.type "ValueError") = some true
  six : ∀ T ∈ exTypes, PySem.W.kitOne K (.ref (He.ga K c)) (.type T) = some false
  own : ∀ d ∈ exNames, PySem.W.kitOne K (.ref (He.ga K c)) (.ref (He.ga K d)) = some (exSub c d)
theorem xcB_ok {K : PySem.W.Frag} {c : Str} (h : xcB K c = true) : XcF K c := by
  unfold xcB at h
  simp only [Bool.and_eq_true, decide_eq_true_eq, List.all_eq_true] at h
  obtain ⟨a1, a2, a3, a4, a5, a6, a7, a8, a9, b1, b2, b3, b4, b5, b6⟩ := h
  exact ⟨⟨a1, a2, a3, a4, a5, a6, a7, a8⟩, a9, b1, b2, b3, b4, b5, b6⟩
/-- an exception's object -/
def ExcAt (C a : Addr) : Heap → Prop := fun h => ∃ oe vs, h.get? a = some oe ∧ oe.cls = .ref C ∧ oe.dict = none ∧ oe.data = .fields vs
/-- a tuple that stays, whose object has no dict -/
def TqT (K : PySem.W.Frag) (F : Hp) (a : Addr) (xs : List V) : Prop := (∃ o, F a = some (.frz o (.tup xs)) ∧ PlT o) ∨
  ∃ (o : Obj) (its : Array Value) (n : Nat), K.lookup a = some o ∧ PlT o ∧ o.data = .seq its n ∧ its.size ≤ sizeLine ∧ Vals xs its.toList
theorem TqT.sq {K : PySem.W.Frag} {F : Hp} {a : Addr} {xs : List V} (h : TqT K F a xs) : SqT K F a xs := by
  rcases h with ⟨o, h, _⟩ | ⟨o, its, n, h1, h2, h3, h4, h5⟩
  · exact .inl (.inr ⟨o, h⟩)
  · exact .inr ⟨o, its, n, h1, h2.1, h3, h4, h5⟩
theorem TqT.mono {K : PySem.W.Frag} {F F' : Hp} {a : Addr} {xs : List V} (e : Ex F F') (h : TqT K F a xs) : TqT K F' a xs := h.imp (fun ⟨o, h, p⟩ => ⟨o, e _ _ h, p⟩) id
/-- a dict whose keys are whole numbers and texts -/
abbrev KkE (P : Program) (w : World) (a : Addr) (vs : List (Key × V)) : HO := .ext fun h => vs.length ≤ sizeLine ∧ (a == sysModules) = false ∧ ∃ us, KV vs us ∧ h.DictOf (mixKind P w) a us
/-- a list of one's own, within another one or holding such -/
abbrev LsE (a : Addr) (vs : List V) : HO := .ext fun h => vs.length ≤ sizeLine ∧ ∃ (its : List Value) (n : Nat), Vals vs its ∧ h.get? a = some { cls := .type "list", data := .seq its.toArray n }
mutual
inductive DR (K : PySem.W.Frag) (F : Hp) : V → PyData → Prop
  | non : DR K F .non .none
  | bl (b : Bool) : DR K F (.bl b) (.bool b)
  | int (i : Int) : DR K F (.int i) (.int i)
  | str (x : Str) : DR K F (.str x) (.str x)
  | lst {a : Addr} {xs : List V} {ds : List PyData} : RdL K F a xs → DRs K F xs ds → DR K F (.ref a) (.list ds)
  | tup {a : Addr} {xs : List V} {ds : List PyData} : TqT K F a xs → DRs K F xs ds → DR K F (.ref a) (.tuple ds)
  /-- a dict that stays, its keys whole numbers and texts -/
  | dct {a : Addr} {o : Obj} {vs : List (Key × V)} {ds : List (PyData × PyData)} : F a = some (.frz o (.dK vs)) → DM K F vs ds → DR K F (.ref a) (.dict ds)
  /-- a list that a def made and may still change -/
  | row {a : Addr} {xs : List V} {ds : List PyData} : F a = some (.lst xs) → DRs K F xs ds → DR K F (.ref a) (.dict [(.none, .list ds)])
  /-- a caught refusal of the class c -/
  | exc {a : Addr} {c : Str} : F a = some (.ext (ExcAt (He.ga K c) a)) → XcF K c → DR K F (.ref a) (.dict [(.none, .str c)])
inductive DRs (K : PySem.W.Frag) (F : Hp) : List V → List PyData → Prop
  | nil : DRs K F [] []
  | cons {v : V} {vs : List V} {d : PyData} {ds : List PyData} : DR K F v d → DRs K F vs ds → DRs K F (v :: vs) (d :: ds)
inductive DM (K : PySem.W.Frag) (F : Hp) : List (Key × V) → List (PyData × PyData) → Prop
  | nil : DM K F [] []
  | int {n : Int} {v : V} {vs : List (Key × V)} {d : PyData} {ds : List (PyData × PyData)} : DR K F v d → DM K F vs ds → DM K F ((.inl n, v) :: vs) ((.int n, d) :: ds)
  | str {x : Str} {v : V} {vs : List (Key × V)} {d : PyData} {ds : List (PyData × PyData)} : DR K F v d → DM K F vs ds → DM K F ((.inr x, v) :: vs) ((.str x, d) :: ds)
end

section
variable {K : PySem.W.Frag} {F F' H H' : Hp}
mutual
theorem DR.mono (e : Ex F F') : ∀ {v : V} {d : PyData}, DR K F v d → DR K F' v d
  | _, _, .non => .non
  | _, _, .bl b => .bl b
  | _, _, .int i => .int i
  | _, _, .str x => .str x
  | _, _, .lst h r => .lst (h.mono e) (DRs.mono e r)
  | _, _, .tup h r => .tup (h.mono e) (DRs.mono e r)
  | _, _, .dct h m => .dct (e _ _ h) (DM.mono e m)
  | _, _, .row h r => .row (e _ _ h) (DRs.mono e r)
  | _, _, .exc h x => .exc (e _ _ h) x
theorem DRs.mono (e : Ex F F') : ∀ {v : List V} {d : List PyData}, DRs K F v d → DRs K F' v d
  | _, _, .nil => .nil
  | _, _, .cons a b => .cons (DR.mono e a) (DRs.mono e b)
theorem DM.mono (e : Ex F F') : ∀ {vs : List (Key × V)} {ds : List (PyData × PyData)}, DM K F vs ds → DM K F' vs ds
  | _, _, .nil => .nil
  | _, _, .int a b => .int (DR.mono e a) (DM.mono e b)
  | _, _, .str a b => .str (DR.mono e a) (DM.mono e b)
end
theorem DM.length : ∀ {vs : List (Key × V)} {ds : List (PyData × PyData)}, DM K F vs ds → vs.length = ds.length
  | _, _, .nil => rfl
  | _, _, .int _ b => congrArg (· + 1) b.length
  | _, _, .str _ b => congrArg (· + 1) b.length
theorem DRs.length : ∀ {vs : List V} {ds : List PyData}, DRs K F vs ds → vs.length = ds.length
  | _, _, .nil => rfl
  | _, _, .cons _ b => congrArg (· + 1) b.length
theorem DRs.get : ∀ {vs : List V} {ds : List PyData} {i : Nat} {d : PyData}, DRs K F vs ds → ds[i]? = some d → ∃ v, vs[i]? = some v ∧ DR K F v d
  | _, _, _, _, .nil, h => by simp at h
  | _, _, 0, _, .cons a b, h => by simp at h; subst h; exact ⟨_, rfl, a⟩
  | _, _, i + 1, d, .cons a b, h => by
    obtain ⟨v, h1, h2⟩ := b.get (i := i) (d := d) (by simpa using h)
    exact ⟨v, by simpa using h1, h2⟩
theorem DRs.append : ∀ {vs ws : List V} {ds es : List PyData}, DRs K F vs ds → DRs K F ws es → DRs K F (vs ++ ws) (ds ++ es)
  | _, _, _, _, .nil, h => h
  | _, _, _, _, .cons a b, h => .cons a (b.append h)
theorem DRs.take : ∀ {vs : List V} {ds : List PyData} (n : Nat), DRs K F vs ds → DRs K F (vs.take n) (ds.take n)
  | _, _, 0, _ => .nil
  | _, _, _ + 1, .nil => .nil
  | _, _, n + 1, .cons a b => .cons a (b.take n)
theorem DRs.drop : ∀ {vs : List V} {ds : List PyData} (n : Nat), DRs K F vs ds → DRs K F (vs.drop n) (ds.drop n)
  | _, _, 0, h => h
  | _, _, _ + 1, .nil => .nil
  | _, _, n + 1, .cons a b => b.drop n
theorem DRs.set : ∀ {vs : List V} {ds : List PyData} (n : Nat) {v : V} {d : PyData}, DR K F v d → DRs K F vs ds → DRs K F (vs.set n v) (ds.set n d)
  | _, _, _, _, _, _, .nil => .nil
  | _, _, 0, _, _, h, .cons a b => .cons h b
  | _, _, n + 1, _, _, h, .cons a b => .cons a (b.set n h)
theorem DRs.one {v : V} {d : PyData} (h : DR K F v d) : DRs K F [v] [d] := .cons h .nil
theorem DRs.inv1 {vs : List V} {d : PyData} (h : DRs K F vs [d]) : ∃ v, vs = [v] ∧ DR K F v d := by
  cases h with
  | cons a b => cases b; exact ⟨_, rfl, a⟩
theorem DRs.inv2 {vs : List V} {d e : PyData} (h : DRs K F vs [d, e]) : ∃ v w, vs = [v, w] ∧ DR K F v d ∧ DR K F w e := by
  cases h with
  | cons a b =>
    obtain ⟨w, rfl, r⟩ := b.inv1
    exact ⟨_, w, rfl, a, r⟩
theorem DR.inv_int {v : V} {i : Int} (h : DR K F v (.int i)) : v = .int i := by cases h; rfl
theorem DR.inv_bool {v : V} {i : Bool} (h : DR K F v (.bool i)) : v = .bl i := by cases h; rfl
theorem DR.inv_str {v : V} {i : Str} (h : DR K F v (.str i)) : v = .str i := by cases h; rfl
theorem DR.inv_tup {v : V} {ds : List PyData} (h : DR K F v (.tuple ds)) : ∃ a xs, v = .ref a ∧ SqT K F a xs ∧ DRs K F xs ds := by cases h with | tup a b => exact ⟨_, _, rfl, a.sq, b⟩
theorem DR.inv_lst {v : V} {ds : List PyData} (h : DR K F v (.list ds)) : ∃ a xs, v = .ref a ∧ RdL K F a xs ∧ DRs K F xs ds := by cases h with | lst a b => exact ⟨_, _, rfl, a, b⟩
end

/-- things of one's own: dicts whose keys are tuples of whole numbers and texts; whose keys are whole numbers and texts; lists of lists -/
inductive Own where
  | tk (kvs : List (List Key × PyData))
  | kk (kvs : List (PyData × PyData))
  | mt (rows : List (List PyData))
inductive SD where
  | un
  | dat (d : PyData)
  | cel (p : Bool) (xs : List PyData)
  /-- a thing of one's own -/
  | dic (w : Own)
/-- what is fixed for a def's whole run -/
structure Zx (T : List (Addr × Str)) where
  F0 : Hp
  H0 : Hp
  A0 : Nat → Option Addr
  Pr0 : Hp
  P : Program
  w : World
structure Gx (Z : Zx T) where
  Pr : Hp
  px : Ex Z.Pr0 Pr
  pl : ∀ a o, Pr a = some o → ∀ ps, o ≠ .tbl ps
variable {T : List (PySem.Addr × PySem.Str)} {Z : Zx T}
def Gx.hid (g : Gx Z) (D : Addr) (vs : List V) (h : g.Pr D = none) : Gx Z := ⟨upd g.Pr D (.lst vs), fun a o e => by
  have q := g.px a o e
  have ne : a ≠ D := fun z => by rw [z, h] at q; cases q
  rw [upd_ne ne]
  exact q, fun a o e => by
  by_cases z : a = D
  · subst z
    rw [upd_same] at e
    cases e
    exact fun _ y => by cases y
  · rw [upd_ne z] at e
    exact g.pl a o e⟩
abbrev Gx.F0 (_ : Gx Z) : Hp := Z.F0
abbrev Gx.H0 (_ : Gx Z) : Hp := Z.H0
abbrev Gx.A0 (_ : Gx Z) : Nat → Option Addr := Z.A0
/-- the dict's keys and values as they stand -/
def DicR (K : PySem.W.Frag) (F : Hp) (kvs : List (List Key × PyData)) (xs : List (List Key × Addr × Value)) : Prop :=
  Paired (fun p x => p.1 = x.1 ∧ TqT K F x.2.1 (p.1.map kV) ∧ ∃ v, DR K F v p.2 ∧ RelV v x.2.2) kvs xs
theorem DicR.mono {K : PySem.W.Frag} {F F' : Hp} (e : Ex F F') {kvs : List (List Key × PyData)} {xs : List (List Key × Addr × Value)} (h : DicR K F kvs xs) : DicR K F' kvs xs :=
  Paired.mapP h fun _ _ ⟨h1, h2, v, h3, h4⟩ => ⟨h1, h2.mono e, v, h3.mono e, h4⟩
/-- what stands for such a thing at a, with further places bs -/
def OwnR (K : PySem.W.Frag) (Z : Zx T) (F H : Hp) (a : Addr) (bs : List Addr) : Own → Prop
  | .tk kvs => bs = [] ∧ ∃ xs, H a = some (DicE Z.P Z.w a xs) ∧ DicR K F kvs xs
  | .kk ds => bs = [] ∧ ∃ vs, H a = some (KkE Z.P Z.w a vs) ∧ DM K F vs ds
  | .mt rows => (H a = some (LsE a (bs.map .ref)) ∧ (a :: bs).Nodup) ∧ Paired (fun b row => ∃ us, H b = some (LsE b us) ∧ DRs K F us row) bs rows
structure OwnAt (K : PySem.W.Frag) (g : Gx Z) (F H : Hp) (a : Addr) (bs : List Addr) (w : Own) : Prop where
  rel : OwnR K Z F H a bs w
  out : ∀ x ∈ a :: bs, F x = none ∧ g.H0 x = none ∧ g.Pr x = none ∧ ∃ φ, H x = some (.ext φ)
structure DicsB (K : PySem.W.Frag) (g : Gx Z) (F : Hp) (env : List SD) (σ : L2.St) (H : Hp) (B : Nat → List Addr) : Prop where
  at_ : ∀ (i : Nat) (w : Own), env[i]? = some (.dic w) → ∃ a, σ[i]? = some (some (.ref a)) ∧ OwnAt K g F H a (B i) w
  sep : ∀ (i j : Nat) (w w' : Own) (a b : Addr), env[i]? = some (.dic w) → env[j]? = some (.dic w') → σ[i]? = some (some (.ref a)) → σ[j]? = some (some (.ref b)) → i ≠ j → ∀ x ∈ a :: B i, x ∉ b :: B j
def DicsOk (K : PySem.W.Frag) (g : Gx Z) (F : Hp) (env : List SD) (σ : L2.St) (H : Hp) : Prop := ∃ B, DicsB K g F env σ H B
section
variable {K : PySem.W.Frag} {g g' : Gx Z} {F F' : Hp} {env : List SD} {σ : L2.St} {H H' : Hp}
theorem OwnR.keep {a : Addr} {bs : List Addr} {w : Own} (r : OwnR K Z F H a bs w) (e : Ex F F') (hk : ∀ x ∈ a :: bs, H' x = H x) : OwnR K Z F' H' a bs w := by
  cases w with
  | tk kvs =>
    obtain ⟨rfl, xs, h1, h2⟩ := r
    exact ⟨rfl, xs, (hk a List.mem_cons_self).trans h1, h2.mono e⟩
  | kk ds =>
    obtain ⟨rfl, xs, h1, h2⟩ := r
    exact ⟨rfl, xs, (hk a List.mem_cons_self).trans h1, h2.mono e⟩
  | mt rows =>
    obtain ⟨⟨h1, h2⟩, h3⟩ := r
    refine ⟨⟨(hk a List.mem_cons_self).trans h1, h2⟩, ?_⟩
    have hk2 : ∀ x ∈ bs, H' x = H x := fun x hx => hk x (List.mem_cons_of_mem _ hx)
    clear h1 h2 hk
    induction h3 with
    | nil => exact .nil
    | cons h t ih =>
      obtain ⟨us, z1, z2⟩ := h
      exact .cons ⟨us, (hk2 _ List.mem_cons_self).trans z1, z2.mono e⟩ (ih fun x hx => hk2 x (List.mem_cons_of_mem _ hx))
theorem OwnAt.keep {a : Addr} {bs : List Addr} {w : Own} (r : OwnAt K g F H a bs w) (e : Ex F F') (hp : ∀ x φ, H x = some (.ext φ) → g.Pr x = none → g'.Pr x = none) (hk : ∀ x φ, H x = some (.ext φ) → F x = none → F' x = none ∧ H' x = H x) : OwnAt K g' F' H' a bs w where
  rel := r.rel.keep e fun x hx => by
    obtain ⟨z1, _, _, φ, z4⟩ := r.out x hx
    exact (hk x φ z4 z1).2
  out := fun x hx => by
    obtain ⟨z1, z2, z3, φ, z4⟩ := r.out x hx
    obtain ⟨y1, y2⟩ := hk x φ z4 z1
    exact ⟨y1, z2, hp x φ z4 z3, φ, y2.trans z4⟩
theorem DicsB.keep {B : Nat → List Addr} (d : DicsB K g F env σ H B) (e : Ex F F') (hp : ∀ x φ, H x = some (.ext φ) → g.Pr x = none → g'.Pr x = none) (hk : ∀ x φ, H x = some (.ext φ) → F x = none → F' x = none ∧ H' x = H x) : DicsB K g' F' env σ H' B :=
  ⟨fun i w hw => let ⟨a, z1, z2⟩ := d.at_ i w hw; ⟨a, z1, z2.keep e hp hk⟩, d.sep⟩
theorem DicsOk.keep (d : DicsOk K g F env σ H) (e : Ex F F') (hp : ∀ x φ, H x = some (.ext φ) → g.Pr x = none → g'.Pr x = none) (hk : ∀ x φ, H x = some (.ext φ) → F x = none → F' x = none ∧ H' x = H x) : DicsOk K g' F' env σ H' := by
  obtain ⟨B, h⟩ := d
  exact ⟨B, h.keep e hp hk⟩
/-- no thing of one's own stands here -/
theorem DicsB.there {B : Nat → List Addr} (d : DicsB K g F env σ H B) {j : Nat} {w : Own} {b x : Addr} (h1 : env[j]? = some (.dic w)) (h2 : σ[j]? = some (some (.ref b))) (hx : x ∈ b :: B j) : F x = none ∧ g.H0 x = none ∧ g.Pr x = none ∧ ∃ φ, H x = some (.ext φ) := by
  obtain ⟨a, z1, z2⟩ := d.at_ j w h1
  rw [h2] at z1
  cases z1
  exact z2.out x hx
theorem DicsOk.none (h : ∀ (i : Nat) (w : Own), env[i]? ≠ some (.dic w)) : DicsOk K g F env σ H := ⟨fun _ => [], fun i w e => absurd e (h i w), fun i _ w _ _ _ e => absurd e (h i w)⟩
theorem DicsOk.setE (d : DicsOk K g F env σ H) {i : Nat} {x : SD} (hx : ∀ w, x ≠ .dic w) : DicsOk K g F (env.set i x) σ H := by
  have old : ∀ {j : Nat} {w : Own}, (env.set i x)[j]? = some (.dic w) → env[j]? = some (.dic w) := fun {j w} h => by
    rw [List.getElem?_set] at h
    by_cases e : i = j
    · rw [if_pos e] at h
      split at h
      · exact absurd (Option.some.inj h) (hx w)
      · cases h
    · rwa [if_neg e] at h
  obtain ⟨B, h1, h2⟩ := d
  exact ⟨B, fun j w h => h1 j w (old h), fun j l w w' a b e1 e2 => h2 j l w w' a b (old e1) (old e2)⟩
theorem DicsOk.set (d : DicsOk K g F env σ H) {i : Nat} {x : SD} {v : Option V} (hx : ∀ w, x ≠ .dic w) : DicsOk K g F (env.set i x) (σ.set i v) H := by
  have ne : ∀ {j : Nat} {w : Own}, (env.set i x)[j]? = some (.dic w) → i ≠ j := fun {j w} h e => by
    rw [List.getElem?_set, if_pos e] at h
    split at h
    · exact absurd (Option.some.inj h) (hx w)
    · cases h
  have st : ∀ {j : Nat}, i ≠ j → (σ.set i v)[j]? = σ[j]? := fun n => List.getElem?_set_ne n
  obtain ⟨B, h1, h2⟩ := d.setE (i := i) hx
  exact ⟨B, fun j w h => let ⟨a, z1, z2⟩ := h1 j w h; ⟨a, by rw [st (ne h)]; exact z1, z2⟩, fun j l w w' a b e1 e2 e3 e4 => h2 j l w w' a b e1 e2 (by rw [← st (ne e1)]; exact e3) (by rw [← st (ne e2)]; exact e4)⟩
end
/-- an object that was there: as it was, or a table with more in it -/
def Sty (o : HO) (x : Option HO) : Prop := x = some o ∨ ∃ ps more, o = .tbl ps ∧ x = some (.tbl (ps ++ more))
theorem Sty.same {o : HO} {x : Option HO} (h : Sty o x) (n : ∀ ps, o ≠ .tbl ps) : x = some o := by
  rcases h with h | ⟨ps, _, e, _⟩
  · exact h
  · exact absurd e (n ps)
theorem Sty.lst {vs : List V} {x : Option HO} (h : Sty (.lst vs) x) : x = some (.lst vs) := h.same fun _ z => by cases z
theorem Sty.ext {f : Heap → Prop} {x : Option HO} (h : Sty (.ext f) x) : x = some (.ext f) := h.same fun _ z => by cases z
theorem Sty.there {o : HO} {x : Option HO} (h : Sty o x) : ∃ u, x = some u := by
  rcases h with h | ⟨ps, m, _, h⟩
  · exact ⟨_, h⟩
  · exact ⟨_, h⟩
theorem Sty.trans {o : HO} {x y : Option HO} (h : Sty o x) (k : ∀ u, x = some u → Sty u y) : Sty o y := by
  rcases h with h | ⟨ps, m, e, h⟩
  · exact k _ h
  · rcases k _ h with z | ⟨ps', m', e', z⟩
    · exact .inr ⟨ps, m, e, z⟩
    · cases e'
      exact .inr ⟨ps, m ++ m', e, by rw [z, Array.append_assoc]⟩
/-- what was there stays, but where N says no; the tables are right -/
structure Frm (T : List (Addr × Str)) (H0 : Hp) (N : Addr → Prop) (H : Hp) : Prop where
  stay : ∀ a o, H0 a = some o → N a → Sty o (H a)
  tab : LamX.Tabs T H
section
variable {H0 H H' : Hp} {N N' : Addr → Prop}
theorem Frm.new (f : Frm T H0 N H) {p : Addr} {o : HO} (h : H p = none) : Frm T H0 N (upd H p o) where
  stay := fun a u e n => by
    have z := f.stay a u e n
    obtain ⟨w, hw⟩ := z.there
    rw [upd_ne (ne_of_none hw h)]
    exact z
  tab := f.tab.ext fun b u e => by rw [upd_ne (ne_of_none e h)]; exact e
theorem codeO_lst {c : Addr} {q : Str} {vs : List V} : LamX.CodeO c q ≠ .lst vs := fun z => by
  unfold LamX.CodeO at z
  cases z
theorem Frm.putO (f : Frm T H0 N H) {a : Addr} {o0 o1 : HO} (h : H a = some o0) (t1 : ∀ ps, o0 ≠ .tbl ps) (t2 : ∀ q, o0 ≠ LamX.CodeO a q) (n : ∀ o, H0 a = some o → ¬ N a) : Frm T H0 N (upd H a o1) where
  stay := fun b u e m => by
    have ne : b ≠ a := fun z => by
      subst z
      exact n u e m
    rw [upd_ne ne]
    exact f.stay b u e m
  tab := fun p hp => by
    obtain ⟨ps, h1, h2, h3⟩ := f.tab p hp
    have n1 : p.1 ≠ a := fun z => by rw [z, h] at h1; exact t1 _ (Option.some.inj h1)
    refine ⟨ps, by rw [upd_ne n1]; exact h1, h2, fun pos cv hc => ?_⟩
    obtain ⟨c, e, e2⟩ := h3 pos cv hc
    have n2 : c ≠ a := fun z => by rw [z, h] at e2; exact t2 _ (Option.some.inj e2)
    exact ⟨c, e, by rw [upd_ne n2]; exact e2⟩
theorem Frm.put (f : Frm T H0 N H) {a : Addr} {vs ys : List V} (h : H a = some (.lst vs)) (n : ∀ o, H0 a = some o → ¬ N a) : Frm T H0 N (upd H a (.lst ys)) := f.putO h (fun _ z => by cases z) (fun _ z => codeO_lst z.symm) n
theorem Frm.trans (f : Frm T H0 N H) (g : Frm T H N' H') (n : ∀ a o, H0 a = some o → N a → N' a) : Frm T H0 N H' :=
  ⟨fun a o e m => (f.stay a o e m).trans fun u hu => g.stay a u hu (n a o e m), g.tab⟩
theorem Frm.refl (t : LamX.Tabs T H) : Frm T H N H := ⟨fun _ _ e _ => .inl e, t⟩
theorem Frm.weak (f : Frm T H0 N H) (n : ∀ a o, H0 a = some o → N' a → N a) : Frm T H0 N' H := ⟨fun a o e m => f.stay a o e (n a o e m), f.tab⟩
end
/-- what never changes has grown; no table is among it -/
def OldF (F0 F : Hp) : Prop := Ex F0 F ∧ ∀ a ps, F a ≠ some (.tbl ps)
theorem OldF.new {F0 F : Hp} (h : OldF F0 F) {p : Addr} {o : HO} (hp : F p = none) (ho : ∀ ps, o ≠ .tbl ps) : OldF F0 (upd F p o) :=
  ⟨h.1.trans (Ex.new hp), fun a ps e => by
    by_cases z : a = p
    · subst z
      rw [upd_same] at e
      exact ho ps (Option.some.inj e)
    · rw [upd_ne z] at e
      exact h.2 a ps e⟩
structure Ok (K : PySem.W.Frag) (g : Gx Z) (F : Hp) (env : List SD) (σ : L2.St) (H : Hp) : Prop where
  len : env.length = σ.length
  fh : Ex F H
  dat : ∀ (i : Nat) (d : PyData), env[i]? = some (.dat d) → ∃ v, σ[i]? = some (some v) ∧ DR K F v d
  cel : ∀ (i : Nat) (p : Bool) (xs : List PyData), env[i]? = some (.cel p xs) → ∃ a vs, σ[i]? = some (some (.ref a)) ∧ F a = none ∧ H a = some (.lst vs) ∧ DRs K F vs xs ∧ (p = true → g.A0 i = some a) ∧ (p = false → g.H0 a = none)
  sep : ∀ (i j : Nat) (p q : Bool) (xs ys : List PyData) (a : Addr), env[i]? = some (.cel p xs) → env[j]? = some (.cel q ys) → σ[i]? = some (some (.ref a)) → σ[j]? = some (some (.ref a)) → i = j
  pin : ∀ (i : Nat) (a : Addr), g.A0 i = some a → ∃ xs, env[i]? = some (.cel true xs)
  frame : Frm T g.H0 (fun a => ∀ i, g.A0 i ≠ some a) H
  newF : ∀ (a : Addr) (o : HO), F a = some o → g.F0 a = some o ∨ g.H0 a = none
  oldF : OldF g.F0 F
  prot : ∀ (a : Addr) (o : HO), g.Pr a = some o → H a = some o ∧ F a = none ∧ ∀ (j : Nat) (p : Bool) (ys : List PyData), env[j]? = some (.cel p ys) → σ[j]? ≠ some (some (.ref a))
  dic : DicsOk K g F env σ H
section
variable {K : PySem.W.Frag} {g : Gx Z} {F F' : Hp} {env : List SD} {σ : L2.St} {H : Hp}

theorem Ok.fresh0 (k : Ok K g F env σ H) {p : Addr} (h : H p = none) : g.H0 p = none := by
  cases e : g.H0 p with
  | none => rfl
  | some o =>
    by_cases q : ∃ i, g.A0 i = some p
    · obtain ⟨i, hi⟩ := q
      obtain ⟨xs, hx⟩ := k.pin i p hi
      obtain ⟨a, vs, _, _, h2, _, h3, _⟩ := k.cel i true xs hx
      have h3 := h3 rfl
      rw [hi] at h3
      cases h3
      rw [h] at h2
      cases h2
    · obtain ⟨u, z⟩ := (k.frame.stay p o e fun i hi => q ⟨i, hi⟩).there
      rw [h] at z
      cases z
theorem fnone (e : Ex F H) {p : Addr} (h : H p = none) : F p = none := by
  cases q : F p with
  | none => rfl
  | some o =>
    rw [e p o q] at h
    cases h
theorem ex_both (e : Ex F H) {p : Addr} {o : HO} (h : H p = none) : Ex (upd F p o) (upd H p o) := fun b u q => by
  by_cases hb : b = p
  · subst hb
    rw [upd_same] at q ⊢
    exact q
  · rw [upd_ne hb] at q ⊢
    exact e b u q
/-- a new thing that never changes -/
theorem Ok.alloc (k : Ok K g F env σ H) {p : Addr} {o : HO} (h : H p = none) (ho : ∀ ps, o ≠ .tbl ps := by intro _ z; cases z) : Ok K g (upd F p o) env σ (upd H p o) where
  len := k.len
  fh := ex_both k.fh h
  dat := fun i d e => by
    obtain ⟨v, h1, h2⟩ := k.dat i d e
    exact ⟨v, h1, h2.mono (Ex.new (fnone k.fh h))⟩
  cel := fun i q xs e => by
    obtain ⟨a, vs, h1, h2, h3, h4, h5⟩ := k.cel i q xs e
    have ne : a ≠ p := ne_of_none h3 h
    exact ⟨a, vs, h1, by rw [upd_ne ne]; exact h2, by rw [upd_ne ne]; exact h3, h4.mono (Ex.new (fnone k.fh h)), h5⟩
  sep := k.sep
  pin := k.pin
  frame := k.frame.new h
  newF := fun a u e => by
    by_cases hb : a = p
    · subst hb
      exact .inr (k.fresh0 h)
    · rw [upd_ne hb] at e
      exact k.newF a u e
  oldF := k.oldF.new (fnone k.fh h) ho
  prot := fun a u e => by
    obtain ⟨z1, z2, z3⟩ := k.prot a u e
    have ne : a ≠ p := ne_of_none z1 h
    exact ⟨by rw [upd_ne ne]; exact z1, by rw [upd_ne ne]; exact z2, z3⟩
  dic := k.dic.keep (Ex.new (fnone k.fh h)) (fun _ _ _ z => z) fun a _ h1 h2 => by
    have ne : a ≠ p := ne_of_none h1 h
    exact ⟨by rw [upd_ne ne]; exact h2, upd_ne ne⟩
/-- a new thing of no name yet -/
theorem Ok.extra (k : Ok K g F env σ H) {p : Addr} {o : HO} (h : H p = none) : Ok K g F env σ (upd H p o) where
  len := k.len
  fh := fun a u e => by
    have q := k.fh a u e
    rw [upd_ne (ne_of_none q h)]
    exact q
  dat := k.dat
  cel := fun i q xs e => by
    obtain ⟨a, vs, h1, h2, h3, h4, h5⟩ := k.cel i q xs e
    have ne : a ≠ p := ne_of_none h3 h
    exact ⟨a, vs, h1, h2, by rw [upd_ne ne]; exact h3, h4, h5⟩
  sep := k.sep
  pin := k.pin
  frame := k.frame.new h
  newF := k.newF
  oldF := k.oldF
  prot := fun a u e => by
    obtain ⟨z1, z2, z3⟩ := k.prot a u e
    have ne : a ≠ p := ne_of_none z1 h
    exact ⟨by rw [upd_ne ne]; exact z1, z2, z3⟩
  dic := k.dic.keep (Ex.refl F) (fun _ _ _ z => z) fun a xs h1 h2 => ⟨h2, upd_ne (ne_of_none h1 h)⟩
theorem get_set {α : Type} {l : List α} {i j : Nat} {x y : α} (h : (l.set i x)[j]? = some y) : (i = j ∧ y = x) ∨ (i ≠ j ∧ l[j]? = some y) := by
  rw [List.getElem?_set] at h
  by_cases e : i = j
  · rw [if_pos e] at h
    split at h
    · exact .inl ⟨e, (Option.some.inj h).symm⟩
    · cases h
  · rw [if_neg e] at h
    exact .inr ⟨e, h⟩
theorem set_ne {α : Type} {l : List α} {i j : Nat} {x : α} (h : i ≠ j) : (l.set i x)[j]? = l[j]? := List.getElem?_set_ne h
theorem set_eq {α : Type} {l : List α} {i : Nat} {x y : α} (h : l[i]? = some y) : (l.set i x)[i]? = some x := by
  obtain ⟨h1, _⟩ := List.getElem?_eq_some_iff.mp h
  exact List.getElem?_set_self h1
/-- a slot that is no parameter's cell -/
def NoPar (env : List SD) (i : Nat) : Prop := ∀ xs, env[i]? ≠ some (.cel true xs)
/-- a name gets a datum -/
theorem Ok.setD (k : Ok K g F env σ H) {i : Nat} {d : PyData} {v : V} (hp : NoPar env i) (h : DR K F v d) : Ok K g F (env.set i (.dat d)) (σ.set i (some v)) H where
  len := by simp [k.len]
  fh := k.fh
  dat := fun j e hj => by
    rcases get_set hj with ⟨rfl, q⟩ | ⟨n, q⟩
    · cases q
      have hl : i < σ.length := by
        obtain ⟨h1, _⟩ := List.getElem?_eq_some_iff.mp hj
        rw [List.length_set, k.len] at h1
        exact h1
      exact ⟨v, List.getElem?_set_self hl, h⟩
    · rw [set_ne n]
      exact k.dat j e q
  cel := fun j q xs hj => by
    rcases get_set hj with ⟨_, q⟩ | ⟨n, q⟩
    · cases q
    · rw [set_ne n]
      exact k.cel j _ xs q
  sep := fun a b p q xs ys c h1 h2 h3 h4 => by
    rcases get_set h1 with ⟨_, e⟩ | ⟨n1, e1⟩
    · cases e
    rcases get_set h2 with ⟨_, e⟩ | ⟨n2, e2⟩
    · cases e
    rw [set_ne n1] at h3
    rw [set_ne n2] at h4
    exact k.sep a b p q xs ys c e1 e2 h3 h4
  pin := fun j a e => by
    obtain ⟨xs, q⟩ := k.pin j a e
    have n : i ≠ j := fun z => by subst z; exact hp xs q
    exact ⟨xs, by rw [set_ne n]; exact q⟩
  frame := k.frame
  newF := k.newF
  oldF := k.oldF
  prot := fun a u e => by
    obtain ⟨z1, z2, z3⟩ := k.prot a u e
    refine ⟨z1, z2, fun j p ys hj => ?_⟩
    rcases get_set hj with ⟨_, q⟩ | ⟨n, q⟩
    · cases q
    · rw [set_ne n]
      exact z3 j p ys q
  dic := k.dic.set fun _ z => by cases z
/-- a name gets a new cell of its own -/
theorem Ok.setC (k : Ok K g F env σ H) {i : Nat} {xs : List PyData} {a : Addr} {vs : List V} (hp : NoPar env i) (hF : F a = none) (hH : H a = some (.lst vs)) (h : DRs K F vs xs) (h0 : g.H0 a = none) (hpr : g.Pr a = none)
    (nw : ∀ (j : Nat) (p : Bool) (ys : List PyData), env[j]? = some (.cel p ys) → σ[j]? ≠ some (some (.ref a))) : Ok K g F (env.set i (.cel false xs)) (σ.set i (some (.ref a))) H where
  len := by simp [k.len]
  fh := k.fh
  dat := fun j e hj => by
    rcases get_set hj with ⟨_, q⟩ | ⟨n, q⟩
    · cases q
    · rw [set_ne n]
      exact k.dat j e q
  cel := fun j q ys hj => by
    rcases get_set hj with ⟨rfl, q⟩ | ⟨n, q⟩
    · cases q
      have hl : i < σ.length := by
        obtain ⟨h1, _⟩ := List.getElem?_eq_some_iff.mp hj
        rw [List.length_set, k.len] at h1
        exact h1
      exact ⟨a, vs, List.getElem?_set_self hl, hF, hH, h, (fun z => by cases z), fun _ => h0⟩
    · rw [set_ne n]
      exact k.cel j _ ys q
  sep := fun j l p q us ys c h1 h2 h3 h4 => by
    rcases get_set h1 with ⟨e1, _⟩ | ⟨n1, e1⟩
    · rcases get_set h2 with ⟨e2, _⟩ | ⟨n2, e2⟩
      · exact e1.symm.trans e2
      · rcases get_set h3 with ⟨_, e3⟩ | ⟨n3, _⟩
        · cases e3
          rw [set_ne n2] at h4
          exact absurd h4 (nw l q ys e2)
        · exact absurd e1 n3
    · rcases get_set h2 with ⟨e2, _⟩ | ⟨n2, e2⟩
      · rcases get_set h4 with ⟨_, e3⟩ | ⟨n3, _⟩
        · cases e3
          rw [set_ne n1] at h3
          exact absurd h3 (nw j p us e1)
        · exact absurd e2 n3
      · rw [set_ne n1] at h3
        rw [set_ne n2] at h4
        exact k.sep j l p q us ys c e1 e2 h3 h4
  pin := fun j b e => by
    obtain ⟨ys, q⟩ := k.pin j b e
    have n : i ≠ j := fun z => by subst z; exact hp ys q
    exact ⟨ys, by rw [set_ne n]; exact q⟩
  frame := k.frame
  newF := k.newF
  oldF := k.oldF
  prot := fun b u e => by
    obtain ⟨z1, z2, z3⟩ := k.prot b u e
    refine ⟨z1, z2, fun j p ys hj => ?_⟩
    rcases get_set hj with ⟨rfl, q⟩ | ⟨n, q⟩
    · intro z
      rcases get_set z with ⟨_, y⟩ | ⟨n, _⟩
      · cases y
        rw [hpr] at e
        cases e
      · exact n rfl
    · rw [set_ne n]
      exact z3 j p ys q
  dic := k.dic.set fun _ z => by cases z
/-- a name is forgotten (its slot may hold anything) -/
theorem Ok.setU (k : Ok K g F env σ H) {i : Nat} {o : Option V} (hp : NoPar env i) : Ok K g F (env.set i .un) (σ.set i o) H where
  len := by simp [k.len]
  fh := k.fh
  dat := fun j e hj => by
    rcases get_set hj with ⟨_, q⟩ | ⟨n, q⟩
    · cases q
    · rw [set_ne n]
      exact k.dat j e q
  cel := fun j q ys hj => by
    rcases get_set hj with ⟨_, q⟩ | ⟨n, q⟩
    · cases q
    · rw [set_ne n]
      exact k.cel j _ ys q
  sep := fun a b p q xs ys c h1 h2 h3 h4 => by
    rcases get_set h1 with ⟨_, e⟩ | ⟨n1, e1⟩
    · cases e
    rcases get_set h2 with ⟨_, e⟩ | ⟨n2, e2⟩
    · cases e
    rw [set_ne n1] at h3
    rw [set_ne n2] at h4
    exact k.sep a b p q xs ys c e1 e2 h3 h4
  pin := fun j b e => by
    obtain ⟨ys, q⟩ := k.pin j b e
    have n : i ≠ j := fun z => by subst z; exact hp ys q
    exact ⟨ys, by rw [set_ne n]; exact q⟩
  frame := k.frame
  newF := k.newF
  oldF := k.oldF
  prot := fun a u e => by
    obtain ⟨z1, z2, z3⟩ := k.prot a u e
    refine ⟨z1, z2, fun j p ys hj => ?_⟩
    rcases get_set hj with ⟨_, q⟩ | ⟨n, q⟩
    · cases q
    · rw [set_ne n]
      exact z3 j p ys q
  dic := k.dic.set fun _ z => by cases z
/-- a name gets a new thing of its own -/
theorem Ok.setW (k : Ok K g F env σ H) {B : Nat → List Addr} (db : DicsB K g F env σ H B) {i : Nat} {w : Own} {a : Addr} {bs : List Addr} (hp : NoPar env i) (r : OwnAt K g F H a bs w)
    (nw : ∀ (j : Nat) (w' : Own) (b : Addr), env[j]? = some (.dic w') → σ[j]? = some (some (.ref b)) → ∀ x ∈ a :: bs, x ∉ b :: B j) : Ok K g F (env.set i (.dic w)) (σ.set i (some (.ref a))) H := by
  have k2 := k.setU (o := some (.ref a)) hp
  have hl : ∀ {r : SD}, (env.set i (SD.dic w))[i]? = some r → (σ.set i (some (V.ref a)))[i]? = some (some (.ref a)) := fun hj => by
    obtain ⟨h1, _⟩ := List.getElem?_eq_some_iff.mp hj
    rw [List.length_set, k.len] at h1
    exact List.getElem?_set_self h1
  have oth : ∀ {j : Nat} {r : SD}, i ≠ j → (env.set i (SD.dic w))[j]? = some r → (env.set i SD.un)[j]? = some r := fun {j r} n e => by rw [set_ne n] at e ⊢; exact e
  refine ⟨by simp [k.len], k.fh, fun j d e => ?_, fun j p ys e => ?_, fun j l p q us ys c h1 h2 h3 h4 => ?_, fun j b e => ?_, k.frame, k.newF, k.oldF, fun b u e => ?_, fun j => if j = i then bs else B j, fun j w' e => ?_, fun j l w1 w2 b c e1 e2 h1 h2 n x hx => ?_⟩
  · rcases get_set e with ⟨_, z⟩ | ⟨n, z⟩
    · cases z
    · exact k2.dat j d (oth n e)
  · rcases get_set e with ⟨_, z⟩ | ⟨n, z⟩
    · cases z
    · exact k2.cel j p ys (oth n e)
  · rcases get_set h1 with ⟨_, z⟩ | ⟨n1, z⟩
    · cases z
    rcases get_set h2 with ⟨_, z⟩ | ⟨n2, z⟩
    · cases z
    exact k2.sep j l p q us ys c (oth n1 h1) (oth n2 h2) h3 h4
  · obtain ⟨ys, z⟩ := k.pin j b e
    have n : i ≠ j := fun y => by subst y; exact hp ys z
    exact ⟨ys, by rw [set_ne n]; exact z⟩
  · obtain ⟨z1, z2, z3⟩ := k2.prot b u e
    refine ⟨z1, z2, fun j p ys hj => ?_⟩
    rcases get_set hj with ⟨_, z⟩ | ⟨n, z⟩
    · cases z
    · exact z3 j p ys (oth n hj)
  · rcases get_set e with ⟨rfl, z⟩ | ⟨n, z⟩
    · cases z
      exact ⟨a, hl e, by rw [if_pos rfl]; exact r⟩
    · obtain ⟨b, z1, z2⟩ := db.at_ j w' z
      exact ⟨b, by rw [set_ne n]; exact z1, by rw [if_neg fun q => n q.symm]; exact z2⟩
  · rcases get_set e1 with ⟨rfl, z⟩ | ⟨n1, z1⟩
    · rcases get_set e2 with ⟨q, _⟩ | ⟨n2, z2⟩
      · exact absurd q n
      · rw [hl e1] at h1
        cases h1
        rw [set_ne n2] at h2
        rw [if_pos rfl] at hx
        rw [if_neg fun q => n2 q.symm]
        exact nw l w2 c z2 h2 x hx
    · rw [set_ne n1] at h1
      rw [if_neg fun q => n1 q.symm] at hx
      rcases get_set e2 with ⟨rfl, z⟩ | ⟨n2, z2⟩
      · rw [hl e2] at h2
        cases h2
        rw [if_pos rfl]
        exact fun y => nw j w1 b z1 h1 x y hx
      · rw [set_ne n2] at h2
        rw [if_neg fun q => n2 q.symm]
        exact db.sep j l w1 w2 b c z1 z2 h1 h2 n x hx
/-- a thing of one's own is changed at x -/
theorem Ok.writeW (k : Ok K g F env σ H) {B : Nat → List Addr} (db : DicsB K g F env σ H B) {i : Nat} {w w' : Own} {a x : Addr} {φ : Heap → Prop} {o' : HO} {bs' : List Addr} (he : env[i]? = some (.dic w)) (hs : σ[i]? = some (some (.ref a))) (hx : x ∈ a :: B i)
    (hH : H x = some (.ext φ)) (nc : ∀ q, HO.ext φ ≠ LamX.CodeO x q) (r : OwnAt K g F (upd H x o') a bs' w')
    (sub : ∀ y ∈ bs', y ∈ a :: B i ∨ ∀ (j : Nat) (w2 : Own) (b : Addr), env[j]? = some (.dic w2) → σ[j]? = some (some (.ref b)) → y ∉ b :: B j) : Ok K g F (env.set i (.dic w')) σ (upd H x o') := by
  obtain ⟨f1, f2, f3, _⟩ := db.there he hs hx
  have ne : ∀ {b : Addr} {vs : List V}, H b = some (.lst vs) → b ≠ x := fun {b vs} e z => by subst z; rw [hH] at e; cases e
  have oth : ∀ {j : Nat} {s : SD}, (∀ z, s ≠ .dic z) → (env.set i (.dic w'))[j]? = some s → env[j]? = some s := fun {j s} n e => by
    rcases get_set e with ⟨_, z⟩ | ⟨_, z⟩
    · exact absurd z (n _)
    · exact z
  have back : ∀ {l : Nat} {z : Own}, (env.set i (.dic w'))[l]? = some (.dic z) → ∃ w2, env[l]? = some (.dic w2) := fun {l z} e => by
    rcases get_set e with ⟨rfl, _⟩ | ⟨_, z⟩
    · exact ⟨_, he⟩
    · exact ⟨_, z⟩
  refine ⟨by simp [k.len], fun b u q => ?_, fun j e hj => k.dat j e (oth (fun _ z => by cases z) hj), fun j q us hj => ?_, fun j l q r us ws c z1 z2 z3 z4 => k.sep j l q r us ws c (oth (fun _ z => by cases z) z1) (oth (fun _ z => by cases z) z2) z3 z4, fun j b e => ?_, k.frame.putO hH (fun _ z => by cases z) nc (fun o e _ => by rw [f2] at e; cases e), k.newF, k.oldF, fun b u e => ?_,
    fun j => if j = i then bs' else B j, fun j w2 e => ?_, fun j l w1 w2 b c e1 e2 h1 h2 n y hy => ?_⟩
  · have n : b ≠ x := fun z => by rw [z, f1] at q; cases q
    rw [upd_ne n]
    exact k.fh b u q
  · obtain ⟨b, vs, z1, z2, z3, z4⟩ := k.cel j q us (oth (fun _ z => by cases z) hj)
    exact ⟨b, vs, z1, z2, by rw [upd_ne (ne z3)]; exact z3, z4⟩
  · obtain ⟨us, q⟩ := k.pin j b e
    have n : i ≠ j := fun z => by subst z; rw [he] at q; cases q
    exact ⟨us, by rw [set_ne n]; exact q⟩
  · obtain ⟨z1, z2, z3⟩ := k.prot b u e
    have n : b ≠ x := fun z => by subst z; rw [f3] at e; cases e
    exact ⟨by rw [upd_ne n]; exact z1, z2, fun j q us hj => z3 j q us (oth (fun _ z => by cases z) hj)⟩
  · rcases get_set e with ⟨rfl, z⟩ | ⟨n, z⟩
    · cases z
      exact ⟨a, hs, by rw [if_pos rfl]; exact r⟩
    · obtain ⟨b, z1, z2⟩ := db.at_ j w2 z
      have sep := db.sep j i w2 w b a z he z1 hs fun q => n q.symm
      have kp : ∀ y ∈ b :: B j, upd H x o' y = H y := fun y hy => upd_ne fun q => sep y hy (q ▸ hx)
      refine ⟨b, z1, ?_⟩
      rw [if_neg fun q => n q.symm]
      refine ⟨z2.rel.keep (Ex.refl F) kp, fun y hy => ?_⟩
      obtain ⟨y1, y2, y3, y4⟩ := z2.out y hy
      exact ⟨y1, y2, y3, by rw [kp y hy]; exact y4⟩
  · obtain ⟨v1, e1'⟩ := back e1
    obtain ⟨v2, e2'⟩ := back e2
    have old := db.sep j l v1 v2 b c e1' e2' h1 h2 n
    by_cases q1 : j = i
    · subst q1
      rw [if_pos rfl] at hy
      rw [hs] at h1
      cases h1
      rw [if_neg fun q => n q.symm]
      rcases List.mem_cons.mp hy with rfl | hy
      · exact old _ List.mem_cons_self
      · rcases sub y hy with z | z
        · exact old y z
        · exact z l v2 c e2' h2
    · rw [if_neg q1] at hy
      by_cases q2 : l = i
      · subst q2
        rw [if_pos rfl]
        rw [hs] at h2
        cases h2
        intro hz
        rcases List.mem_cons.mp hz with rfl | hz
        · exact old _ hy List.mem_cons_self
        · rcases sub y hz with z | z
          · exact old y hy z
          · exact z j v1 b e1' h1 hy
      · rw [if_neg q2]
        exact old y hy
/-- a name gets a new thing of its own, at one new place -/
theorem Ok.newW (k : Ok K g F env σ H) {i : Nat} {w : Own} {p : Addr} {φ : Heap → Prop} (hp : H p = none) (np : NoPar env i) (r : OwnR K Z F (upd H p (.ext φ)) p [] w) : Ok K g F (env.set i (.dic w)) (σ.set i (some (.ref p))) (upd H p (.ext φ)) := by
  obtain ⟨B, db⟩ := k.dic
  have k1 := k.extra (o := .ext φ) hp
  have db1 : DicsB K g F env σ (upd H p (.ext φ)) B := db.keep (Ex.refl F) (fun _ _ _ z => z) fun a ψ h1 h2 => ⟨h2, upd_ne (ne_of_none h1 hp)⟩
  have pr : g.Pr p = none := by
    cases e : g.Pr p with
    | none => rfl
    | some o => rw [(k.prot p o e).1] at hp; cases hp
  refine k1.setW db1 np ⟨r, fun x hx => ?_⟩ fun j w' b e1 e2 x hx hy => ?_
  · rw [List.mem_singleton.mp hx]
    exact ⟨fnone k.fh hp, k.fresh0 hp, pr, φ, upd_same⟩
  · rw [List.mem_singleton.mp hx] at hy
    obtain ⟨_, _, _, ψ, z⟩ := db.there e1 e2 hy
    rw [hp] at z
    cases z
/-- a cell's content is changed -/
theorem Ok.write (k : Ok K g F env σ H) {i : Nat} {p : Bool} {xs ys : List PyData} {a : Addr} {vs : List V} (he : env[i]? = some (.cel p xs)) (hs : σ[i]? = some (some (.ref a))) (h : DRs K F vs ys) :
    Ok K g F (env.set i (.cel p ys)) σ (upd H a (.lst vs)) := by
  obtain ⟨a', vs0, h1, h2, h3, h4, h5, h6⟩ := k.cel i p xs he
  rw [hs] at h1
  cases h1
  refine ⟨by simp [k.len], fun b u q => ?_, fun j e hj => ?_, fun j q us hj => ?_, fun j l q r us ws c h1 h2 h3 h4 => ?_, fun j b e => ?_, k.frame.put h3 (fun o e n => ?_), k.newF, k.oldF, fun b u e => ?_, ((k.dic.setE (i := i) (x := .cel p ys) fun _ z => by cases z).keep (Ex.refl F) (fun _ _ _ z => z) fun b _ e n => ⟨n, upd_ne fun z => by rw [z, h3] at e; cases e⟩)⟩
  · have ne : b ≠ a := fun z => by rw [z, h2] at q; cases q
    rw [upd_ne ne]
    exact k.fh b u q
  · rcases get_set hj with ⟨_, q⟩ | ⟨n, q⟩
    · cases q
    · exact k.dat j e q
  · rcases get_set hj with ⟨rfl, q⟩ | ⟨n, q⟩
    · cases q
      exact ⟨a, vs, hs, h2, upd_same, h, h5, h6⟩
    · obtain ⟨b, ws, z1, z2, z3, z4, z5⟩ := k.cel j _ us q
      have ne : b ≠ a := fun z => by
        subst z
        exact n (k.sep i j _ _ _ _ b he q hs z1)
      exact ⟨b, ws, z1, z2, by rw [upd_ne ne]; exact z3, z4, z5⟩
  · have f : ∀ {j : Nat} {q : Bool} {us : List PyData}, (env.set i (SD.cel p ys))[j]? = some (.cel q us) → ∃ q' us', env[j]? = some (.cel q' us') := fun {j q us} z => by
      rcases get_set z with ⟨rfl, _⟩ | ⟨_, z⟩
      · exact ⟨_, _, he⟩
      · exact ⟨_, _, z⟩
    obtain ⟨_, _, f1⟩ := f h1
    obtain ⟨_, _, f2⟩ := f h2
    exact k.sep j l _ _ _ _ c f1 f2 h3 h4
  · obtain ⟨us, q⟩ := k.pin j b e
    by_cases n : i = j
    · subst n
      rw [he] at q
      cases q
      exact ⟨ys, set_eq he⟩
    · exact ⟨us, by rw [set_ne n]; exact q⟩
  · cases p with
    | true => exact n i (h5 rfl)
    | false =>
      rw [h6 rfl] at e
      cases e
  · obtain ⟨z1, z2, z3⟩ := k.prot b u e
    have ne : b ≠ a := fun z => by
      subst z
      exact z3 i p xs he hs
    refine ⟨by rw [upd_ne ne]; exact z1, z2, fun j q us hj => ?_⟩
    rcases get_set hj with ⟨rfl, _⟩ | ⟨_, z⟩
    · exact z3 _ p xs he
    · exact z3 j q us z
/-- an own cell becomes a datum -/
theorem Ok.freeze (k : Ok K g F env σ H) {i : Nat} {xs : List PyData} (he : env[i]? = some (.cel false xs)) : ∃ F', Ex F F' ∧ Ok K g F' (env.set i (.dat (.list xs))) σ H := by
  obtain ⟨a, vs, h1, h2, h3, h4, h5, h6⟩ := k.cel i false xs he
  have h6 := h6 rfl
  have ex : Ex F (upd F a (.lst vs)) := Ex.new h2
  refine ⟨upd F a (.lst vs), ex, by simp [k.len], fun b u q => ?_, fun j e hj => ?_, fun j q us hj => ?_, fun j l q r us ws c z1 z2 z3 z4 => ?_, fun j b e => ?_, k.frame, fun b u q => ?_, k.oldF.new h2 (fun _ z => by cases z), fun b u e => ?_, ((k.dic.setE (i := i) (x := .dat (.list xs)) fun _ z => by cases z).keep ex (fun _ _ _ z => z) fun b ys e n => ⟨by rw [upd_ne fun z => by rw [z, h3] at e; cases e]; exact n, rfl⟩)⟩
  · by_cases z : b = a
    · subst z
      rw [upd_same] at q
      exact h3.trans q
    · rw [upd_ne z] at q
      exact k.fh b u q
  · rcases get_set hj with ⟨rfl, q⟩ | ⟨n, q⟩
    · cases q
      exact ⟨_, h1, .lst (RdL.of upd_same) (h4.mono ex)⟩
    · obtain ⟨v, z1, z2⟩ := k.dat j e q
      exact ⟨v, z1, z2.mono ex⟩
  · rcases get_set hj with ⟨_, q⟩ | ⟨n, q⟩
    · cases q
    · obtain ⟨b, ws, z1, z2, z3, z4, z5⟩ := k.cel j _ us q
      have ne : b ≠ a := fun z => by
        subst z
        exact n (k.sep i j _ _ _ _ b he q h1 z1)
      exact ⟨b, ws, z1, by rw [upd_ne ne]; exact z2, z3, z4.mono ex, z5⟩
  · rcases get_set z1 with ⟨_, e⟩ | ⟨n1, e1⟩
    · cases e
    rcases get_set z2 with ⟨_, e⟩ | ⟨n2, e2⟩
    · cases e
    exact k.sep j l q r us ws c e1 e2 z3 z4
  · obtain ⟨ys, q⟩ := k.pin j b e
    have n : i ≠ j := fun z => by subst z; rw [he] at q; cases q
    exact ⟨ys, by rw [set_ne n]; exact q⟩
  · by_cases z : b = a
    · subst z
      exact .inr h6
    · rw [upd_ne z] at q
      exact k.newF b u q
  · obtain ⟨z1, z2, z3⟩ := k.prot b u e
    have ne : b ≠ a := fun z => by
      subst z
      exact z3 i false xs he h1
    refine ⟨z1, by rw [upd_ne ne]; exact z2, fun j q us hj => ?_⟩
    rcases get_set hj with ⟨_, z⟩ | ⟨_, z⟩
    · cases z
    · exact z3 j q us z
end
end DL

namespace DL
variable {T : List (PySem.Addr × PySem.Str)} {Z : Zx T}
open PySem PySem.Spec PyProof.Rows L2
open Evl (Ex)

/-- by a truth -/
def bIf (b : Bool) (p q : Prop) : Prop := match b with
  | true => p
  | false => q
theorem bIf_t {p q : Prop} : bIf true p q = p := rfl
theorem bIf_f {p q : Prop} : bIf false p q = q := rfl
/-- a datum that is a truth -/
def bT (d : PyData) (K : Bool → Prop) : Prop := match d with
  | .bool b => K b
  | _ => False
theorem bT_inv {d : PyData} {K : Bool → Prop} (h : bT d K) : ∃ b, d = .bool b ∧ K b := by
  cases d <;> first | exact ⟨_, rfl, h⟩ | exact h.elim
theorem bIf_and {b : Bool} {q : Prop} (h : bIf b q False) : b = true ∧ q := by
  cases b
  · exact h.elim
  · exact ⟨rfl, h⟩
abbrev DE := List SD → (PyData → List SD → Prop) → Prop
abbrev DX := List SD → (SD → List SD → Prop) → Prop
abbrev DT := List SD → (Bool → List SD → Prop) → Prop
abbrev DA := List SD → (List PyData → List SD → Prop) → Prop
/-- a result: a datum, or a new cell that no name holds yet -/
def ResOk (K : PySem.W.Frag) (g : Gx Z) (F : Hp) (env : List SD) (σ : L2.St) (H : Hp) (v : V) : SD → Prop
  | .un => False
  | .dat d => DR K F v d
  | .cel _ xs => ∃ a vs, v = .ref a ∧ F a = none ∧ H a = some (.lst vs) ∧ DRs K F vs xs ∧ g.H0 a = none ∧ g.Pr a = none ∧ ∀ (j : Nat) (p : Bool) (ys : List PyData), env[j]? = some (.cel p ys) → σ[j]? ≠ some (some (.ref a))
  | .dic _ => False
def liftE (K : PySem.W.Frag) (Z : Zx T) (w : DE) : TE := fun σ H Q => ∃ (g : Gx Z) (F : Hp) (env : List SD) (P : PyData → List SD → Prop), Ok K g F env σ H ∧ w env P ∧
  ∀ d env' v F' H', P d env' → Ex F F' → Ok K g F' env' σ H' → DR K F' v d → Q v H'
def liftX (K : PySem.W.Frag) (Z : Zx T) (w : DX) : TE := fun σ H Q => ∃ (g : Gx Z) (F : Hp) (env : List SD) (P : SD → List SD → Prop), Ok K g F env σ H ∧ w env P ∧
  ∀ r env' v F' H', P r env' → Ex F F' → Ok K g F' env' σ H' → ResOk K g F' env' σ H' v r → Q v H'
def liftT (K : PySem.W.Frag) (Z : Zx T) (w : DT) : TT := fun σ H Q => ∃ (g : Gx Z) (F : Hp) (env : List SD) (P : Bool → List SD → Prop), Ok K g F env σ H ∧ w env P ∧
  ∀ b env' F' H', P b env' → Ex F F' → Ok K g F' env' σ H' → Q b H'
def liftA (K : PySem.W.Frag) (Z : Zx T) (w : DA) : TA := fun σ H Q => ∃ (g : Gx Z) (F : Hp) (env : List SD) (P : List PyData → List SD → Prop), Ok K g F env σ H ∧ w env P ∧
  ∀ ds env' vs F' H', P ds env' → Ex F F' → Ok K g F' env' σ H' → DRs K F' vs ds → Q vs H'
theorem PE.of {X : Cx} {e : Expr} {t t' : TE} (h : PE X e t) (w : ∀ σ H Q, t' σ H Q → t σ H Q) : PE X e t' := ⟨fun pins s σ H Q I q => h.run pins s σ H Q I (w σ H Q q)⟩
theorem PT.of {X : Cx} {e : Expr} {t t' : TT} (h : PT X e t) (w : ∀ σ H Q, t' σ H Q → t σ H Q) : PT X e t' := ⟨fun pins s σ H Q I q => h.run pins s σ H Q I (w σ H Q q)⟩
theorem PW.of {X : Cx} {e : Expr} {t t' : TT} (h : PW X e t) (w : ∀ σ H Q, t' σ H Q → t σ H Q) : PW X e t' := ⟨fun wh pins s σ H Q I q => h.run wh pins s σ H Q I (w σ H Q q)⟩
theorem PA.of {X : Cx} {e : List Expr} {t t' : TA} (h : PA X e t) (w : ∀ σ H Q, t' σ H Q → t σ H Q) : PA X e t' := ⟨fun p pins s σ H Q I q => h.run p pins s σ H Q I (w σ H Q q)⟩
theorem PS.of {X : Cx} {e : Stmt} {t t' : TS} (h : PS X e t) (w : ∀ D σ H, t' D σ H → t D σ H) : PS X e t' := ⟨fun pins s σ H D I q => h.run pins s σ H D I (w D σ H q)⟩
theorem PSs.of {X : Cx} {e : List Stmt} {t t' : TS} (h : PSs X e t) (w : ∀ D σ H, t' D σ H → t D σ H) : PSs X e t' := ⟨fun pins s σ H D I q => h.run pins s σ H D I (w D σ H q)⟩
section
variable {K : PySem.W.Frag} {g : Gx Z} {F F' : Hp} {env : List SD} {σ : L2.St} {H : Hp}
/-- a new cell that no name holds -/
theorem Ok.newCell (k : Ok K g F env σ H) {p : Addr} (h : H p = none) {vs : List V} {xs : List PyData} (r : DRs K F vs xs) :
    Ok K g F env σ (upd H p (.lst vs)) ∧ ResOk K g F env σ (upd H p (.lst vs)) (.ref p) (.cel false xs) := by
  refine ⟨k.extra h, p, vs, rfl, fnone k.fh h, upd_same, r, k.fresh0 h, ?_, fun j q ys e z => ?_⟩
  · cases e : g.Pr p with
    | none => rfl
    | some u =>
      have z := (k.prot p u e).1
      rw [h] at z
      cases z
  obtain ⟨a, ws, h1, _, h3, _⟩ := k.cel j q ys e
  rw [z] at h1
  cases h1
  rw [h] at h3
  cases h3
/-- such a cell becomes a datum -/
theorem Ok.freezeR (k : Ok K g F env σ H) {v : V} {p : Bool} {xs : List PyData} (h : ResOk K g F env σ H v (.cel p xs)) : ∃ F', Ex F F' ∧ Ok K g F' env σ H ∧ DR K F' v (.list xs) ∧ DR K F' v (.dict [(.none, .list xs)]) := by
  obtain ⟨a, vs, rfl, hF, hH, r, h0, hpr, nw⟩ := h
  have ex : Ex F (upd F a (.lst vs)) := Ex.new hF
  refine ⟨upd F a (.lst vs), ex, ⟨k.len, fun b u q => ?_, fun i d e => ?_, fun i q ys e => ?_, k.sep, k.pin, k.frame, fun b u q => ?_, k.oldF.new hF (fun _ z => by cases z), fun b u e => ?_, (k.dic.keep ex (fun _ _ _ z => z) fun b ys e n => ⟨by rw [upd_ne fun z => by rw [z, hH] at e; cases e]; exact n, rfl⟩)⟩, .lst (RdL.of upd_same) (r.mono ex), .row upd_same (r.mono ex)⟩
  · by_cases z : b = a
    · subst z
      rw [upd_same] at q
      exact hH.trans q
    · rw [upd_ne z] at q
      exact k.fh b u q
  · obtain ⟨v, z1, z2⟩ := k.dat i d e
    exact ⟨v, z1, z2.mono ex⟩
  · obtain ⟨b, ws, z1, z2, z3, z4, z5⟩ := k.cel i q ys e
    have ne : b ≠ a := fun z => by
      subst z
      exact nw i q ys e z1
    exact ⟨b, ws, z1, by rw [upd_ne ne]; exact z2, z3, z4.mono ex, z5⟩
  · by_cases z : b = a
    · subst z
      exact .inr h0
    · rw [upd_ne z] at q
      exact k.newF b u q
  · obtain ⟨z1, z2, z3⟩ := k.prot b u e
    have ne : b ≠ a := fun z => by
      subst z
      rw [hpr] at e
      cases e
    exact ⟨z1, by rw [upd_ne ne]; exact z2, z3⟩
theorem Ok.freezeP (k : Ok K g F env σ H) {v : V} {p : Bool} {xs : List PyData} (h : ResOk K g F env σ H v (.cel p xs)) : ∃ F', Ex F F' ∧ Ok K g F' env σ H ∧ DR K F' v (.list xs) := by
  obtain ⟨F', h1, h2, h3, _⟩ := k.freezeR h
  exact ⟨F', h1, h2, h3⟩
/-- a new tuple, a new list that never changes -/
theorem Ok.newTup (k : Ok K g F env σ H) {p : Addr} {o : Obj} (h : H p = none) (ho : PlT o) {vs : List V} {xs : List PyData} (r : DRs K F vs xs) :
    Ex F (upd F p (.frz o (.tup vs))) ∧ Ok K g (upd F p (.frz o (.tup vs))) env σ (upd H p (.frz o (.tup vs))) ∧ DR K (upd F p (.frz o (.tup vs))) (.ref p) (.tuple xs) := by
  have ex : Ex F (upd F p (.frz o (.tup vs))) := Ex.new (fnone k.fh h)
  exact ⟨ex, k.alloc h, .tup (.inl ⟨o, upd_same, ho⟩) (r.mono ex)⟩
theorem Ok.newLst (k : Ok K g F env σ H) {p : Addr} (h : H p = none) {vs : List V} {xs : List PyData} (r : DRs K F vs xs) :
    Ex F (upd F p (.lst vs)) ∧ Ok K g (upd F p (.lst vs)) env σ (upd H p (.lst vs)) ∧ DR K (upd F p (.lst vs)) (.ref p) (.list xs) := by
  have ex : Ex F (upd F p (.lst vs)) := Ex.new (fnone k.fh h)
  exact ⟨ex, k.alloc h, .lst (RdL.of upd_same) (r.mono ex)⟩
theorem drH (k : Ok K g F env σ H) {v : V} {d : PyData} (h : DR K F v d) : DR K H v d := h.mono k.fh
theorem drsH (k : Ok K g F env σ H) {v : List V} {d : List PyData} (h : DRs K F v d) : DRs K H v d := h.mono k.fh
end

section
variable {X : Cx} {a b c e : Expr} {es : List Expr} {pos : Pos} {wa wb wc w : DE} {K : PySem.W.Frag}
abbrev dVar (i : Nat) (env : List SD) (P : PyData → List SD → Prop) : Prop := match env[i]? with
  | some (.dat d) => P d env
  | _ => False
theorem lift_var {i : Nat} {σ : L2.St} {H : Hp} {Q : VK} (h : liftE K Z (dVar i) σ H Q) : tVar i σ H Q := by
  obtain ⟨g, F, env, P, k, w, q⟩ := h
  unfold dVar at w
  split at w
  · rename_i d e
    obtain ⟨v, h1, h2⟩ := k.dat i d e
    exact ⟨v, h1, q d env v F H w (Ex.refl F) k h2⟩
  · exact w.elim
theorem dv (i : Nat) {x : Str} {pos : Pos} (hN : X.N[i]? = some x := by rfl) (hv : Vis X.env.scope x := by first | exact Or.inl rfl | exact Or.inr (Or.inl rfl) | exact Or.inr (Or.inr rfl)) (hd : (x == ("__debug__" : Str)) = false := by decide)
    (hcd : (x == ("__classdict__" : Str)) = false := by decide) : PE X (.Name x pos) (liftE X.K Z (dVar i)) := PE.of (pe_var hN hv hd hcd) fun _ _ _ h => lift_var h
abbrev dC (d : PyData) (env : List SD) (P : PyData → List SD → Prop) : Prop := P d env
theorem lift_c {v : V} {d : PyData} (hv : ∀ F : Hp, DR K F v d) {σ : L2.St} {H : Hp} {Q : VK} (h : liftE K Z (dC d) σ H Q) : tC v σ H Q := by
  obtain ⟨g, F, env, P, k, w, q⟩ := h
  exact q d env v F H w (Ex.refl F) k (hv F)
theorem di {i : Int} {j pos} : PE X (.Constant (.int i) j pos) (liftE X.K Z (dC (.int i))) := PE.of pe_int fun _ _ _ h => lift_c (fun _ => .int i) h
theorem db {i : Bool} {j pos} : PE X (.Constant (.bool i) j pos) (liftE X.K Z (dC (.bool i))) := PE.of pe_bl fun _ _ _ h => lift_c (fun _ => .bl i) h
theorem dn {j pos} : PE X (.Constant .none j pos) (liftE X.K Z (dC .none)) := PE.of pe_non fun _ _ _ h => lift_c (fun _ => .non) h
theorem ds {i : Str} {j pos} : PE X (.Constant (.str i) j pos) (liftE X.K Z (dC (.str i))) := PE.of pe_str fun _ _ _ h => lift_c (fun _ => .str i) h
/-- a module's constant -/
theorem dglob {x : Str} {u : Value} {d : PyData} {pos : Pos} {v : V} (hm : X.mg x = some u) (r : RelV v u) (hd : ∀ F : Hp, DR X.K F v d) (hg : Gl X x := by rfl) (hdb : (x == ("__debug__" : Str)) = false := by decide) : PE X (.Name x pos) (liftE X.K Z (dC d)) :=
  PE.of (pe_glob hg hm r hdb) fun _ _ _ h => lift_c hd h
abbrev D2 := PyData → PyData → (PyData → Prop) → Prop
abbrev dOp (f : D2) (wa wb : DE) (env : List SD) (P : PyData → List SD → Prop) : Prop := wa env fun x env1 => wb env1 fun y env2 => f x y fun z => P z env2
def OpD (K : PySem.W.Frag) (r : R2) (f : D2) : Prop :=
  ∀ (T : List (Addr × Str)) (Z : Zx T) (g : Gx Z) (F : Hp) (env : List SD) (σ : L2.St) (H : Hp) (vx vy : V) (dx dy : PyData) (P : PyData → Prop) (Q : VK), Ok K g F env σ H → DR K F vx dx → DR K F vy dy → f dx dy P →
    (∀ d v F' H', P d → Ex F F' → Ok K g F' env σ H' → DR K F' v d → Q v H') → r vx vy H Q
theorem lift_op {r : R2} {f : D2} (hd : OpD K r f) {σ : L2.St} {H : Hp} {Q : VK} (h : liftE K Z (dOp f wa wb) σ H Q) : tOp r (liftE K Z wa) (liftE K Z wb) σ H Q := by
  obtain ⟨g, F, env, P, k, w, q⟩ := h
  refine ⟨g, F, env, _, k, w, fun d env1 v F1 H1 p e1 k1 r1 => ⟨g, F1, env1, _, k1, p, fun d2 env2 v2 F2 H2 p2 e2 k2 r2 => ?_⟩⟩
  exact hd _ _ g F2 env2 σ H2 v v2 d d2 _ Q k2 (r1.mono e2) r2 p2 fun d3 v3 F3 H3 p3 e3 k3 r3 => q d3 env2 v3 F3 H3 p3 (e1.trans (e2.trans e3)) k3 r3
theorem dop {op : Operator} {r : R2} {f : D2} (ho : OpR X (binaryOp op) r) (hd : OpD X.K r f) (ha : PE X a (liftE X.K Z wa)) (hb : PE X b (liftE X.K Z wb)) : PE X (.BinOp a op b pos) (liftE X.K Z (dOp f wa wb)) :=
  PE.of (pe_op ho ha hb) fun _ _ _ h => lift_op hd h
theorem dcmp {op : CmpOp} {r : R2} {f : D2} (ho : OpR X (compareOp op) r) (hd : OpD X.K r f) (ha : PE X a (liftE X.K Z wa)) (hb : PE X b (liftE X.K Z wb)) (hm : behindInMarks op b = false) : PE X (.Compare a [op] [b] pos) (liftE X.K Z (dOp f wa wb)) :=
  PE.of (pe_cmpR ho ha hb hm) fun _ _ _ h => lift_op hd h
abbrev dTest (w : DE) (env : List SD) (P : Bool → List SD → Prop) : Prop := w env fun d env' => bT d fun b => P b env'
theorem lift_test {t : TE} (ht : ∀ σ H Q, liftE K Z w σ H Q → t σ H Q) {σ : L2.St} {H : Hp} {Q : Bool → Hp → Prop} (h : liftT K Z (dTest w) σ H Q) : tTest t σ H Q := by
  obtain ⟨g, F, env, P, k, w, q⟩ := h
  refine ht _ _ _ ⟨g, F, env, _, k, w, fun d env1 v F1 H1 p e1 k1 r1 => ?_⟩
  obtain ⟨b, rfl, p⟩ := bT_inv p
  cases r1.inv_bool
  exact ⟨_, rfl, q _ env1 F1 H1 p e1 k1⟩
theorem dcmpT {op : CmpOp} {r : R2} {f : D2} (ho : OpR X (compareOp op) r) (hd : OpD X.K r f) (ha : PE X a (liftE X.K Z wa)) (hb : PE X b (liftE X.K Z wb)) (hm : behindInMarks op b = false) : PT X (.Compare a [op] [b] pos) (liftT X.K Z (dTest (dOp f wa wb))) :=
  PT.of (pt_cmpR ho ha hb hm) fun _ _ _ h => lift_test (fun _ _ _ h => lift_op hd h) h
/-- any other expression as a test -/
theorem dtest (h : PE X e (liftE X.K Z w)) (he : ∀ whole, isTrue e X.env whole = (do let v ← whole; standAt e.pos; holding [v] (truthy v)) := by intro _; rfl) : PT X e (liftT X.K Z (dTest w)) :=
  PT.of (pt_val h he) fun _ _ _ q => lift_test (fun _ _ _ h => h) q
/-- a < b < c -/
abbrev dChain (f f' : D2) (wa wb wc : DE) (env : List SD) (P : PyData → List SD → Prop) : Prop := wa env fun x env1 => wb env1 fun y env2 => f x y fun z => bT z fun b => bIf b (wc env2 fun u env3 => f' y u fun z2 => P z2 env3) (P (.bool false) env2)
theorem lift_chain {r r' : R2} {f f' : D2} (hd : OpD K r f) (hd' : OpD K r' f') {σ : L2.St} {H : Hp} {Q : VK} (h : liftE K Z (dChain f f' wa wb wc) σ H Q) : tChain r r' (liftE K Z wa) (liftE K Z wb) (liftE K Z wc) σ H Q := by
  obtain ⟨g, F, env, P, k, w, q⟩ := h
  refine ⟨g, F, env, _, k, w, fun d env1 v F1 H1 p e1 k1 r1 => ⟨g, F1, env1, _, k1, p, fun d2 env2 v2 F2 H2 p2 e2 k2 r2 => ?_⟩⟩
  refine hd _ _ g F2 env2 σ H2 v v2 d d2 _ _ k2 (r1.mono e2) r2 p2 fun d3 v3 F3 H3 p3 e3 k3 r3 => ?_
  obtain ⟨b, rfl, p3⟩ := bT_inv p3
  cases r3.inv_bool
  cases b with
  | true =>
    refine ⟨true, rfl, iteT ⟨g, F3, env2, _, k3, p3, fun d4 env4 v4 F4 H4 p4 e4 k4 r4 => ?_⟩⟩
    exact hd' _ _ g F4 env4 σ H4 v2 v4 d2 d4 _ Q k4 ((r2.mono e3).mono e4) r4 p4 fun d5 v5 F5 H5 p5 e5 k5 r5 => q d5 env4 v5 F5 H5 p5 (e1.trans (e2.trans (e3.trans (e4.trans e5)))) k5 r5
  | false =>
    exact ⟨false, rfl, iteF (q _ env2 _ F3 H3 p3 (e1.trans (e2.trans e3)) k3 (.bl false))⟩
theorem dchain {op op' : CmpOp} {r r' : R2} {f f' : D2} (ho : OpR X (compareOp op) r) (ho' : OpR X (compareOp op') r') (hd : OpD X.K r f) (hd' : OpD X.K r' f') (ha : PE X a (liftE X.K Z wa)) (hb : PE X b (liftE X.K Z wb)) (hc : PE X c (liftE X.K Z wc))
    (hm : lastMarks [op, op'] [b, c] = false := by with_unfolding_all rfl) : PE X (.Compare a [op, op'] [b, c] pos) (liftE X.K Z (dChain f f' wa wb wc)) :=
  PE.of (pe_chain ho ho' ha hb hc hm) fun _ _ _ h => lift_chain hd hd' h
theorem dchainT {op op' : CmpOp} {r r' : R2} {f f' : D2} (ho : OpR X (compareOp op) r) (ho' : OpR X (compareOp op') r') (hd : OpD X.K r f) (hd' : OpD X.K r' f') (ha : PE X a (liftE X.K Z wa)) (hb : PE X b (liftE X.K Z wb)) (hc : PE X c (liftE X.K Z wc))
    (hm : lastMarks [op, op'] [b, c] = false := by with_unfolding_all rfl) : PT X (.Compare a [op, op'] [b, c] pos) (liftT X.K Z (dTest (dChain f f' wa wb wc))) :=
  PT.of (pt_chain ho ho' ha hb hc hm) fun _ _ _ h => lift_test (fun _ _ _ h => lift_chain hd hd' h) h
/-- one place -/
abbrev D1 := PyData → (PyData → Prop) → Prop
abbrev dUn (f : D1) (wa : DE) (env : List SD) (P : PyData → List SD → Prop) : Prop := wa env fun x env1 => f x fun z => P z env1
def UnD (K : PySem.W.Frag) (r : V → Hp → VK → Prop) (f : D1) : Prop :=
  ∀ (T : List (Addr × Str)) (Z : Zx T) (g : Gx Z) (F : Hp) (env : List SD) (σ : L2.St) (H : Hp) (vx : V) (dx : PyData) (P : PyData → Prop) (Q : VK), Ok K g F env σ H → DR K F vx dx → f dx P →
    (∀ d v F' H', P d → Ex F F' → Ok K g F' env σ H' → DR K F' v d → Q v H') → r vx H Q
theorem dun {op : UnaryOp} {r : V → Hp → VK → Prop} {f : D1} (ho : UnR X (unaryOp op) r) (hd : UnD X.K r f) (ha : PE X a (liftE X.K Z wa)) : PE X (.UnaryOp op a pos) (liftE X.K Z (dUn f wa)) :=
  PE.of (pe_un ho ha) fun σ H Q h => by
    obtain ⟨g, F, env, P, k, w, q⟩ := h
    refine ⟨g, F, env, _, k, w, fun d env1 v F1 H1 p e1 k1 r1 => ?_⟩
    exact hd _ _ g F1 env1 σ H1 v d _ Q k1 r1 p fun d3 v3 F3 H3 p3 e3 k3 r3 => q d3 env1 v3 F3 H3 p3 (e1.trans e3) k3 r3
abbrev dAndV (wa wb : DE) (env : List SD) (P : PyData → List SD → Prop) : Prop := wa env fun x env1 => bT x fun b => bIf b (wb env1 P) (P (.bool false) env1)
abbrev dOrV (wa wb : DE) (env : List SD) (P : PyData → List SD → Prop) : Prop := wa env fun x env1 => bT x fun b => bIf b (P (.bool true) env1) (wb env1 P)
abbrev dNotV (wa : DE) (env : List SD) (P : PyData → List SD → Prop) : Prop := wa env fun x env1 => bT x fun b => P (.bool (!b)) env1
variable {rest : List Expr}
theorem done {op : BoolOp} (h : PE X a (liftE X.K Z wa)) : PE X (.BoolOp op [a] pos) (liftE X.K Z wa) := pe_one h
theorem dandV (ha : PE X a (liftE X.K Z wa)) (hb : PE X (.BoolOp .And (b :: rest) pos) (liftE X.K Z wb)) : PE X (.BoolOp .And (a :: b :: rest) pos) (liftE X.K Z (dAndV wa wb)) :=
  PE.of (pe_and ha hb) fun σ H Q h => by
    obtain ⟨g, F, env, P, k, w, q⟩ := h
    refine ⟨g, F, env, _, k, w, fun d env1 v F1 H1 p e1 k1 r1 => ?_⟩
    obtain ⟨b, rfl, p⟩ := bT_inv p
    cases r1.inv_bool
    cases b with
    | true => exact ⟨true, rfl, iteT ⟨g, F1, env1, _, k1, p, fun d2 env2 v2 F2 H2 p2 e2 k2 r2 => q d2 env2 v2 F2 H2 p2 (e1.trans e2) k2 r2⟩⟩
    | false => exact ⟨false, rfl, iteF (q _ env1 _ F1 H1 p e1 k1 (.bl false))⟩
theorem dorV (ha : PE X a (liftE X.K Z wa)) (hb : PE X (.BoolOp .Or (b :: rest) pos) (liftE X.K Z wb)) : PE X (.BoolOp .Or (a :: b :: rest) pos) (liftE X.K Z (dOrV wa wb)) :=
  PE.of (pe_or ha hb) fun σ H Q h => by
    obtain ⟨g, F, env, P, k, w, q⟩ := h
    refine ⟨g, F, env, _, k, w, fun d env1 v F1 H1 p e1 k1 r1 => ?_⟩
    obtain ⟨b, rfl, p⟩ := bT_inv p
    cases r1.inv_bool
    cases b with
    | true => exact ⟨true, rfl, iteT (q _ env1 _ F1 H1 p e1 k1 (.bl true))⟩
    | false => exact ⟨false, rfl, iteF ⟨g, F1, env1, _, k1, p, fun d2 env2 v2 F2 H2 p2 e2 k2 r2 => q d2 env2 v2 F2 H2 p2 (e1.trans e2) k2 r2⟩⟩
theorem dnotV (ha : PE X a (liftE X.K Z wa)) : PE X (.UnaryOp .Not a pos) (liftE X.K Z (dNotV wa)) :=
  PE.of (pe_not ha) fun σ H Q h => by
    obtain ⟨g, F, env, P, k, w, q⟩ := h
    refine ⟨g, F, env, _, k, w, fun d env1 v F1 H1 p e1 k1 r1 => ?_⟩
    obtain ⟨b, rfl, p⟩ := bT_inv p
    cases r1.inv_bool
    exact ⟨_, rfl, q _ env1 _ F1 H1 p e1 k1 (.bl _)⟩
abbrev dAnd (t u : DT) (env : List SD) (P : Bool → List SD → Prop) : Prop := t env fun b env1 => bIf b (u env1 P) (P false env1)
abbrev dOr (t u : DT) (env : List SD) (P : Bool → List SD → Prop) : Prop := t env fun b env1 => bIf b (P true env1) (u env1 P)
abbrev dNot (t : DT) (env : List SD) (P : Bool → List SD → Prop) : Prop := t env fun b env1 => P (!b) env1
variable {t u : DT}
theorem tand1 (ha : PT X a (liftT X.K Z t)) : PW X (.BoolOp .And [a] pos) (liftT X.K Z t) := pw_and1 ha
theorem tor1 (ha : PT X a (liftT X.K Z t)) : PW X (.BoolOp .Or [a] pos) (liftT X.K Z t) := pw_or1 ha
theorem tand (ha : PT X a (liftT X.K Z t)) (hb : PW X (.BoolOp .And (b :: rest) pos) (liftT X.K Z u)) : PW X (.BoolOp .And (a :: b :: rest) pos) (liftT X.K Z (dAnd t u)) :=
  PW.of (pw_and ha hb) fun σ H Q h => by
    obtain ⟨g, F, env, P, k, w, q⟩ := h
    refine ⟨g, F, env, _, k, w, fun d env1 F1 H1 p e1 k1 => ?_⟩
    cases d with
    | true => exact iteT ⟨g, F1, env1, _, k1, p, fun d2 env2 F2 H2 p2 e2 k2 => q d2 env2 F2 H2 p2 (e1.trans e2) k2⟩
    | false => exact iteF (q _ env1 F1 H1 p e1 k1)
theorem tor (ha : PT X a (liftT X.K Z t)) (hb : PW X (.BoolOp .Or (b :: rest) pos) (liftT X.K Z u)) : PW X (.BoolOp .Or (a :: b :: rest) pos) (liftT X.K Z (dOr t u)) :=
  PW.of (pw_or ha hb) fun σ H Q h => by
    obtain ⟨g, F, env, P, k, w, q⟩ := h
    refine ⟨g, F, env, _, k, w, fun d env1 F1 H1 p e1 k1 => ?_⟩
    cases d with
    | false => exact iteF ⟨g, F1, env1, _, k1, p, fun d2 env2 F2 H2 p2 e2 k2 => q d2 env2 F2 H2 p2 (e1.trans e2) k2⟩
    | true => exact iteT (q _ env1 F1 H1 p e1 k1)
theorem tnot (ha : PT X a (liftT X.K Z t)) : PT X (.UnaryOp .Not a pos) (liftT X.K Z (dNot t)) :=
  PT.of (pt_not ha) fun σ H Q h => by
    obtain ⟨g, F, env, P, k, w, q⟩ := h
    exact ⟨g, F, env, _, k, w, fun d env1 F1 H1 p e1 k1 => q _ env1 F1 H1 p e1 k1⟩
abbrev dIf (t : DT) (wa wb : DE) (env : List SD) (P : PyData → List SD → Prop) : Prop := t env fun b env1 => bIf b (wa env1 P) (wb env1 P)
theorem dif {c : Expr} (hc : PT X c (liftT X.K Z t)) (ha : PE X a (liftE X.K Z wa)) (hb : PE X b (liftE X.K Z wb)) : PE X (.IfExp c a b pos) (liftE X.K Z (dIf t wa wb)) :=
  PE.of (pe_ifExp hc ha hb) fun σ H Q h => by
    obtain ⟨g, F, env, P, k, w, q⟩ := h
    refine ⟨g, F, env, _, k, w, fun d env1 F1 H1 p e1 k1 => ?_⟩
    cases d with
    | true => exact iteT ⟨g, F1, env1, _, k1, p, fun d2 env2 v2 F2 H2 p2 e2 k2 r2 => q d2 env2 v2 F2 H2 p2 (e1.trans e2) k2 r2⟩
    | false => exact iteF ⟨g, F1, env1, _, k1, p, fun d2 env2 v2 F2 H2 p2 e2 k2 r2 => q d2 env2 v2 F2 H2 p2 (e1.trans e2) k2 r2⟩
variable {was : DA}
abbrev dNil (env : List SD) (P : List PyData → List SD → Prop) : Prop := P [] env
abbrev dCons (wa : DE) (wr : DA) (env : List SD) (P : List PyData → List SD → Prop) : Prop := wa env fun x env1 => wr env1 fun xs env2 => P (x :: xs) env2
theorem anil : PA X [] (liftA X.K Z dNil) := PA.of pa_nil fun σ H Q h => by
  obtain ⟨g, F, env, P, k, w, q⟩ := h
  exact q [] env [] F H w (Ex.refl F) k .nil
theorem acons (ha : PE X e (liftE X.K Z wa)) (hr : PA X es (liftA X.K Z was)) (hs : starEach (e :: es) X.env = (false, eval e X.env) :: starEach es X.env := by rfl) : PA X (e :: es) (liftA X.K Z (dCons wa was)) :=
  PA.of (pa_cons ha hr hs) fun σ H Q h => by
    obtain ⟨g, F, env, P, k, w, q⟩ := h
    exact ⟨g, F, env, _, k, w, fun d env1 v F1 H1 p e1 k1 r1 => ⟨g, F1, env1, _, k1, p, fun ds env2 vs F2 H2 p2 e2 k2 r2 => q (d :: ds) env2 (v :: vs) F2 H2 p2 (e1.trans e2) k2 (.cons (r1.mono e2) r2)⟩⟩
abbrev dTup (wa : DA) (env : List SD) (P : PyData → List SD → Prop) : Prop := wa env fun xs env' => bIf (Nat.ble xs.length 100000) (P (.tuple xs) env') False
abbrev dLst (wa : DA) (env : List SD) (P : SD → List SD → Prop) : Prop := wa env fun xs env' => bIf (Nat.ble xs.length 100000) (P (.cel false xs) env') False
theorem dtup {k : _} (h : PA X es (liftA X.K Z was)) : PE X (.Tuple es k pos) (liftE X.K Z (dTup was)) :=
  PE.of (pe_tupZ h) fun σ H Q h => by
    obtain ⟨g, F, env, P, k, w, q⟩ := h
    refine ⟨g, F, env, _, k, w, fun ds env1 vs F1 H1 p e1 k1 r1 => ⟨by rw [r1.length]; exact Evl.sz_of (Nat.le_of_ble_eq_true (bIf_and p).1), fun x o hx ho => ?_⟩⟩
    obtain ⟨e2, k2, r2⟩ := k1.newTup hx ho r1
    exact q _ env1 _ _ _ (bIf_and p).2 (e1.trans e2) k2 r2
theorem dlst (h : PA X es (liftA X.K Z was)) : PE X (.List es pos) (liftX X.K Z (dLst was)) :=
  PE.of (pe_lst h) fun σ H Q h => by
    obtain ⟨g, F, env, P, k, w, q⟩ := h
    refine ⟨g, F, env, _, k, w, fun ds env1 vs F1 H1 p e1 k1 r1 => ⟨by rw [r1.length]; exact Evl.sz_of (Nat.le_of_ble_eq_true (bIf_and p).1), fun x hx => ?_⟩⟩
    obtain ⟨k2, r2⟩ := k1.newCell hx r1
    exact q _ env1 _ _ _ (bIf_and p).2 e1 k2 r2
/-- a new list that is to stay as it is -/
abbrev dFrz (w : DX) (env : List SD) (P : PyData → List SD → Prop) : Prop := w env fun r env' => match r with
  | .dat d => P d env'
  | .cel _ xs => P (.list xs) env'
  | _ => False
theorem dfrz {w : DX} (h : PE X e (liftX X.K Z w)) : PE X e (liftE X.K Z (dFrz w)) := PE.of h fun σ H Q h => by
  obtain ⟨g, F, env, P, k, w, q⟩ := h
  refine ⟨g, F, env, _, k, w, fun r env1 v F1 H1 p e1 k1 r1 => ?_⟩
  cases r with
  | un => exact p.elim
  | dic _ => exact p.elim
  | dat d => exact q d env1 v F1 H1 p e1 k1 r1
  | cel b xs =>
    obtain ⟨F2, e2, k2, r2⟩ := k1.freezeP r1
    exact q _ env1 v F2 H1 p (e1.trans e2) k2 r2
abbrev dX (w : DE) (env : List SD) (P : SD → List SD → Prop) : Prop := w env fun d env' => P (.dat d) env'
theorem dx {w : DE} (h : PE X e (liftE X.K Z w)) : PE X e (liftX X.K Z (dX w)) := PE.of h fun σ H Q h => by
  obtain ⟨g, F, env, P, k, w, q⟩ := h
  exact ⟨g, F, env, _, k, w, fun d env1 v F1 H1 p e1 k1 r1 => q (.dat d) env1 v F1 H1 p e1 k1 r1⟩
theorem dix {r : R2} {f : D2} (ho : IxR X r) (hd : OpD X.K r f) (ha : PE X a (liftE X.K Z wa)) (hb : PE X b (liftE X.K Z wb)) (hs : PlainIx b := by intro _ _; rfl) : PE X (.Subscript a b pos) (liftE X.K Z (dOp f wa wb)) :=
  PE.of (pe_ix ho ha hb hs) fun _ _ _ h => lift_op hd h
theorem ixr_or {r r' : R2} (h : IxR X r) (h' : IxR X r') : IxR X (fun x y H Q => r x y H Q ∨ r' x y H Q) := by
  intro value slice pins s σ H x y v u Q I rx ry q hs
  rcases q with q | q
  · exact h value slice pins s σ H x y v u Q I rx ry q hs
  · exact h' value slice pins s σ H x y v u Q I rx ry q hs
/-- the item at a place -/
@[irreducible] def pick (xs : List PyData) (k : Int) (P : PyData → Prop) : Prop := match atI xs k with
  | some d => P d
  | none => False
theorem pick_inv {xs : List PyData} {k : Int} {P : PyData → Prop} (h : pick xs k P) : ∃ d, atI xs k = some d ∧ P d := by
  unfold pick at h
  cases e : atI xs k with
  | none => rw [e] at h; exact h.elim
  | some d => rw [e] at h; exact ⟨d, rfl, h⟩
def ixQ (xs : List PyData) (y : PyData) (K : PyData → Prop) : Prop := match y with
  | .int k => pick xs k K
  | _ => False
/-- the sign at a place of a text -/
@[irreducible] def pickS (z : Str) (k : Int) (P : PyData → Prop) : Prop := match atI z.cps.toList k with
  | some c => z.length ≤ 100000 ∧ P (.str ⟨#[c]⟩)
  | none => False
theorem pickS_inv {z : Str} {k : Int} {P : PyData → Prop} (h : pickS z k P) : ∃ c, atI z.cps.toList k = some c ∧ z.length ≤ 100000 ∧ P (.str ⟨#[c]⟩) := by
  unfold pickS at h
  cases e : atI z.cps.toList k with
  | none => rw [e] at h; exact h.elim
  | some c => rw [e] at h; exact ⟨c, rfl, h⟩
def oIx (x y : PyData) (P : PyData → Prop) : Prop := match x, y with
  | .tuple xs, .int k => pick xs k P
  | .list xs, .int k => pick xs k P
  | .str z, .int k => pickS z k P
  | _, _ => False
theorem atI_rel {F : Hp} {vs : List V} {ds : List PyData} {k : Int} {d : PyData} (r : DRs K F vs ds) (h : atI ds k = some d) : ∃ v, atI vs k = some v ∧ DR K F v d := by
  unfold atI at h ⊢
  rw [r.length]
  cases e : ixN ds.length k with
  | none => rw [e] at h; cases h
  | some j =>
    rw [e] at h
    exact r.get h
def rIx (K : PySem.W.Frag) : R2 := fun x y H Q => rIxT K x y H Q ∨ (rIxL K x y H Q ∨ rIxS x y H Q)
theorem ixr : IxR X (rIx X.K) := ixr_or ix_tup (ixr_or ix_list ix_str)
theorem opd_ix : OpD K (rIx K) oIx := by
  intro _ _ g F env σ H vx vy dx dy P Q k rx ry p q
  unfold oIx at p
  split at p
  · rename_i xs i
    cases ry.inv_int
    obtain ⟨d, e, p⟩ := pick_inv p
    obtain ⟨a, us, rfl, h1, h2⟩ := rx.inv_tup
    obtain ⟨v, e1, e2⟩ := atI_rel h2 e
    exact .inl ⟨a, us, i, v, rfl, rfl, Evl.ex_t k.fh h1, e1, q d v F H p (Ex.refl F) k e2⟩
  · rename_i xs i
    cases ry.inv_int
    obtain ⟨d, e, p⟩ := pick_inv p
    obtain ⟨a, us, rfl, h1, h2⟩ := rx.inv_lst
    obtain ⟨v, e1, e2⟩ := atI_rel h2 e
    exact .inr (.inl ⟨a, us, i, v, rfl, rfl, (h1.mono k.fh).sq, e1, q d v F H p (Ex.refl F) k e2⟩)
  · rename_i z i
    cases ry.inv_int
    cases rx.inv_str
    obtain ⟨c, e, hz, p⟩ := pickS_inv p
    exact .inr (.inr ⟨z, i, c, rfl, rfl, by rw [sizeLine_eq]; omega, e, q _ _ F H p (Ex.refl F) k (.str _)⟩)
  · exact p.elim
theorem dixP (ha : PE X a (liftE X.K Z wa)) (hb : PE X b (liftE X.K Z wb)) (hs : PlainIx b := by intro _ _; rfl) : PE X (.Subscript a b pos) (liftE X.K Z (dOp oIx wa wb)) := dix ixr opd_ix ha hb hs
/-- an item of a name's own cell -/
abbrev dIxC (i : Nat) (wb : DE) (env : List SD) (P : PyData → List SD → Prop) : Prop := match env[i]? with
  | some (.cel _ _) => wb env fun y env1 => match env1[i]? with
    | some (.cel _ xs) => ixQ xs y fun d => P d env1
    | _ => False
  | _ => False
theorem dixC (i : Nat) {x : Str} {p0 : Pos} (hb : PE X b (liftE X.K Z wb)) (hN : X.N[i]? = some x := by rfl) (hv : Vis X.env.scope x := by first | exact Or.inl rfl | exact Or.inr (Or.inl rfl) | exact Or.inr (Or.inr rfl)) (hd : (x == ("__debug__" : Str)) = false := by decide)
    (hcd : (x == ("__classdict__" : Str)) = false := by decide) (hs : PlainIx b := by intro _ _; rfl) : PE X (.Subscript (.Name x p0) b pos) (liftE X.K Z (dIxC i wb)) :=
  PE.of (pe_ix ix_list (pe_var hN hv hd hcd) hb hs) fun σ H Q h => by
    obtain ⟨g, F, env, P, k, w, q⟩ := h
    unfold dIxC at w
    split at w
    · rename_i p xs e
      obtain ⟨a0, vs, h1, _⟩ := k.cel i p xs e
      refine ⟨_, h1, g, F, env, _, k, w, fun d env1 v F1 H1 p1 e1 k1 r1 => ?_⟩
      split at p1
      · rename_i p' ys e'
        obtain ⟨n, rfl, p1⟩ : ∃ n, d = .int n ∧ pick ys n _ := by
          cases d <;> first | exact ⟨_, rfl, p1⟩ | exact p1.elim
        cases r1.inv_int
        obtain ⟨d', ed, p1⟩ := pick_inv p1
        obtain ⟨a1, ws, z1, z2, z3, z4, z5⟩ := k1.cel i _ _ e'
        rw [h1] at z1
        cases z1
        obtain ⟨u, u1, u2⟩ := atI_rel z4 ed
        exact ⟨a0, ws, n, u, rfl, rfl, SqL.of z3, u1, q d' env1 u F1 H1 p1 e1 k1 u2⟩
      · exact p1.elim
    · exact w.elim
end
end DL

namespace DL
variable {T : List (PySem.Addr × PySem.Str)} {Z : Zx T}
open PySem PySem.Spec PyProof.Rows L2
open Evl (Ex)

/-- a whole number of at most thousand figures -/
def Sz (i : Int) : Prop := i.natAbs < 10 ^ 1000
theorem Sz.log {i : Int} (h : Sz i) : i.natAbs.log2 < 3322 := by
  have h1 : i.natAbs < 2 ^ 3322 := Nat.lt_trans h (by decide +kernel)
  exact PySem.Flt.log2_lt_of (by decide) h1
theorem Sz.bits {i : Int} (h : Sz i) : Builtin.Int.intBits i ≤ 3322 := by
  have h1 := h.log
  unfold Builtin.Int.intBits
  split <;> omega
theorem sz_of {i : Int} (h1 : -(10 ^ 100) ≤ i) (h2 : i ≤ 10 ^ 100) : Sz i := by
  unfold Sz
  have : i.natAbs ≤ 10 ^ 100 := by omega
  exact Nat.lt_of_le_of_lt this (by decide +kernel)
theorem sz_lt {i : Int} (h : i.natAbs < 10 ^ 250) : Sz i := Nat.lt_trans h (by decide +kernel)
theorem lt_of {i : Int} (h1 : -(10 ^ 100) ≤ i) (h2 : i ≤ 10 ^ 100) : i.natAbs < 10 ^ 250 := by
  have : i.natAbs ≤ 10 ^ 100 := by omega
  exact Nat.lt_of_le_of_lt this (by decide +kernel)
section
variable {X : Cx} {K : PySem.W.Frag}
def oI (g : Int → Int → PyData) (x y : PyData) (P : PyData → Prop) : Prop := match x, y with
  | .int i, .int j => P (g i j)
  | _, _ => False
theorem opd_I0 {gv : Int → Int → V} {gd : Int → Int → PyData} (hg : ∀ (F : Hp) i j, DR K F (gv i j) (gd i j)) : OpD K (rI0 gv) (oI gd) := by
  intro _ _ g F env σ H vx vy dx dy P Q k rx ry p q
  unfold oI at p
  split at p
  · cases rx.inv_int
    cases ry.inv_int
    exact ⟨_, _, rfl, rfl, q _ _ F H p (Ex.refl F) k (hg F _ _)⟩
  · exact p.elim
def oIc (C : Int → Int → Prop) (g : Int → Int → PyData) (x y : PyData) (P : PyData → Prop) : Prop := match x, y with
  | .int i, .int j => C i j ∧ P (g i j)
  | _, _ => False
theorem opd_I {C C' : Int → Int → Prop} {gv : Int → Int → V} {gd : Int → Int → PyData} (hc : ∀ i j, C i j → C' i j) (hg : ∀ (F : Hp) i j, DR K F (gv i j) (gd i j)) : OpD K (rI C' gv) (oIc C gd) := by
  intro _ _ g F env σ H vx vy dx dy P Q k rx ry p q
  unfold oIc at p
  split at p
  · cases rx.inv_int
    cases ry.inv_int
    exact ⟨_, _, rfl, rfl, hc _ _ p.1, q _ _ F H p.2 (Ex.refl F) k (hg F _ _)⟩
  · exact p.elim
abbrev oSub : D2 := oI fun i j => .int (i - j)
/-- the one text ahead of the other -/
@[irreducible] def strLt (a b : Str) : Bool := decide (a.cps.toList < b.cps.toList)
def oLt (x y : PyData) (P : PyData → Prop) : Prop := match x, y with
  | .int i, .int j => P (.bool (decide (i < j)))
  | .str a, .str b => P (.bool (strLt a b))
  | _, _ => False
def rLtA : R2 := fun x y H Q => (rI0 fun i j => .bl (decide (i < j))) x y H Q ∨ ∃ i j, x = .str i ∧ y = .str j ∧ Q (.bl (decide (i.cps.toList < j.cps.toList))) H
theorem op_ltA {X : Cx} : OpR X (compareOp .Lt) rLtA := OpR.or op_lt op_lt_str
abbrev oLe : D2 := oI fun i j => .bool (decide (i ≤ j))
abbrev oGt : D2 := oI fun i j => .bool (decide (j < i))
abbrev oGe : D2 := oI fun i j => .bool (decide (j ≤ i))
abbrev oMod : D2 := oIc (fun _ j => 0 < j) fun i j => .int (i % j)
abbrev oDiv : D2 := oIc (fun _ j => 0 < j ∧ Sz j) fun i j => .int (i / j)
abbrev oMulI : D2 := oIc (fun i j => Sz i ∧ Sz j) fun i j => .int (i * j)
abbrev oPow : D2 := oIc (fun i j => Sz i ∧ 0 ≤ j ∧ j ≤ 10000) fun i j => .int (i ^ j.toNat)
variable {a b c e : Expr} {es : List Expr} {pos : Pos} {wa wb wc w : DE}
theorem op_powW : OpR X (binaryOp .Pow) (rI (fun i j => Sz i ∧ 0 ≤ j ∧ j ≤ 10000) fun i j => .int (i ^ j.toNat)) := by
  intro pins s σ H x y v u Q I rx ry h
  obtain ⟨i, j, rfl, rfl, ⟨h1, h2, h3⟩, q⟩ := h
  obtain ⟨t, rfl⟩ := rx
  obtain ⟨t', rfl⟩ := ry
  refine PyProof.Rows.pow_int h2 ?_ ⟨.int _, H, I.tok _, ⟨_, rfl⟩, q⟩
  have b := h1.bits
  have z : (Builtin.Int.intBits i : Int) * j ≤ 3322 * 10000 := Int.mul_le_mul (by omega) h3 h2 (by decide)
  exact Int.le_trans z (by decide)
theorem dsub (ha : PE X a (liftE X.K Z wa)) (hb : PE X b (liftE X.K Z wb)) : PE X (.BinOp a .Sub b pos) (liftE X.K Z (dOp oSub wa wb)) := dop op_sub (opd_I0 fun _ _ _ => .int _) ha hb
theorem dmod (ha : PE X a (liftE X.K Z wa)) (hb : PE X b (liftE X.K Z wb)) : PE X (.BinOp a .Mod b pos) (liftE X.K Z (dOp oMod wa wb)) := dop op_mod (opd_I (fun _ _ h => h) fun _ _ _ => .int _) ha hb
theorem ddiv (ha : PE X a (liftE X.K Z wa)) (hb : PE X b (liftE X.K Z wb)) : PE X (.BinOp a .FloorDiv b pos) (liftE X.K Z (dOp oDiv wa wb)) :=
  dop op_fdivW (opd_I (fun _ _ h => ⟨h.1, Nat.lt_trans h.2.log (by decide)⟩) fun _ _ _ => .int _) ha hb
theorem dpow (ha : PE X a (liftE X.K Z wa)) (hb : PE X b (liftE X.K Z wb)) : PE X (.BinOp a .Pow b pos) (liftE X.K Z (dOp oPow wa wb)) := dop op_powW (opd_I (fun _ _ h => h) fun _ _ _ => .int _) ha hb
theorem opr_ltA : OpD K rLtA oLt := by
  intro _ _ g F env σ H vx vy dx dy P Q k rx ry p q
  unfold oLt at p
  split at p
  · cases rx.inv_int
    cases ry.inv_int
    exact .inl ⟨_, _, rfl, rfl, q _ _ F H p (Ex.refl F) k (.bl _)⟩
  · cases rx.inv_str
    cases ry.inv_str
    unfold strLt at p
    exact .inr ⟨_, _, rfl, rfl, q _ _ F H p (Ex.refl F) k (.bl _)⟩
  · exact p.elim
theorem opr_le : OpD K (rI0 fun i j => V.bl (decide (i ≤ j))) oLe := opd_I0 fun _ _ _ => .bl _
theorem opr_gt : OpD K (rI0 fun i j => V.bl (decide (j < i))) oGt := opd_I0 fun _ _ _ => .bl _
theorem opr_ge : OpD K (rI0 fun i j => V.bl (decide (j ≤ i))) oGe := opd_I0 fun _ _ _ => .bl _
def oNeg (x : PyData) (P : PyData → Prop) : Prop := match x with
  | .int i => P (.int (-i))
  | _ => False
theorem dneg (ha : PE X a (liftE X.K Z wa)) : PE X (.UnaryOp .USub a pos) (liftE X.K Z (dUn oNeg wa)) := dun un_neg (by
  intro _ _ g F env σ H vx dx P Q k rx p q
  unfold oNeg at p
  split at p
  · cases rx.inv_int
    exact ⟨_, rfl, q _ _ F H p (Ex.refl F) k (.int _)⟩
  · exact p.elim) ha
def oAdd (x y : PyData) (P : PyData → Prop) : Prop := match x, y with
  | .int i, .int j => P (.int (i + j))
  | .tuple xs, .tuple ys => xs.length + ys.length ≤ 100000 ∧ P (.tuple (xs ++ ys))
  | .list xs, .list ys => xs.length + ys.length ≤ 100000 ∧ P (.list (xs ++ ys))
  | .str i, .str j => i.length + j.length ≤ 100000 ∧ P (.str (i ++ j))
  | _, _ => False
theorem sz2 {n : Nat} (h : n ≤ 100000) : n ≤ sizeLine := Evl.sz_of h
/-- two lists that stand, known to the object or not -/
def rCatL (K : PySem.W.Frag) : R2 := fun x y H Q => ∃ l b xs zs, x = .ref l ∧ y = .ref b ∧ RdL K H l xs ∧ RdL K H b zs ∧ xs.length + zs.length ≤ sizeLine ∧ ∀ p, H p = none → Q (.ref p) (upd H p (.lst (xs ++ zs)))
theorem op_catL : OpR X (binaryOp .Add) (rCatL X.K) := by
  intro pins s σ H x y v u Q I rx ry h
  obtain ⟨l, b, xs, zs, rfl, rfl, hl, hb, hz, q⟩ := h
  cases rx
  cases ry
  obtain ⟨z1, its, n, r1, e1⟩ := hl.obj I
  obtain ⟨z2, its2, n2, r2, e2⟩ := hb.obj I
  have l1 := r1.length
  have l2 := r2.length
  refine PySem.P.add_list e1 e2 ?_ (by rw [List.size_toArray, List.size_toArray]; omega)
  rw [show its.toArray ++ its2.toArray = (its ++ its2).toArray by simp]
  exact ⟨.ref _, _, I.lnew (t' := s.toks) (r1.append r2) (by rw [List.length_append]; omega), rfl, q _ I.fresh⟩
def rAddD (K : PySem.W.Frag) : R2 := fun x y H Q => ((rI0 fun i j => .int (i + j)) x y H Q ∨ rCatZ K x y H Q) ∨ (rCatL K x y H Q ∨ (∃ i j, x = .str i ∧ y = .str j ∧ i.length + j.length ≤ sizeLine ∧ Q (.str (i ++ j)) H))
theorem op_addD : OpR X (binaryOp .Add) (rAddD X.K) := OpR.or (OpR.or op_add op_catZ) (OpR.or op_catL op_add_str)
theorem opd_add : OpD K (rAddD K) oAdd := by
  intro _ _ g F env σ H vx vy dx dy P Q k rx ry p q
  unfold oAdd at p
  split at p
  · cases rx.inv_int
    cases ry.inv_int
    exact .inl (.inl ⟨_, _, rfl, rfl, q _ _ F H p (Ex.refl F) k (.int _)⟩)
  · rename_i xs ys
    obtain ⟨a, us, rfl, h1, h2⟩ := rx.inv_tup
    obtain ⟨b, ws, rfl, h3, h4⟩ := ry.inv_tup
    have l1 := h2.length
    have l2 := h4.length
    refine .inl (.inr ⟨a, b, us, ws, rfl, rfl, Evl.ex_t k.fh h1, Evl.ex_t k.fh h3, by rw [l1, l2]; exact sz2 p.1, fun e => ?_, fun _ e => ?_, fun _ _ x o hx ho => ?_⟩)
    · subst e
      have : xs = [] := by cases h2; rfl
      subst this
      exact q _ _ F H p.2 (Ex.refl F) k ry
    · subst e
      have : ys = [] := by cases h4; rfl
      subst this
      rw [List.append_nil] at p
      exact q _ _ F H p.2 (Ex.refl F) k rx
    · obtain ⟨e2, k2, r2⟩ := k.newTup hx ho (h2.append h4)
      exact q _ _ _ _ p.2 e2 k2 r2
  · rename_i xs ys
    obtain ⟨a, us, rfl, h1, h2⟩ := rx.inv_lst
    obtain ⟨b, ws, rfl, h3, h4⟩ := ry.inv_lst
    have l1 := h2.length
    have l2 := h4.length
    refine .inr (.inl ⟨a, b, us, ws, rfl, rfl, h1.mono k.fh, h3.mono k.fh, by rw [l1, l2]; exact sz2 p.1, fun x hx => ?_⟩)
    obtain ⟨e2, k2, r2⟩ := k.newLst hx (h2.append h4)
    exact q _ _ _ _ p.2 e2 k2 r2
  · cases rx.inv_str
    cases ry.inv_str
    exact .inr (.inr ⟨_, _, rfl, rfl, sz2 p.1, q _ _ F H p.2 (Ex.refl F) k (.str _)⟩)
  · exact p.elim
theorem dadd (ha : PE X a (liftE X.K Z wa)) (hb : PE X b (liftE X.K Z wb)) : PE X (.BinOp a .Add b pos) (liftE X.K Z (dOp oAdd wa wb)) := dop op_addD opd_add ha hb
mutual
theorem DR.dp {K : PySem.W.Frag} {H : Hp} : ∀ {d : PyData} {v : V}, DR K H v d → PyData.hasDict d = false → Dp K H v d
  | .none, _, h, _ => by cases h; exact .non
  | .bool b, _, h, _ => by cases h; exact .bl b
  | .int i, _, h, _ => by cases h; exact .int i
  | .str x, _, h, _ => by cases h; exact .str x
  | .list ds, _, h, hd => by
    cases h with
    | lst a b => exact .lst a.sq (DRs.dp b (by simpa [PyData.hasDict] using hd))
  | .tuple ds, _, h, hd => by
    cases h with
    | tup a b => exact .tup a.sq (DRs.dp b (by simpa [PyData.hasDict] using hd))
  | .dict kvs, _, _, hd => by simp [PyData.hasDict] at hd
theorem DRs.dp {K : PySem.W.Frag} {H : Hp} : ∀ {ds : List PyData} {vs : List V}, DRs K H vs ds → PyData.hasDictAll ds = false → DpAll K H vs ds
  | [], _, h, _ => by cases h; exact .nil
  | d :: ds, _, h, hd => by
    simp only [PyData.hasDictAll, Bool.or_eq_false_iff] at hd
    cases h with
    | cons a b => exact .cons (DR.dp a hd.1) (DRs.dp b hd.2)
end
/-- == of two data, not to be looked into -/
@[irreducible] def eqD (x y : PyData) : Bool := PyData.eqv x y
theorem eqD_eq {x y : PyData} : eqD x y = PyData.eqv x y := by
  unfold eqD
  rfl
theorem eqD_int {i j : Int} : eqD (.int i) (.int j) = decide (i = j) := by
  rw [eqD_eq]
  show (i == j) = _
  rw [Bool.beq_eq_decide_eq]
def oEq (x y : PyData) (P : PyData → Prop) : Prop := match x, y with
  | .str a, .str b => P (.bool (decide (a = b)))
  | x, y => (SeqAt.shaped x = true ∧ SeqAt.shaped y = true) ∧ P (.bool (eqD x y))
def oNe (x y : PyData) (P : PyData → Prop) : Prop := match x, y with
  | .str a, .str b => P (.bool (!decide (a = b)))
  | x, y => (SeqAt.shaped x = true ∧ SeqAt.shaped y = true) ∧ P (.bool (!eqD x y))
theorem dict_of_shaped {d : PyData} (h : SeqAt.shaped d = true) : PyData.hasDict d = false := PyData.hasDict_of_canLay d (SeqAt.canLay_of_shaped h)
def rEqE (K : PySem.W.Frag) : R2 := fun x y H Q => rEq x y H Q ∨ rEqD K x y H Q
def rNeE (K : PySem.W.Frag) : R2 := fun x y H Q => rNe x y H Q ∨ rNeD K x y H Q
theorem op_eqE (hu : X.A.units + 64 < cLine) : OpR X (compareOp .Eq) (rEqE X.K) := OpR.or op_eq (op_eqD hu)
theorem op_neE (hu : X.A.units + 64 < cLine) : OpR X (compareOp .NotEq) (rNeE X.K) := OpR.or op_ne (op_neD hu)
theorem str_dec {a b : Str} : decide (V.str a = V.str b) = decide (a = b) := by
  by_cases h : a = b
  · subst h
    rw [decide_eq_true rfl, decide_eq_true rfl]
  · rw [decide_eq_false h, decide_eq_false (fun z => h (V.str.inj z))]
theorem opd_eq : OpD K (rEqE K) oEq := by
  intro _ _ g F env σ H vx vy dx dy P Q k rx ry p q
  unfold oEq at p
  split at p
  · cases rx.inv_str
    cases ry.inv_str
    refine .inl ⟨rfl, ?_⟩
    rw [str_dec]
    exact q _ _ F H p (Ex.refl F) k (.bl _)
  · obtain ⟨⟨h1, h2⟩, p⟩ := p
    rw [eqD_eq] at p
    exact .inr ⟨_, _, DR.dp (drH k rx) (dict_of_shaped h1), DR.dp (drH k ry) (dict_of_shaped h2), h1, h2, q _ _ F H p (Ex.refl F) k (.bl _)⟩
theorem opd_ne : OpD K (rNeE K) oNe := by
  intro _ _ g F env σ H vx vy dx dy P Q k rx ry p q
  unfold oNe at p
  split at p
  · cases rx.inv_str
    cases ry.inv_str
    refine .inl ⟨rfl, ?_⟩
    rw [str_dec]
    exact q _ _ F H p (Ex.refl F) k (.bl _)
  · obtain ⟨⟨h1, h2⟩, p⟩ := p
    rw [eqD_eq] at p
    exact .inr ⟨_, _, DR.dp (drH k rx) (dict_of_shaped h1), DR.dp (drH k ry) (dict_of_shaped h2), h1, h2, q _ _ F H p (Ex.refl F) k (.bl _)⟩
def oIsN (x : PyData) (P : PyData → Prop) : Prop := match x with
  | .none => P (.bool true)
  | _ => P (.bool false)
def oNotN (x : PyData) (P : PyData → Prop) : Prop := match x with
  | .none => P (.bool false)
  | _ => P (.bool true)
abbrev DN := List PyData → (PyData → Prop) → Prop
abbrev dB (f : DN) (wa : DA) (env : List SD) (P : PyData → List SD → Prop) : Prop := wa env fun xs env' => f xs fun z => P z env'
def CallD (K : PySem.W.Frag) (r : List V → Hp → VK → Prop) (f : DN) : Prop :=
  ∀ (T : List (Addr × Str)) (Z : Zx T) (g : Gx Z) (F : Hp) (env : List SD) (σ : L2.St) (H : Hp) (vs : List V) (ds : List PyData) (P : PyData → Prop) (Q : VK), Ok K g F env σ H → DRs K F vs ds → f ds P →
    (∀ d v F' H', P d → Ex F F' → Ok K g F' env σ H' → DR K F' v d → Q v H') → r vs H Q
theorem lift_call {r : List V → Hp → VK → Prop} {f : DN} {was : DA} (hd : CallD K r f) {σ : L2.St} {H : Hp} {Q : VK} (h : liftE K Z (dB f was) σ H Q) : tCB r (liftA K Z was) σ H Q := by
  obtain ⟨g, F, env, P, k, w, q⟩ := h
  refine ⟨g, F, env, _, k, w, fun ds env1 vs F1 H1 p e1 k1 r1 => ?_⟩
  exact hd _ _ g F1 env1 σ H1 vs ds _ Q k1 r1 p fun d2 v2 F2 H2 p2 e2 k2 r2 => q d2 env1 v2 F2 H2 p2 (e1.trans e2) k2 r2
theorem dcb {x : Str} {id : String} {p : Pos} {r : List V → Hp → VK → Prop} {f : DN} {was : DA} (hc : CallR X (.builtin id) r) (hd : CallD X.K r f) (hm : X.mg x = none) (hv : bootBuiltins x = some (.builtin id)) (ha : PA X (e :: es) (liftA X.K Z was))
    (hg : Gl X x := by rfl) (hn : x ≠ "__name__" := by decide) (hdb : (x == ("__debug__" : Str)) = false := by decide)
    (he : starEach (e :: es) X.env = (false, eval e X.env) :: starEach es X.env := by rfl) (hpl : (backTo pos (starEach es X.env)).any (·.1) = false := by rfl) : PE X (.Call (.Name x p) (e :: es) [] pos) (liftE X.K Z (dB f was)) :=
  PE.of (pe_callB hc hg hm hv ha hn hdb he hpl) fun _ _ _ h => lift_call hd h
theorem dct {x : Str} {T : String} {p : Pos} {r : List V → Hp → VK → Prop} {f : DN} {was : DA} (hc : CallR X (.type T) r) (hd : CallD X.K r f) (hm : X.mg x = none) (hv : bootBuiltins x = some (.type T)) (ha : PA X (e :: es) (liftA X.K Z was))
    (hg : Gl X x := by rfl) (hn : x ≠ "__name__" := by decide) (hdb : (x == ("__debug__" : Str)) = false := by decide)
    (he : starEach (e :: es) X.env = (false, eval e X.env) :: starEach es X.env := by rfl) (hpl : (backTo pos (starEach es X.env)).any (·.1) = false := by rfl) : PE X (.Call (.Name x p) (e :: es) [] pos) (liftE X.K Z (dB f was)) :=
  PE.of (pe_callTy hc hg hm hv ha hn hdb he hpl) fun _ _ _ h => lift_call hd h
variable {was : DA} {p : Pos}
/-- all whole numbers -/
def intsD : List PyData → Option (List Int)
  | [] => some []
  | .int i :: r => (intsD r).map (i :: ·)
  | _ :: _ => none
def boolsD : List PyData → Option (List Bool)
  | [] => some []
  | .bool i :: r => (boolsD r).map (i :: ·)
  | _ :: _ => none
theorem ints_rel {F : Hp} : ∀ {ds : List PyData} {vs : List V} {ns : List Int}, DRs K F vs ds → intsD ds = some ns → vs = ns.map V.int
  | [], _, _, h, e => by cases h; cases e; rfl
  | .int i :: r, _, ns, h, e => by
    cases h with
    | cons a b =>
      cases q : intsD r with
      | none => simp [intsD, q] at e
      | some ms =>
        simp only [intsD, q, Option.map_some, Option.some.injEq] at e
        subst e
        cases a.inv_int
        rw [ints_rel b q]
        rfl
  | .none :: _, _, _, _, e => by simp [intsD] at e
  | .bool _ :: _, _, _, _, e => by simp [intsD] at e
  | .str _ :: _, _, _, _, e => by simp [intsD] at e
  | .list _ :: _, _, _, _, e => by simp [intsD] at e
  | .tuple _ :: _, _, _, _, e => by simp [intsD] at e
  | .dict _ :: _, _, _, _, e => by simp [intsD] at e
theorem bools_rel {F : Hp} : ∀ {ds : List PyData} {vs : List V} {ns : List Bool}, DRs K F vs ds → boolsD ds = some ns → vs = ns.map V.bl
  | [], _, _, h, e => by cases h; cases e; rfl
  | .bool i :: r, _, ns, h, e => by
    cases h with
    | cons a b =>
      cases q : boolsD r with
      | none => simp [boolsD, q] at e
      | some ms =>
        simp only [boolsD, q, Option.map_some, Option.some.injEq] at e
        subst e
        cases a.inv_bool
        rw [bools_rel b q]
        rfl
  | .none :: _, _, _, _, e => by simp [boolsD] at e
  | .int _ :: _, _, _, _, e => by simp [boolsD] at e
  | .str _ :: _, _, _, _, e => by simp [boolsD] at e
  | .list _ :: _, _, _, _, e => by simp [boolsD] at e
  | .tuple _ :: _, _, _, _, e => by simp [boolsD] at e
  | .dict _ :: _, _, _, _, e => by simp [boolsD] at e
def nLen (xs : List PyData) (P : PyData → Prop) : Prop := match xs with
  | [.list ds] => P (.int (ds.length : Nat))
  | [.tuple ds] => P (.int (ds.length : Nat))
  | [.str x] => x.length ≤ 100000 ∧ P (.int (x.length : Nat))
  | _ => False
theorem dlen (hm : X.mg "len" = none) (ha : PA X (e :: es) (liftA X.K Z was)) (hg : Gl X "len" := by rfl)
    (he : starEach (e :: es) X.env = (false, eval e X.env) :: starEach es X.env := by rfl) (hpl : (backTo pos (starEach es X.env)).any (·.1) = false := by rfl) : PE X (.Call (.Name "len" p) (e :: es) [] pos) (liftE X.K Z (dB nLen was)) :=
  dcb call_len (fun _ _ g F env σ H vs ds P Q k r f q => by
    unfold nLen at f
    split at f
    · obtain ⟨v, rfl, r0⟩ := r.inv1
      obtain ⟨a, us, rfl, h1, h2⟩ := r0.inv_lst
      exact ⟨_, us.length, rfl, .inl ⟨us, (h1.mono k.fh).sq, rfl⟩, by rw [h2.length]; exact q _ _ F H f (Ex.refl F) k (.int _)⟩
    · obtain ⟨v, rfl, r0⟩ := r.inv1
      obtain ⟨a, us, rfl, h1, h2⟩ := r0.inv_tup
      exact ⟨_, us.length, rfl, .inr ⟨us, Evl.ex_t k.fh h1, rfl⟩, by rw [h2.length]; exact q _ _ F H f (Ex.refl F) k (.int _)⟩
    · obtain ⟨v, rfl, r0⟩ := r.inv1
      cases r0.inv_str
      exact ⟨_, _, rfl, ⟨sz2 f.1, rfl⟩, q _ _ F H f.2 (Ex.refl F) k (.int _)⟩
    · exact f.elim) hm PySem.boot_len ha hg (by decide) (by decide) he hpl
def nAbs (xs : List PyData) (P : PyData → Prop) : Prop := match xs with
  | [.int i] => P (.int (if i < 0 then -i else i))
  | _ => False
theorem dabs (hm : X.mg "abs" = none) (ha : PA X (e :: es) (liftA X.K Z was)) (hg : Gl X "abs" := by rfl)
    (he : starEach (e :: es) X.env = (false, eval e X.env) :: starEach es X.env := by rfl) (hpl : (backTo pos (starEach es X.env)).any (·.1) = false := by rfl) : PE X (.Call (.Name "abs" p) (e :: es) [] pos) (liftE X.K Z (dB nAbs was)) :=
  dcb call_abs (fun _ _ g F env σ H vs ds P Q k r f q => by
    unfold nAbs at f
    split at f
    · obtain ⟨v, rfl, r0⟩ := r.inv1
      cases r0.inv_int
      exact ⟨_, rfl, q _ _ F H f (Ex.refl F) k (.int _)⟩
    · exact f.elim) hm (by decide +kernel) ha hg (by decide) (by decide) he hpl
def nMin2 (xs : List PyData) (P : PyData → Prop) : Prop := match xs with
  | [.int i, .int j] => P (.int (if j < i then j else i))
  | _ => False
def nMax2 (xs : List PyData) (P : PyData → Prop) : Prop := match xs with
  | [.int i, .int j] => P (.int (if j > i then j else i))
  | _ => False
theorem dmin2 (hm : X.mg "min" = none) (hc : X.calm = true) (ha : PA X (e :: es) (liftA X.K Z was)) (hg : Gl X "min" := by rfl)
    (he : starEach (e :: es) X.env = (false, eval e X.env) :: starEach es X.env := by rfl) (hpl : (backTo pos (starEach es X.env)).any (·.1) = false := by rfl) : PE X (.Call (.Name "min" p) (e :: es) [] pos) (liftE X.K Z (dB nMin2 was)) :=
  dcb (call_min2 hc) (fun _ _ g F env σ H vs ds P Q k r f q => by
    unfold nMin2 at f
    split at f
    · obtain ⟨v, w, rfl, r1, r2⟩ := r.inv2
      cases r1.inv_int
      cases r2.inv_int
      exact ⟨_, _, rfl, q _ _ F H f (Ex.refl F) k (.int _)⟩
    · exact f.elim) hm (by decide +kernel) ha hg (by decide) (by decide) he hpl
theorem dmax2 (hm : X.mg "max" = none) (hc : X.calm = true) (ha : PA X (e :: es) (liftA X.K Z was)) (hg : Gl X "max" := by rfl)
    (he : starEach (e :: es) X.env = (false, eval e X.env) :: starEach es X.env := by rfl) (hpl : (backTo pos (starEach es X.env)).any (·.1) = false := by rfl) : PE X (.Call (.Name "max" p) (e :: es) [] pos) (liftE X.K Z (dB nMax2 was)) :=
  dcb (call_max2 hc) (fun _ _ g F env σ H vs ds P Q k r f q => by
    unfold nMax2 at f
    split at f
    · obtain ⟨v, w, rfl, r1, r2⟩ := r.inv2
      cases r1.inv_int
      cases r2.inv_int
      exact ⟨_, _, rfl, q _ _ F H f (Ex.refl F) k (.int _)⟩
    · exact f.elim) hm (by decide +kernel) ha hg (by decide) (by decide) he hpl
def nAll (xs : List PyData) (P : PyData → Prop) : Prop := match xs with
  | [.list ds] => (match boolsD ds with | some bs => P (.bool (bs.all id)) | none => False)
  | _ => False
def nAny (xs : List PyData) (P : PyData → Prop) : Prop := match xs with
  | [.list ds] => (match boolsD ds with | some bs => P (.bool (bs.any id)) | none => False)
  | _ => False
theorem dall (hm : X.mg "all" = none) (hc : X.calm = true) (ha : PA X (e :: es) (liftA X.K Z was)) (hg : Gl X "all" := by rfl)
    (he : starEach (e :: es) X.env = (false, eval e X.env) :: starEach es X.env := by rfl) (hpl : (backTo pos (starEach es X.env)).any (·.1) = false := by rfl) : PE X (.Call (.Name "all" p) (e :: es) [] pos) (liftE X.K Z (dB nAll was)) :=
  dcb (cr_all hc) (fun _ _ g F env σ H vs ds P Q k r f q => by
    unfold nAll at f
    split at f
    · split at f
      · rename_i bs e
        obtain ⟨v, rfl, r0⟩ := r.inv1
        obtain ⟨a, us, rfl, h1, h2⟩ := r0.inv_lst
        cases bools_rel h2 e
        exact ⟨a, bs, rfl, (h1.mono k.fh).sq, q _ _ F H f (Ex.refl F) k (.bl _)⟩
      · exact f.elim
    · exact f.elim) hm (by decide +kernel) ha hg (by decide) (by decide) he hpl
/-- isinstance(x, T), T a built-in type -/
def tyName : PyData → String
  | .none => "NoneType"
  | .bool _ => "bool"
  | .int _ => "int"
  | .str _ => "str"
  | .list _ => "list"
  | .tuple _ => "tuple"
  | .dict [] => "dict"
  | .dict ((.int _, _) :: _) => "dict"
  | .dict ((.str _, _) :: _) => "dict"
  | .dict _ => "list"
def isiB (d : PyData) (T : String) : Bool := (T == tyName d) || (T == "int" && tyName d == "bool")
theorem tyX_of0 {F : Hp} {v : V} {d : PyData} (r : DR K F v d) (hno : ∀ c, d ≠ .dict [(.none, .str c)]) : TyX K F v (.type (tyName d)) := by
  cases r with
  | exc _ _ => exact absurd rfl (hno _)

  | non => exact .base .non
  | bl b => exact .base (.bl b)
  | int i => exact .base (.int i)
  | str x => exact .base (.str x)
  | lst h _ =>
    rcases h with (h | ⟨o, h⟩) | ⟨its, n, h, _⟩
    · exact .base (.lst h)
    · exact .base (.frz h)
    · exact .kList h rfl
  | tup h _ =>
    rcases h.sq with (h | ⟨o, h⟩) | ⟨o, its, n, h, hc, _⟩
    · exact .base (.tup h)
    · exact .fTuple h
    · exact .kTuple h hc
  | dct h m => cases m <;> exact .fDict h
  | row h _ => exact .base (.lst h)
theorem tyX_of {F : Hp} {v : V} {d : PyData} (r : DR K F v d) : TyX K F v (.type (tyName d)) ∨ ∃ a c, v = .ref a ∧ d = .dict [(.none, .str c)] ∧ F a = some (.ext (ExcAt (He.ga K c) a)) ∧ XcF K c := by
  by_cases h : ∃ c, d = .dict [(.none, .str c)]
  · obtain ⟨c, rfl⟩ := h
    cases r with
    | exc h x => exact .inr ⟨_, _, rfl, rfl, h, x⟩
    | dct _ m => cases m
  · exact .inl (tyX_of0 r fun c z => h ⟨c, z⟩)
theorem kit_isi (d : PyData) : ∀ T ∈ exTypes, PySem.W.kitOne K (.type (tyName d)) (.type T) = some (isiB d T) := by
  have h : ∀ N ∈ ["NoneType", "bool", "int", "str", "list", "tuple", "dict"], ∀ T ∈ exTypes, kitB N T = some ((T == N) || (T == "int" && N == "bool")) := by decide +kernel
  intro T hT
  exact kit_ty (h (tyName d) (by unfold tyName; split <;> simp) T hT)
/-- isinstance(e, c), e a caught refusal -/
def rIsE1 (K : PySem.W.Frag) : List V → Hp → VK → Prop := fun xs H Q => ∃ (a C : Addr) (c : V) (u : Value) (b : Bool), xs = [.ref a, c] ∧ ClsV c u ∧ H a = some (.ext (ExcAt C a)) ∧ ExcC K C ∧ PySem.W.kitOne K (.ref C) u = some b ∧ Q (.bl b) H
theorem exc_inst {H : Hp} {s : Shared} {σ : L2.St} {pins : List (Addr × Obj)} {a C : Addr} (I : Inv X pins σ H s) (h : H a = some (.ext (ExcAt C a))) : ∃ oe, PySem.W.InstAt s.heap a oe C none := by
  obtain ⟨⟨oe, vs, h1, h2, h3, h4⟩, _⟩ := (show ObjOk X.prog X.w H s.heap a (.ext (ExcAt C a)) from I.hok a _ h)
  obtain ⟨oc, od, oda, osl⟩ := oe
  dsimp only at h2 h3 h4
  subst h2 h3 h4
  exact ⟨_, h1, rfl, rfl, trivial⟩
theorem call_isE1 : CallR X (.builtin "isinstance") (rIsE1 X.K) := by
  intro pins s σ H xs us Q I r h
  obtain ⟨a, C, c, u, b, rfl, k, hH, x, e, q⟩ := h
  obtain ⟨u1, u2, rfl, r1, r2⟩ := vals2 r
  have e2 := k.eq r2
  subst e2
  cases (show u1 = Value.ref a from r1)
  obtain ⟨oe, J⟩ := exc_inst I hH
  exact PySem.W.kia_one (PySem.W.handS_kitx_exc x.hg x.hk x.hs x.hd x.ha x.hn x.ht x.hm) I.kIn J e (fun z => nomatch z) fun tk => ⟨.bl b, H, I.tok tk, rfl, q⟩
theorem CallR.or {f : Value} {r r' : List V → Hp → VK → Prop} (h : CallR X f r) (h' : CallR X f r') : CallR X f (fun xs H Q => r xs H Q ∨ r' xs H Q) := by
  intro pins s σ H xs us Q I rv q
  rcases q with q | q
  · exact h pins s σ H xs us Q I rv q
  · exact h' pins s σ H xs us Q I rv q
abbrev dIsi (T : String) (wa : DE) (env : List SD) (P : PyData → List SD → Prop) : Prop := wa env fun d env' => P (.bool (isiB d T)) env'
theorem disi (T : String) (xT : Str) {p q2 : Pos} (hm : X.mg "isinstance" = none) (hmT : X.mg xT = none) (hvT : bootBuiltins xT = some (.type T)) (hT : T ∈ exTypes) (ha : PE X a (liftE X.K Z wa)) (hg : Gl X "isinstance" := by rfl) (hgT : Gl X xT := by rfl)
    (hnT : xT ≠ "__name__" := by decide) (hdT : (xT == ("__debug__" : Str)) = false := by decide)
    (hs1 : starEach [a, .Name xT q2] X.env = (false, eval a X.env) :: starEach [.Name xT q2] X.env := by rfl) (hs2 : starEach [.Name xT q2] X.env = (false, eval (.Name xT q2) X.env) :: starEach [] X.env := by rfl)
    (hpl : (backTo pos (starEach [Expr.Name xT q2] X.env)).any (·.1) = false := by rfl) : PE X (.Call (.Name "isinstance" p) [a, .Name xT q2] [] pos) (liftE X.K Z (dIsi T wa)) :=
  PE.of (pe_callB (call_isi.or call_isE1) hg hm (by decide +kernel) (pa_cons ha (pa_cons (pe_bltn (v := .ty T) hgT hmT hvT rfl hnT hdT) pa_nil hs2) hs1) (by decide) (by decide) hs1 hpl) fun σ H Q h => by
    obtain ⟨g, F, env, P, k, w, q⟩ := h
    refine ⟨g, F, env, _, k, w, fun d env1 v F1 H1 p e1 k1 r1 => ?_⟩
    rcases tyX_of (drH k1 r1) with ty | ⟨a, c, rfl, rfl, hx, x⟩
    · exact .inl ⟨v, .ty T, _, _, _, rfl, .ty T, ty, kit_isi d T hT, q _ env1 _ F1 H1 p e1 k1 (.bl _)⟩
    · refine .inr ⟨a, _, .ty T, _, false, rfl, .ty T, hx, x.cls, x.six T hT, ?_⟩
      have e : isiB (.dict [(.none, .str c)]) T = false := by
        have : ∀ T ∈ exTypes, isiB (.dict [(.none, .str c)]) T = false := by
          intro T hT
          simp only [exTypes, List.mem_cons, List.not_mem_nil, or_false] at hT
          rcases hT with rfl | rfl | rfl | rfl | rfl <;> rfl
        exact this T hT
      rw [e] at p
      exact q _ env1 _ F1 H1 p e1 k1 (.bl _)
end
end DL

namespace DL
variable {T : List (PySem.Addr × PySem.Str)} {Z : Zx T}
open PySem PySem.Spec PyProof.Rows L2
open Evl (Ex)

abbrev DSp := List SD → (SD → List SD → Prop) → Prop
structure ArgsOk (T : List (Addr × Str)) (K : PySem.W.Frag) (F H : Hp) (vs : List V) (as : List SD) : Prop where
  len : as.length = vs.length
  fh : Ex F H
  dat : ∀ (i : Nat) (d : PyData), as[i]? = some (.dat d) → ∃ v, vs[i]? = some v ∧ DR K F v d
  cel : ∀ (i : Nat) (p : Bool) (xs : List PyData), as[i]? = some (.cel p xs) → p = true ∧ ∃ a us, vs[i]? = some (.ref a) ∧ F a = none ∧ H a = some (.lst us) ∧ DRs K F us xs
  sep : ∀ (i j : Nat) (p q : Bool) (xs ys : List PyData) (a : Addr), as[i]? = some (.cel p xs) → as[j]? = some (.cel q ys) → vs[i]? = some (.ref a) → vs[j]? = some (.ref a) → i = j
  nod : ∀ (i : Nat) (w : Own), as[i]? ≠ some (.dic w)
  tab : LamX.Tabs T H
  nt : ∀ a ps, F a ≠ some (.tbl ps)
structure PostOk (T : List (Addr × Str)) (K : PySem.W.Frag) (F H : Hp) (vs : List V) (as : List SD) (F' H' : Hp) (as' : List SD) (v : V) (r : SD) : Prop where
  ex : Ex F F'
  nt : ∀ a ps, F' a ≠ some (.tbl ps)
  fh : Ex F' H'
  newF : ∀ (a : Addr) (o : HO), F' a = some o → F a = some o ∨ H a = none
  frame : Frm T H (fun a => ∀ (i : Nat) (p : Bool) (xs : List PyData), as[i]? = some (.cel p xs) → vs[i]? ≠ some (.ref a)) H'
  cel : ∀ (i : Nat) (p : Bool) (xs : List PyData) (a : Addr), as[i]? = some (.cel p xs) → vs[i]? = some (.ref a) → ∃ ys us, as'[i]? = some (.cel true ys) ∧ F' a = none ∧ H' a = some (.lst us) ∧ DRs K F' us ys
  res : match r with
    | .un => False
    | .dat d => DR K F' v d
    | .cel _ xs => ∃ a us, v = .ref a ∧ F' a = none ∧ H' a = some (.lst us) ∧ DRs K F' us xs ∧ H a = none
    | .dic _ => False
def spD (T : List (Addr × Str)) (K : PySem.W.Frag) (S : DSp) (vs : List V) (H : Hp) (Q : VK) : Prop := ∃ (F : Hp) (as : List SD) (P : SD → List SD → Prop), ArgsOk T K F H vs as ∧ S as P ∧
  ∀ r as' v F' H', P r as' → PostOk T K F H vs as F' H' as' v r → Q v H'
/-- the def at f keeps its promise of data; n: its parameters; it raises nothing -/
structure FnG (P : Program) (w : World) (K : PySem.W.Frag) (mg : Str → Option Value) (base : Heap) (T : List (Addr × Str)) (k : Nat) (f : Addr) (fd : FuncData) (ps : List Str) (S : DSp) : Prop where
  len : ∀ as Q, S as Q → as.length = ps.length
  go : ∀ (A : Around) (outer : List Env) (s : Shared) (H : Hp) (args : Args) (us : List Value) (vs : List V) (Q : VK), Room k A → A.guards = some [] → Env0 P w K mg base A outer s H →
    BindsTo s fd args (ps.zip us) → Vals vs us → spD T K S vs H Q → codeAny (model P w) A (.call (.ref f) args) (CR CX0 outer P w H s Q E0) s
theorem FnG.mono {P : Program} {w : World} {K : PySem.W.Frag} {mg : Str → Option Value} {base : Heap} {j k : Nat} {f : Addr} {fd : FuncData} {ps : List Str} {S : DSp} (F : FnG P w K mg base T j f fd ps S) (h : j ≤ k) : FnG P w K mg base T k f fd ps S :=
  ⟨F.len, fun A outer s H args us vs Q hr => F.go A outer s H args us vs Q (hr.mono h)⟩
/-- another promise, that follows -/
theorem FnG.imp {P : Program} {w : World} {K : PySem.W.Frag} {mg : Str → Option Value} {base : Heap} {k : Nat} {f : Addr} {fd : FuncData} {ps : List Str} {S S' : DSp} (F : FnG P w K mg base T k f fd ps S) (h : ∀ as Q, S' as Q → S as Q) : FnG P w K mg base T k f fd ps S' :=
  ⟨fun as Q q => F.len as Q (h _ _ q), fun A outer s H args us vs Q hr hg e hb r ⟨F0, as, P, a1, a2, a3⟩ => F.go A outer s H args us vs Q hr hg e hb r ⟨F0, as, P, a1, h _ _ a2, a3⟩⟩
section
variable {K : PySem.W.Frag} {g : Gx Z} {F F' : Hp} {env : List SD} {σ : L2.St} {H H' : Hp}
/-- behind a call without cells -/
theorem Ok.after (k : Ok K g F env σ H) {vs : List V} {as as' : List SD} {v : V} {r : SD} (hc : ∀ (i : Nat) (p : Bool) (xs : List PyData), as[i]? ≠ some (.cel p xs)) (p : PostOk T K F H vs as F' H' as' v r) : Ok K g F' env σ H' ∧ ResOk K g F' env σ H' v r := by
  have fr : ∀ (a : Addr) (o : HO), H a = some o → Sty o (H' a) := fun a o e => p.frame.stay a o e fun i q xs z => absurd z (hc i q xs)
  have keepN : ∀ (a : Addr) (o : HO), H a = some o → F a = none → F' a = none := fun a o e n => by
    cases q : F' a with
    | none => rfl
    | some u =>
      rcases p.newF a u q with z | z
      · rw [n] at z; cases z
      · rw [e] at z; cases z
  refine ⟨⟨k.len, p.fh, fun i d e => ?_, fun i q xs e => ?_, k.sep, k.pin, k.frame.trans p.frame fun a o e n i q xs z => absurd z (hc i q xs), fun a o e => ?_, ⟨fun a o e => p.ex a o (k.oldF.1 a o e), p.nt⟩, fun a o e => ?_, (k.dic.keep p.ex (fun _ _ _ z => z) fun a ys e n => ⟨keepN a _ e n, (fr a _ e).ext.trans e.symm⟩)⟩, ?_⟩
  · obtain ⟨u, h1, h2⟩ := k.dat i d e
    exact ⟨u, h1, h2.mono p.ex⟩
  · obtain ⟨a, us, h1, h2, h3, h4, h5⟩ := k.cel i q xs e
    exact ⟨a, us, h1, keepN a _ h3 h2, (fr a _ h3).lst, h4.mono p.ex, h5⟩
  · rcases p.newF a o e with z | z
    · exact k.newF a o z
    · exact .inr (k.fresh0 z)
  · obtain ⟨z1, z2, z3⟩ := k.prot a o e
    exact ⟨(fr a _ z1).same (g.pl a o e), keepN a _ z1 z2, z3⟩
  · have pr := p.res
    cases r with
    | un => exact pr
    | dat d => exact pr
    | dic kvs => exact pr.elim
    | cel b xs =>
      obtain ⟨a, us, h1, h2, h3, h4, h5⟩ := pr
      refine ⟨a, us, h1, h2, h3, h4, k.fresh0 h5, ?_, fun j q ys e z => ?_⟩
      · cases e : g.Pr a with
        | none => rfl
        | some u =>
          have z := (k.prot a u e).1
          rw [h5] at z
          cases z
      · obtain ⟨a', ws, z1, _, z3, _⟩ := k.cel j q ys e
        rw [z] at z1
        cases z1
        rw [h5] at z3
        cases z3
/-- behind a call whose first argument is the cell of the name i -/
theorem Ok.afterC (k : Ok K g F env σ H) {i : Nat} {p : Bool} {xs : List PyData} {a : Addr} {vs : List V} {ds : List PyData} {as' : List SD} {v : V} {r : SD} (he : env[i]? = some (.cel p xs)) (hs : σ[i]? = some (some (.ref a)))
    (q : PostOk T K F H (.ref a :: vs) (.cel true xs :: ds.map .dat) F' H' as' v r) : ∃ ys rest, as' = .cel true ys :: rest ∧ Ok K g F' (env.set i (.cel p ys)) σ H' ∧ ResOk K g F' (env.set i (.cel p ys)) σ H' v r := by
  obtain ⟨a0, us0, b1, b2, b3, b4, b5, b6⟩ := k.cel i p xs he
  rw [hs] at b1
  cases b1
  obtain ⟨ys, us, c1, c2, c3, c4⟩ := q.cel 0 true xs a rfl rfl
  obtain ⟨rest, rfl⟩ : ∃ rest, as' = .cel true ys :: rest := by
    cases as' with
    | nil => simp at c1
    | cons x rest => simp at c1; subst c1; exact ⟨rest, rfl⟩
  have nc : ∀ (b : Addr), b ≠ a → ∀ (j : Nat) (p' : Bool) (xs' : List PyData), (SD.cel true xs :: ds.map SD.dat)[j]? = some (.cel p' xs') → (V.ref a :: vs)[j]? ≠ some (.ref b) := fun b ne j p' xs' z z2 => by
    cases j with
    | zero => simp at z2; exact ne z2.symm
    | succ j =>
      simp only [List.getElem?_cons_succ, List.getElem?_map] at z
      cases y : ds[j]? with
      | none => rw [y] at z; cases z
      | some d => rw [y] at z; cases z
  have fr : ∀ (b : Addr) (o : HO), H b = some o → b ≠ a → Sty o (H' b) := fun b o e ne => q.frame.stay b o e (nc b ne)
  have keepN : ∀ (b : Addr) (o : HO), H b = some o → F b = none → F' b = none := fun b o e n => by
    cases y : F' b with
    | none => rfl
    | some u =>
      rcases q.newF b u y with z | z
      · rw [n] at z; cases z
      · rw [e] at z; cases z
  have oth : ∀ {j : Nat} {p' : Bool} {zs : List PyData}, (env.set i (SD.cel p ys))[j]? = some (.cel p' zs) → ∃ p2 z2, env[j]? = some (.cel p2 z2) := fun {j p' zs} z => by
    rcases get_set z with ⟨rfl, _⟩ | ⟨_, z⟩
    · exact ⟨_, _, he⟩
    · exact ⟨_, _, z⟩
  refine ⟨ys, rest, rfl, ⟨by simp [k.len], q.fh, fun j d e => ?_, fun j p' zs e => ?_, fun j l p1 p2 z1 z2 c h1 h2 h3 h4 => ?_, fun j b e => ?_, k.frame.trans q.frame (fun b o e n => nc b ?_), fun b o e => ?_, ⟨fun b o e => q.ex b o (k.oldF.1 b o e), q.nt⟩, fun b o e => ?_, ((k.dic.setE (i := i) (x := .cel p ys) fun _ z => by cases z).keep q.ex (fun _ _ _ z => z) fun b zs e n => ⟨keepN b _ e n, (fr b _ e fun z => by rw [z, b3] at e; cases e).ext.trans e.symm⟩)⟩, ?_⟩
  · rcases get_set e with ⟨_, z⟩ | ⟨_, z⟩
    · cases z
    · obtain ⟨u, h1, h2⟩ := k.dat j d z
      exact ⟨u, h1, h2.mono q.ex⟩
  · rcases get_set e with ⟨rfl, z⟩ | ⟨n, z⟩
    · cases z
      exact ⟨a, us, hs, c2, c3, c4, b5, b6⟩
    · obtain ⟨b, ws, h1, h2, h3, h4, h5⟩ := k.cel j _ zs z
      have ne : b ≠ a := fun y => by
        subst y
        exact n (k.sep i j _ _ _ _ b he z hs h1)
      exact ⟨b, ws, h1, keepN b _ h3 h2, (fr b _ h3 ne).lst, h4.mono q.ex, h5⟩
  · obtain ⟨_, _, f1⟩ := oth h1
    obtain ⟨_, _, f2⟩ := oth h2
    exact k.sep j l _ _ _ _ c f1 f2 h3 h4
  · obtain ⟨zs, z⟩ := k.pin j b e
    by_cases n : i = j
    · subst n
      rw [he] at z
      cases z
      exact ⟨ys, set_eq he⟩
    · exact ⟨zs, by rw [set_ne n]; exact z⟩
  · intro z
    subst z
    cases p with
    | true => exact n i (b5 rfl)
    | false =>
      rw [b6 rfl] at e
      cases e
  · rcases q.newF b o e with z | z
    · exact k.newF b o z
    · exact .inr (k.fresh0 z)
  · obtain ⟨z1, z2, z3⟩ := k.prot b o e
    have ne : b ≠ a := fun z => by
      subst z
      exact z3 i p xs he hs
    refine ⟨(fr b _ z1 ne).same (g.pl b o e), keepN b _ z1 z2, fun j p' zs e' => ?_⟩
    obtain ⟨_, _, f1⟩ := oth e'
    exact z3 j _ _ f1
  · have pr := q.res
    cases r with
    | un => exact pr
    | dat d => exact pr
    | dic kvs => exact pr.elim
    | cel b xs2 =>
      obtain ⟨c, ws, h1, h2, h3, h4, h5⟩ := pr
      refine ⟨c, ws, h1, h2, h3, h4, k.fresh0 h5, ?_, fun j p' zs e z => ?_⟩
      · cases e : g.Pr c with
        | none => rfl
        | some u =>
          have z := (k.prot c u e).1
          rw [h5] at z
          cases z
      · obtain ⟨_, _, f1⟩ := oth e
        obtain ⟨a', ws', z1, _, z3, _⟩ := k.cel j _ _ f1
        rw [z] at z1
        cases z1
        rw [h5] at z3
        cases z3
theorem args_dat (hf : Ex F H) (tb : LamX.Tabs T H) (nt : ∀ a ps, F a ≠ some (.tbl ps)) {vs : List V} {ds : List PyData} (r : DRs K F vs ds) : ArgsOk T K F H vs (ds.map .dat) where
  len := by rw [List.length_map]; exact r.length.symm
  fh := hf
  dat := fun i d e => by
    rw [List.getElem?_map] at e
    cases q : ds[i]? with
    | none => rw [q] at e; cases e
    | some x =>
      rw [q] at e
      cases e
      exact r.get q
  cel := fun i p xs e => by
    rw [List.getElem?_map] at e
    cases q : ds[i]? with
    | none => rw [q] at e; cases e
    | some x => rw [q] at e; cases e
  sep := fun i j p q xs ys a e => by
    rw [List.getElem?_map] at e
    cases q : ds[i]? with
    | none => rw [q] at e; cases e
    | some x => rw [q] at e; cases e
  nod := fun i kvs e => by
    rw [List.getElem?_map] at e
    cases q : ds[i]? with
    | none => rw [q] at e; cases e
    | some x => rw [q] at e; cases e
  tab := tb
  nt := nt
theorem no_cel {ds : List PyData} (i : Nat) (p : Bool) (xs : List PyData) : (ds.map SD.dat)[i]? ≠ some (.cel p xs) := fun e => by
  rw [List.getElem?_map] at e
  cases q : ds[i]? with
  | none => rw [q] at e; cases e
  | some x => rw [q] at e; cases e
theorem args_cel (hf : Ex F H) (tb : LamX.Tabs T H) (nt : ∀ a ps, F a ≠ some (.tbl ps)) {a : Addr} {us : List V} {xs : List PyData} {vs : List V} {ds : List PyData} (hF : F a = none) (hH : H a = some (.lst us)) (rx : DRs K F us xs) (r : DRs K F vs ds) : ArgsOk T K F H (.ref a :: vs) (.cel true xs :: ds.map .dat) := by
  have b := args_dat hf tb nt r
  refine ⟨by simp [r.length], hf, fun i d e => ?_, fun i p zs e => ?_, fun i j p q zs ys c e1 e2 _ _ => ?_, fun i kvs e => ?_, tb, nt⟩
  · cases i with
    | zero => simp at e
    | succ i =>
      obtain ⟨v, h1, h2⟩ := b.dat i d (by simpa using e)
      exact ⟨v, by simpa using h1, h2⟩
  · cases i with
    | zero =>
      simp at e
      obtain ⟨rfl, rfl⟩ := e
      exact ⟨rfl, a, us, rfl, hF, hH, rx⟩
    | succ i => exact absurd (by simpa using e) (no_cel (ds := ds) i p zs)
  · cases i with
    | succ i => exact absurd (by simpa using e1) (no_cel (ds := ds) i p zs)
    | zero =>
      cases j with
      | zero => rfl
      | succ j => exact absurd (by simpa using e2) (no_cel (ds := ds) j q ys)
  · cases i with
    | zero => simp at e
    | succ i => exact b.nod i kvs (by simpa using e)
end

section
variable {X : Cx} {k : Nat} {f : Addr} {fd : FuncData} {ps : List Str} {S : DSp} {x : Str} {p pos : Pos} {e : Expr} {es : List Expr} {was : DA}
/-- the callee runs -/
theorem run_g {pins : List (Addr × Obj)} {σ : L2.St} {H : Hp} {s : Shared} {Q : VK} {us : List Value} {vs : List V} (G : FnG X.prog X.w X.K X.mg X.base T k f fd ps S) (hr : Room k X.A) (hg : X.A.guards = some []) (hb : Binds X.K fd ps [])
    (I : Inv X pins σ H s) (r : Vals vs us) (h : spD T X.K S vs H Q) : wpAny (model X.prog X.w) X.A (call (.ref f) us) (EP X pins σ Q) X.xe s := by
  obtain ⟨F0, as, P, a1, a2, a3⟩ := id h
  have hl : (us ++ ([] : List Value)).length = ps.length := by rw [List.append_nil, ← r.length, ← a1.len]; exact G.len _ _ a2
  have hbb := hb s us I.kIn hl
  rw [List.append_nil] at hbb
  refine wpAny_call (codeAny_mono (G.go X.A X.stack s H ⟨us, []⟩ us vs Q hr hg I.env0 hbb r h) fun res s' hq => ?_)
  match res, hq with
  | .error e, hq => exact hq.elim
  | .ok (.ret u), hq => exact I.after hq
  | .ok .next, hq => exact hq.elim
  | .ok .brk, hq => exact hq.elim
  | .ok .cont, hq => exact hq.elim
/-- f(..), all arguments data -/
abbrev dCall (S : DSp) (was : DA) (env : List SD) (P : SD → List SD → Prop) : Prop := was env fun ds env1 => S (ds.map .dat) fun r _ => P r env1
theorem dcall (G : FnG X.prog X.w X.K X.mg X.base T k f fd ps S) (hr : Room k X.A) (hA : X.A.guards = some []) (hm : X.mg x = some (.ref f)) (hk : PySem.W.keepIn X.K (.ref f) = true) (hb : Binds X.K fd ps [])
    (ha : PA X (e :: es) (liftA X.K Z was)) (hg : Gl X x := by rfl) (hdb : (x == ("__debug__" : Str)) = false := by decide)
    (he : starEach (e :: es) X.env = (false, eval e X.env) :: starEach es X.env := by rfl) (hpl : (backTo pos (starEach es X.env)).any (·.1) = false := by rfl) : PE X (.Call (.Name x p) (e :: es) [] pos) (liftX X.K Z (dCall S was)) := by
  refine ⟨fun pins s σ H Q I ⟨g, F, env, P, k0, w, q⟩ => wpAny_Call_Name_kw (ld_glob I hg hm (PySem.W.callWith_K (h₀ := X.base) I.ok.mod.kin hk (thn (ha.run pos pins s σ H (spD T X.K S · · Q) I ?_) fun us s1 ⟨vs, H1, I1, r, q1⟩ => ⟨I1.kIn, run_g G hr hA hb I1 r q1⟩) he hpl) hdb)⟩
  refine ⟨g, F, env, _, k0, w, fun ds env1 vs F1 H1 p1 e1 k1 r1 => ⟨F1, ds.map .dat, _, args_dat k1.fh k1.frame.tab k1.oldF.2 r1, p1, fun r as' v F2 H2 p2 po => ?_⟩⟩
  obtain ⟨k2, r2⟩ := k1.after no_cel po
  exact q r env1 v F2 H2 p2 (e1.trans po.ex) k2 r2
/-- f(x, ..), x the name i's own cell, which f may change -/
abbrev dCallC (S : DSp) (i : Nat) (was : DA) (env : List SD) (P : SD → List SD → Prop) : Prop := match env[i]? with
  | some (.cel _ _) => was env fun ds env1 => match env1[i]? with
    | some (.cel p xs) => S (.cel true xs :: ds.map .dat) fun r as' => match as' with
      | .cel _ ys :: _ => P r (env1.set i (.cel p ys))
      | _ => False
    | _ => False
  | _ => False
theorem dcallC (i : Nat) {y : Str} {p0 : Pos} (G : FnG X.prog X.w X.K X.mg X.base T k f fd ps S) (hr : Room k X.A) (hA : X.A.guards = some []) (hm : X.mg x = some (.ref f)) (hk : PySem.W.keepIn X.K (.ref f) = true) (hb : Binds X.K fd ps [])
    (ha : PA X es (liftA X.K Z was)) (hN : X.N[i]? = some y := by rfl) (hv : Vis X.env.scope y := by first | exact Or.inl rfl | exact Or.inr (Or.inl rfl) | exact Or.inr (Or.inr rfl)) (hd : (y == ("__debug__" : Str)) = false := by decide)
    (hcd : (y == ("__classdict__" : Str)) = false := by decide) (hg : Gl X x := by rfl) (hdb : (x == ("__debug__" : Str)) = false := by decide)
    (he : starEach (.Name y p0 :: es) X.env = (false, eval (.Name y p0) X.env) :: starEach es X.env := by rfl) (hpl : (backTo pos (starEach es X.env)).any (·.1) = false := by rfl) :
    PE X (.Call (.Name x p) (.Name y p0 :: es) [] pos) (liftX X.K Z (dCallC S i was)) := by
  refine ⟨fun pins s σ H Q I ⟨g, F, env, P, k0, w, q⟩ => wpAny_Call_Name_kw (ld_glob I hg hm (PySem.W.callWith_K (h₀ := X.base) I.ok.mod.kin hk (thn ((pa_cons (pe_var hN hv hd hcd) ha he).run pos pins s σ H (spD T X.K S · · Q) I ?_) fun us s1 ⟨vs, H1, I1, r, q1⟩ => ⟨I1.kIn, run_g G hr hA hb I1 r q1⟩) he hpl) hdb)⟩
  unfold dCallC at w
  split at w
  · rename_i p' xs' e0
    obtain ⟨a0, us0, b1, _⟩ := k0.cel i p' xs' e0
    refine ⟨_, b1, g, F, env, _, k0, w, fun ds env1 vs F1 H1 p1 e1 k1 r1 => ?_⟩
    split at p1
    · rename_i p2 xs ex
      obtain ⟨a1, us1, c1, c2, c3, c4, _⟩ := k1.cel i p2 xs ex
      rw [b1] at c1
      cases c1
      refine ⟨F1, _, _, args_cel k1.fh k1.frame.tab k1.oldF.2 c2 c3 c4 r1, p1, fun r as' v F2 H2 p3 po => ?_⟩
      obtain ⟨ys, rest, rfl, k2, r2⟩ := k1.afterC ex b1 po
      exact q r _ v F2 H2 p3 (e1.trans po.ex) k2 r2
    · exact p1.elim
  · exact w.elim
end

structure DEnds where
  nx : List SD → Prop
  rt : SD → List SD → Prop
  bk : List SD → Prop := fun _ => False
  ct : List SD → Prop := fun _ => False
  nol : Bool := false
abbrev DS := DEnds → List SD → Prop
structure Ends4 (K : PySem.W.Frag) (m : Nat) (g : Gx Z) (F : Hp) (P : DEnds) (D : Ends) : Prop where
  nx : ∀ env' σ' F' H', P.nx env' → Ex F F' → Ok K g F' env' σ' H' → D.nx σ' H'
  bk : ∀ env' σ' F' H', P.bk env' → Ex F F' → Ok K g F' env' σ' H' → D.bk σ' H'
  ct : ∀ env' σ' F' H', P.ct env' → Ex F F' → Ok K g F' env' σ' H' → D.ct σ' H'
  rt : ∀ r env' v σ' F' H', P.rt r (env'.take m) → Ex F F' → Ok K g F' env' σ' H' → ResOk K g F' env' σ' H' v r → D.rt v H'
/-- P.nol: no list stood at the def's begin -/
structure EndsOk (K : PySem.W.Frag) (m : Nat) (g : Gx Z) (F : Hp) (P : DEnds) (D : Ends) : Prop extends Ends4 K m g F P D where
  free : P.nol = true → (∀ a, g.F0 a = none) ∧ ∀ F', Ends4 K m g F' P D
theorem EndsOk.any {K : PySem.W.Frag} {m : Nat} {g : Gx Z} {F : Hp} {P : DEnds} {D : Ends} (h : EndsOk K m g F P D) (n : P.nol = true) (F' : Hp) : EndsOk K m g F' P D := ⟨(h.free n).2 F', h.free⟩
theorem EndsOk.mk4 {K : PySem.W.Frag} {m : Nat} {g : Gx Z} {F : Hp} {P : DEnds} {D : Ends} (h : Ends4 K m g F P D) (n : P.nol = false) : EndsOk K m g F P D := ⟨h, fun z => by rw [n] at z; cases z⟩
def liftS (K : PySem.W.Frag) (Z : Zx T) (m : Nat) (w : DS) : TS := fun D σ H => ∃ (g : Gx Z) (F : Hp) (env : List SD) (P : DEnds), Ok K g F env σ H ∧ w P env ∧ EndsOk K m g F P D
theorem EndsOk.ex {K : PySem.W.Frag} {m : Nat} {g : Gx Z} {F F' : Hp} {P : DEnds} {D : Ends} (h : EndsOk K m g F P D) (e : Ex F F') : EndsOk K m g F' P D :=
  ⟨⟨fun a b c d p x => h.nx a b c d p (e.trans x), fun a b c d p x => h.bk a b c d p (e.trans x), fun a b c d p x => h.ct a b c d p (e.trans x), fun a b c d f g' p x => h.rt a b c d f g' p (e.trans x)⟩, h.free⟩
section
variable {X : Cx} {st : Stmt} {sts : List Stmt} {w w2 : DS} {m : Nat} {e : Expr} {we : DE} {wx : DX} {pos : Pos}
abbrev dNext (E : DEnds) (env : List SD) : Prop := E.nx env
abbrev dSeq (w w2 : DS) (E : DEnds) (env : List SD) : Prop := w { E with nx := w2 E } env
theorem snil : PSs X [] (liftS X.K Z m dNext) := PSs.of pss_nil fun D σ H ⟨g, F, env, P, k, w, q⟩ => q.nx env σ F H w (Ex.refl F) k
theorem scons (h1 : PS X st (liftS X.K Z m w)) (h2 : PSs X sts (liftS X.K Z m w2)) : PSs X (st :: sts) (liftS X.K Z m (dSeq w w2)) := PSs.of (pss_cons h1 h2) fun D σ H ⟨g, F, env, P, k, w, q⟩ =>
  ⟨g, F, env, _, k, w, ⟨⟨fun env' σ' F' H' p e k' => ⟨g, F', env', P, k', p, q.ex e⟩, q.bk, q.ct, q.rt⟩, fun n => ⟨(q.free n).1, fun F2 => ⟨fun env' σ' F' H' p e k' => ⟨g, F', env', P, k', p, q.any n F'⟩, ((q.free n).2 F2).bk, ((q.free n).2 F2).ct, ((q.free n).2 F2).rt⟩⟩⟩⟩
theorem sone (h1 : PS X st (liftS X.K Z m w)) : PSs X [st] (liftS X.K Z m w) := pss_one h1
/-- a name that is no parameter's cell -/
def npB : SD → Bool
  | .cel true _ => false
  | _ => true
def noPar (env : List SD) (i : Nat) : Bool := match env[i]? with
  | some r => npB r
  | none => true
theorem noPar_of {env : List SD} {i : Nat} (h : noPar env i = true) : NoPar env i := fun xs e => by
  unfold noPar at h
  rw [e] at h
  cases h
theorem Ok.setR {K : PySem.W.Frag} {g : Gx Z} {F : Hp} {env : List SD} {σ : L2.St} {H : Hp} {i : Nat} {v : V} {r : SD} (k : Ok K g F env σ H) (hp : noPar env i = true) (h : ResOk K g F env σ H v r) (hr : ∀ xs, r ≠ .cel true xs) : Ok K g F (env.set i r) (σ.set i (some v)) H := by
  cases r with
  | un => exact h.elim
  | dat d => exact k.setD (noPar_of hp) h
  | cel b xs =>
    obtain ⟨a, vs, rfl, h1, h2, h3, h4, h5, h6⟩ := h
    cases b with
    | true => exact absurd rfl (hr xs)
    | false => exact k.setC (noPar_of hp) h1 h2 h3 h4 h5 h6
  | dic kvs => exact h.elim
/-- what a new cell is called -/
def asOwn : SD → SD
  | .cel _ xs => .cel false xs
  | r => r
theorem res_own {K : PySem.W.Frag} {g : Gx Z} {F : Hp} {env : List SD} {σ : L2.St} {H : Hp} {v : V} {r : SD} (h : ResOk K g F env σ H v r) : ResOk K g F env σ H v (asOwn r) := by
  cases r <;> exact h
theorem own_ne {r : SD} (xs : List PyData) : asOwn r ≠ .cel true xs := by
  cases r <;> (intro h; cases h)
/-- name = e -/
abbrev dSet (i : Nat) (wx : DX) (E : DEnds) (env : List SD) : Prop := wx env fun r env1 => bIf (noPar env1 i) (E.nx (env1.set i (asOwn r))) False
theorem sset (i : Nat) {x : Str} {pos' : Pos} (hN : X.N.Nodup) (he : PE X e (liftX X.K Z wx)) (hi : X.N[i]? = some x := by rfl) (hx : Loc X.env.scope x := by first | exact Or.inl rfl | exact Or.inr rfl) (hs : swapsWith e (some (.Name x pos')) pos.line X.env = pure false := by rfl)
    (hf : X.fn x = true ∨ X.env.scope.names.lookup x = some .local := by first | exact .inl rfl | exact .inr rfl) : PS X (.Assign [.Name x pos'] e pos) (liftS X.K Z m (dSet i wx)) := PS.of (ps_set hN hi hx he hs hf) fun D σ H ⟨g, F, env, P, k, w, q⟩ =>
  ⟨g, F, env, _, k, w, fun r env1 v F1 H1 p e1 k1 r1 => q.nx _ _ F1 H1 (bIf_and p).2 e1 (k1.setR (bIf_and p).1 (res_own r1) own_ne)⟩
/-- return e -/
abbrev dRet (m : Nat) (wx : DX) (E : DEnds) (env : List SD) : Prop := wx env fun r env1 => E.rt (asOwn r) (env1.take m)
theorem sret (he : PE X e (liftX X.K Z wx)) : PS X (.Return (some e) pos) (liftS X.K Z m (dRet m wx)) := PS.of (ps_ret he) fun D σ H ⟨g, F, env, P, k, w, q⟩ =>
  ⟨g, F, env, _, k, w, fun r env1 v F1 H1 p e1 k1 r1 => q.rt _ env1 v σ F1 H1 p e1 k1 (res_own r1)⟩
/-- an expression for what it does -/
abbrev dDrop (wx : DX) (E : DEnds) (env : List SD) : Prop := wx env fun _ env1 => E.nx env1
theorem sexpr (he : PE X e (liftX X.K Z wx)) (hs : swapsWith e none pos.line X.env = pure false := by rfl) : PS X (.Expr e pos) (liftS X.K Z m (dDrop wx)) := PS.of (ps_expr he hs) fun D σ H ⟨g, F, env, P, k, w, q⟩ =>
  ⟨g, F, env, _, k, w, fun r env1 v F1 H1 p e1 k1 _ => q.nx env1 σ F1 H1 p e1 k1⟩
abbrev dIfS (t : DT) (w w2 : DS) (E : DEnds) (env : List SD) : Prop := t env fun b env1 => bIf b (w E env1) (w2 E env1)
theorem sif {c : Expr} {a b : List Stmt} {t : DT} (hc : PT X c (liftT X.K Z t)) (ha : PSs X a (liftS X.K Z m w)) (hb : PSs X b (liftS X.K Z m w2)) : PS X (.If c a b pos) (liftS X.K Z m (dIfS t w w2)) := PS.of (ps_if hc ha hb) fun D σ H ⟨g, F, env, P, k, w, q⟩ =>
  ⟨g, F, env, _, k, w, fun b env1 F1 H1 p e1 k1 => by
    cases b with
    | true => exact iteT ⟨g, F1, env1, P, k1, p, q.ex e1⟩
    | false => exact iteF ⟨g, F1, env1, P, k1, p, q.ex e1⟩⟩
theorem Ok.drop {K : PySem.W.Frag} {g : Gx Z} {F : Hp} {env : List SD} {σ : L2.St} {H : Hp} {i : Nat} {xs : List PyData} (k : Ok K g F env σ H) (he : env[i]? = some (.cel false xs)) : ∃ a, σ[i]? = some (some (.ref a)) ∧ Ok K g F (env.set i .un) σ H ∧ ResOk K g F (env.set i .un) σ H (.ref a) (.cel false xs) := by
  obtain ⟨a, vs, h1, h2, h3, h4, _, h6⟩ := k.cel i false xs he
  have np : NoPar env i := fun ys z => by rw [he] at z; cases z
  have k2 := k.setU (o := some (.ref a)) np
  have e : σ.set i (some (.ref a)) = σ := List.ext_getElem? fun j => by
    rw [List.getElem?_set]
    split
    · rename_i z
      subst z
      split
      · exact h1.symm
      · rename_i z
        exact absurd (List.getElem?_eq_some_iff.mp h1).1 z
    · rfl
  rw [e] at k2
  refine ⟨a, h1, k2, a, vs, rfl, h2, h3, h4, h6 rfl, ?_, fun j p ys hj z => ?_⟩
  · cases q : g.Pr a with
    | none => rfl
    | some u => exact absurd h1 ((k.prot a u q).2.2 i false xs he)
  · rcases get_set hj with ⟨_, q⟩ | ⟨n, q⟩
    · cases q
    · exact n (k.sep i j _ _ _ _ a he q h1 z)
/-- slots that are not to be known any more -/
def unS : List Nat → List SD → List SD
  | [], env => env
  | i :: is, env => match env[i]? with
    | some (.dat _) => unS is (env.set i .un)
    | some (.cel false _) => unS is (env.set i .un)
    | _ => unS is env
theorem Ok.unS {K : PySem.W.Frag} {g : Gx Z} {F : Hp} {σ : L2.St} {H : Hp} : ∀ {is : List Nat} {env : List SD}, Ok K g F env σ H → Ok K g F (unS is env) σ H
  | [], _, k => k
  | i :: is, env, k => by
    have go : NoPar env i → Ok K g F (env.set i .un) σ H := fun np => by
      by_cases hi : i < σ.length
      · have k2 := k.setU (o := σ[i]) np
        rw [List.set_getElem_self] at k2
        exact k2
      · have k2 := k.setU (o := none) np
        rw [show σ.set i none = σ from List.set_eq_of_length_le (Nat.le_of_not_lt hi)] at k2
        exact k2
    unfold DL.unS
    split
    · rename_i d e
      exact (go fun xs z => by rw [e] at z; cases z).unS
    · rename_i xs e
      exact (go fun ys z => by rw [e] at z; cases z).unS
    · exact k.unS
abbrev dForget (is : List Nat) (w : DS) (E : DEnds) (env : List SD) : Prop := w E (unS is env)
theorem ssforget (is : List Nat) (h : PSs X sts (liftS X.K Z m w)) : PSs X sts (liftS X.K Z m (dForget is w)) := PSs.of h fun D σ H ⟨g, F, env, P, k, w, q⟩ => ⟨g, F, _, P, k.unS, w, q⟩
end
end DL

namespace DL
variable {T : List (PySem.Addr × PySem.Str)} {Z : Zx T}
open PySem PySem.Spec PyProof.Rows L2
open Evl (Ex)

section
variable {X : Cx} {st : Stmt} {sts : List Stmt} {w w2 : DS} {m : Nat} {a b e : Expr} {es : List Expr} {wa wb we : DE} {wx : DX} {pos : Pos} {was : DA}
abbrev DG := PyData → List SD → (List SD → Prop) → Prop
/-- what goes to a target; with b (a tuple as the target) the tuple's object needn't be known -/
def DRw (K : PySem.W.Frag) (b : Bool) (F : Hp) (v : V) (d : PyData) : Prop := DR K F v d ∨ (b = true ∧ ∃ T xs ds, v = .ref T ∧ d = .tuple ds ∧ SqT K F T xs ∧ DRs K F xs ds)
theorem DRw.tup {K : PySem.W.Frag} {b : Bool} {F : Hp} {v : V} {ds : List PyData} (h : DRw K b F v (.tuple ds)) : ∃ a xs, v = .ref a ∧ SqT K F a xs ∧ DRs K F xs ds := by
  rcases h with h | ⟨_, T, xs, es, h1, h2, h3, h4⟩
  · exact h.inv_tup
  · cases h2
    exact ⟨T, xs, h1, h3, h4⟩
theorem DRw.non {K : PySem.W.Frag} {F : Hp} {v : V} {d : PyData} (h : DRw K false F v d) : DR K F v d := by
  rcases h with h | ⟨h, _⟩
  · exact h
  · cases h
def liftG (K : PySem.W.Frag) (Z : Zx T) (b : Bool) (w : DG) : TG := fun v σ H Q => ∃ (g : Gx Z) (F : Hp) (env : List SD) (d : PyData) (P : List SD → Prop), Ok K g F env σ H ∧ DRw K b F v d ∧ w d env P ∧
  ∀ env' σ' F' H', P env' → Ex F F' → Ok K g F' env' σ' H' → Q σ' H'
abbrev DGs := List PyData → List SD → (List SD → Prop) → Prop
def liftGs (K : PySem.W.Frag) (Z : Zx T) (w : DGs) : TGs := fun vs σ H Q => ∃ (g : Gx Z) (F : Hp) (env : List SD) (ds : List PyData) (P : List SD → Prop), Ok K g F env σ H ∧ DRs K F vs ds ∧ w ds env P ∧
  ∀ env' σ' F' H', P env' → Ex F F' → Ok K g F' env' σ' H' → Q σ' H'
theorem PG.of {t t' : TG} (h : PG X e t) (w : ∀ v σ H Q, t' v σ H Q → t v σ H Q) : PG X e t' := ⟨fun pins s σ H v u Q I r q => h.run pins s σ H v u Q I r (w v σ H Q q)⟩
theorem PGs.of {t t' : TGs} (h : PGs X es t) (w : ∀ v σ H Q, t' v σ H Q → t v σ H Q) : PGs X es t' := ⟨fun pins s σ H v u Q I r q => h.run pins s σ H v u Q I r (w v σ H Q q)⟩
def dgN (i : Nat) (d : PyData) (env : List SD) (P : List SD → Prop) : Prop := bIf (noPar env i) (P (env.set i (.dat d))) False
theorem gn (i : Nat) {x : Str} (hN : X.N.Nodup) (hi : X.N[i]? = some x := by rfl) (hx : Loc X.env.scope x := by first | exact Or.inl rfl | exact Or.inr rfl)
    (hf : X.fn x = true ∨ X.env.scope.names.lookup x = some .local := by first | exact .inl rfl | exact .inr rfl) : PG X (.Name x pos) (liftG X.K Z false (dgN i)) := PG.of (pg_name hN hi hx hf) fun v σ H Q ⟨g, F, env, d, P, k, r, w, q⟩ =>
  q _ _ F H (bIf_and w).2 (Ex.refl F) (k.setD (noPar_of (bIf_and w).1) r.non)
def nilQ (ds : List PyData) (p : Prop) : Prop := match ds with
  | [] => p
  | _ :: _ => False
def consQ (ds : List PyData) (K : PyData → List PyData → Prop) : Prop := match ds with
  | d :: r => K d r
  | [] => False
def tupQ (d : PyData) (K : List PyData → Prop) : Prop := match d with
  | .tuple ds => K ds
  | _ => False
theorem nilQ_inv {ds : List PyData} {p : Prop} (h : nilQ ds p) : ds = [] ∧ p := by
  cases ds
  · exact ⟨rfl, h⟩
  · exact h.elim
theorem consQ_inv {ds : List PyData} {K : PyData → List PyData → Prop} (h : consQ ds K) : ∃ d r, ds = d :: r ∧ K d r := by
  cases ds
  · exact h.elim
  · exact ⟨_, _, rfl, h⟩
theorem tupQ_inv {d : PyData} {K : List PyData → Prop} (h : tupQ d K) : ∃ ds, d = .tuple ds ∧ K ds := by
  cases d <;> first | exact ⟨_, rfl, h⟩ | exact h.elim
def dgNil (ds : List PyData) (env : List SD) (P : List SD → Prop) : Prop := nilQ ds (P env)
def dgCons (t : DG) (u : DGs) (ds : List PyData) (env : List SD) (P : List SD → Prop) : Prop := consQ ds fun d r => t d env fun env1 => u r env1 P
theorem gnil : PGs X [] (liftGs X.K Z dgNil) := PGs.of pgs_nil fun v σ H Q ⟨g, F, env, ds, P, k, r, w, q⟩ => by
  obtain ⟨rfl, w⟩ := nilQ_inv w
  cases r
  exact ⟨rfl, q env σ F H w (Ex.refl F) k⟩
theorem gcons {t : DG} {u : DGs} {bb : Bool} (h1 : PG X e (liftG X.K Z bb t)) (h2 : PGs X es (liftGs X.K Z u)) (hs : (assignEach (e :: es) X.env).map (·.2) = assign e X.env :: (assignEach es X.env).map (·.2) := by rfl) : PGs X (e :: es) (liftGs X.K Z (dgCons t u)) :=
  PGs.of (pgs_cons h1 h2 hs) fun v σ H Q ⟨g, F, env, ds, P, k, r, w, q⟩ => by
    obtain ⟨d, r0, rfl, w⟩ := consQ_inv w
    cases r with
    | cons r1 r2 =>
        exact ⟨_, _, rfl, g, F, env, _, _, k, .inl r1, w, fun env1 σ1 F1 H1 p e1 k1 => ⟨g, F1, env1, _, P, k1, r2.mono e1, p, fun env2 σ2 F2 H2 p2 e2 k2 => q env2 σ2 F2 H2 p2 (e1.trans e2) k2⟩⟩
def dgT (n : Nat) (t : DGs) (d : PyData) (env : List SD) (P : List SD → Prop) : Prop := tupQ d fun ds => t ds env P
/-- a target that takes a datum goes on -/
def GOk (t : DG) : Prop := ∀ d env P, t d env P → ∃ env1, P env1
def GLen (t : DGs) (n : Nat) : Prop := ∀ ds env P, t ds env P → ds.length = n ∧ ∃ env1, P env1
theorem gok_n {i : Nat} : GOk (dgN i) := fun d env P h => ⟨_, (bIf_and h).2⟩
theorem gl_nil : GLen dgNil 0 := fun ds env P h => by
  obtain ⟨rfl, h⟩ := nilQ_inv h
  exact ⟨rfl, env, h⟩
theorem gl_cons {t : DG} {u : DGs} {n : Nat} (h1 : GOk t) (h2 : GLen u n) : GLen (dgCons t u) (n + 1) := fun ds env P h => by
  obtain ⟨d, r, rfl, h⟩ := consQ_inv h
  obtain ⟨env1, h⟩ := h1 _ _ _ h
  obtain ⟨e, h⟩ := h2 _ _ _ h
  exact ⟨by simp [e], h⟩
theorem gtup {k n : Nat} {t : DGs} (hl : GLen t n) (hc : X.calm = true) (h : PGs X es (liftGs X.K Z t)) (hn : (assignEach es X.env).length = n := by rfl) (hst : (assignEach es X.env).findIdx? (·.1) = none := by rfl) : PG X (.Tuple es k pos) (liftG X.K Z true (dgT n t)) :=
  PG.of (pg_tup hc h hn hst) fun v σ H Q ⟨g, F, env, d, P, k, r, w, q⟩ => by
    obtain ⟨ds, rfl, w⟩ := tupQ_inv w
    obtain ⟨a, xs, rfl, h1, h2⟩ := r.tup
    exact ⟨a, xs, rfl, Evl.ex_t k.fh h1, h2.length.trans (hl _ _ _ w).1, g, F, env, _, P, k, h2, w, q⟩
/-- target = e, of a datum -/
abbrev dAsg (t : DG) (we : DE) (E : DEnds) (env : List SD) : Prop := we env fun d env1 => t d env1 E.nx
theorem sasg {tg : Expr} {t : DG} {bb : Bool} (he : PE X e (liftE X.K Z we)) (hg : PG X tg (liftG X.K Z bb t)) (hs : swapsWithSole [tg] e pos.line X.env = pure false := by rfl) (hw : swappedStores [tg] e X.env = pure none := by rfl)
    (h1 : (assignEach [tg] X.env).map (·.2) = [assign tg X.env] := by rfl) : PS X (.Assign [tg] e pos) (liftS X.K Z m (dAsg t we)) := PS.of (ps_asg he hg hs hw h1) fun D σ H ⟨g, F, env, P, k, w, q⟩ =>
  ⟨g, F, env, _, k, w, fun d env1 v F1 H1 p e1 k1 r1 => ⟨g, F1, env1, d, _, k1, .inl r1, p, fun env2 σ2 F2 H2 p2 e2 k2 => q.nx env2 σ2 F2 H2 p2 (e1.trans e2) k2⟩⟩
/-- x, y = e, f -/
abbrev dPar (i j : Nat) (was : DA) (E : DEnds) (env : List SD) : Prop := was env fun ds env1 => match ds with
  | [d, c] => bIf (noPar env1 i && noPar env1 j) (E.nx ((env1.set i (.dat d)).set j (.dat c))) False
  | _ => False
theorem noPar_set {env : List SD} {i j : Nat} {d : PyData} (h : noPar env j = true) : noPar (env.set i (.dat d)) j = true := by
  unfold noPar at h ⊢
  rw [List.getElem?_set]
  by_cases z : i = j
  · rw [if_pos z]
    by_cases y : i < env.length
    · rw [if_pos y]
      rfl
    · rw [if_neg y]
  · rw [if_neg z]
    exact h
theorem spar (i j : Nat) {x y : Str} {px py pt : Pos} {kt k2 pt2} (hc : X.calm = true) (hN : X.N.Nodup) (ha : PA X [a, b] (liftA X.K Z was)) (hi : X.N[i]? = some x := by rfl) (hj : X.N[j]? = some y := by rfl) (hij : i ≠ j := by decide)
    (hx : X.env.scope.names.lookup x = some .local := by rfl) (hy : X.env.scope.names.lookup y = some .local := by rfl)
    (hw : swappedStores [.Tuple [.Name x px, .Name y py] kt pt] (.Tuple [a, b] k2 pt2) X.env = pure (some [x, y]) := by rfl)
    (hs : swapsWithSole [.Tuple [.Name x px, .Name y py] kt pt] (.Tuple [a, b] k2 pt2) pos.line X.env = pure false := by rfl) :
    PS X (.Assign [.Tuple [.Name x px, .Name y py] kt pt] (.Tuple [a, b] k2 pt2) pos) (liftS X.K Z m (dPar i j was)) := PS.of (ps_par hc hN hi hj hij hx hy ha hw hs) fun D σ H ⟨g, F, env, P, k, w, q⟩ =>
  ⟨g, F, env, _, k, w, fun ds env1 vs F1 H1 p e1 k1 r1 => by
    split at p
    · obtain ⟨v, u, rfl, r2, r3⟩ := r1.inv2
      obtain ⟨np, p⟩ := bIf_and p
      rw [Bool.and_eq_true] at np
      exact ⟨v, u, rfl, q.nx _ _ F1 H1 p e1 ((k1.setD (noPar_of np.1) r2).setD (noPar_of (noPar_set np.2)) r3)⟩
    · exact p.elim⟩
/-- x[i] = e, x the name's own cell -/
def stQ (xs : List PyData) (y d : PyData) (K : List PyData → Prop) : Prop := match y with
  | .int n => (match ixN xs.length n with
    | some j => K (xs.set j d)
    | none => False)
  | _ => False
abbrev dSetC (i : Nat) (wi we : DE) (E : DEnds) (env : List SD) : Prop := we env fun d env1 => match env1[i]? with
  | some (.cel _ _) => wi env1 fun y env2 => match env2[i]? with
    | some (.cel p xs) => stQ xs y d fun xs' => E.nx (env2.set i (.cel p xs'))
    | _ => False
  | _ => False
theorem ssetC (i : Nat) {x : Str} {p0 p1 : Pos} (he : PE X e (liftE X.K Z we)) (hi : PE X b (liftE X.K Z wb)) (hN : X.N[i]? = some x := by rfl) (hv : Vis X.env.scope x := by first | exact Or.inl rfl | exact Or.inr (Or.inl rfl) | exact Or.inr (Or.inr rfl)) (hd : (x == ("__debug__" : Str)) = false := by decide)
    (hcd : (x == ("__classdict__" : Str)) = false := by decide)
    (hs : swapsWithSole [.Subscript (.Name x p0) b p1] e pos.line X.env = pure false := by rfl) (hw : swappedStores [.Subscript (.Name x p0) b p1] e X.env = pure none := by rfl)
    (h1 : (assignEach [.Subscript (.Name x p0) b p1] X.env).map (·.2) = [assign (.Subscript (.Name x p0) b p1) X.env] := by rfl)
    (ha : ∀ v, assign (.Subscript (.Name x p0) b p1) X.env v = (do
      let ov ← holding [v] (eval (.Name x p0) X.env)
      let iv ← holding [v, ov] (eval b X.env)
      standAt p1
      holding [v, ov, iv] (setItem ov iv v)
      release [v, ov, iv] []) := by intro _; rfl) : PS X (.Assign [.Subscript (.Name x p0) b p1] e pos) (liftS X.K Z m (dSetC i wb we)) :=
  PS.of (ps_asg he (pg_sub (pe_var hN hv hd hcd) hi set_list ha) hs hw h1) fun D σ H ⟨g, F, env, P, k, w, q⟩ =>
  ⟨g, F, env, _, k, w, fun d env1 v F1 H1 p e1 k1 r1 => by
    split at p
    · rename_i p' xs' ex
      obtain ⟨a0, us0, b1, _⟩ := k1.cel i p' xs' ex
      refine ⟨_, b1, g, F1, env1, _, k1, p, fun d2 env2 v2 F2 H2 p2 e2 k2 r2 => ?_⟩
      split at p2
      · rename_i p3 xs ex2
        obtain ⟨n, rfl, p2⟩ : ∃ n, d2 = .int n ∧ stQ xs (.int n) d _ := by
          cases d2 <;> first | exact ⟨_, rfl, p2⟩ | exact p2.elim
        cases r2.inv_int
        unfold stQ at p2
        dsimp only at p2
        split at p2
        · rename_i j ej
          obtain ⟨a1, us1, c1, c2, c3, c4, _⟩ := k2.cel i p3 xs ex2
          rw [b1] at c1
          cases c1
          exact ⟨a0, us1, n, j, rfl, rfl, c3, by rw [c4.length]; exact ej, q.nx _ σ F2 _ p2 (e1.trans e2) (k2.write ex2 b1 (c4.set j (r1.mono e2)))⟩
        · exact p2.elim
      · exact p2.elim
    · exact p.elim⟩
/-- x.append(e) -/
def apQ (xs : List PyData) (d : PyData) (K : List PyData → Prop) : Prop := xs.length < 100000 ∧ K (xs ++ [d])
abbrev dApp (i : Nat) (we : DE) (E : DEnds) (env : List SD) : Prop := match env[i]? with
  | some (.cel _ _) => we env fun d env1 => match env1[i]? with
    | some (.cel p xs) => apQ xs d fun xs' => E.nx (env1.set i (.cel p xs'))
    | _ => False
  | _ => False
theorem sapp (i : Nat) {x : Str} {p0 apos cpos : Pos} (he : PE X e (liftE X.K Z we)) (hN : X.N[i]? = some x := by rfl) (hv : Vis X.env.scope x := by first | exact Or.inl rfl | exact Or.inr (Or.inl rfl) | exact Or.inr (Or.inr rfl)) (hd : (x == ("__debug__" : Str)) = false := by decide)
    (hcd : (x == ("__classdict__" : Str)) = false := by decide)
    (h1 : attributeBase (.Name x p0) "append" X.env (eval (.Name x p0) X.env) = eval (.Name x p0) X.env := by rfl)
    (h2 : ((backTo cpos (starEach [e] X.env)).all (!·.1) && (backToKw cpos (keywordEach [] X.env)).all (·.1.isSome) && decide ([e].length + ([] : List Keyword).length + (if ([] : List Keyword).isEmpty then 0 else 1) < 30)) = true := by rfl)
    (h3 : (apos.endLine == cpos.line) = true := by rfl)
    (h4 : starEach [e] X.env = (false, eval e X.env) :: starEach [] X.env := by rfl) (h5 : (backTo cpos (starEach [] X.env)).any (·.1) = false := by rfl)
    (hs : swapsWith (.Call (.Attribute (.Name x p0) "append" apos) [e] [] cpos) none pos.line X.env = pure false := by rfl) :
    PS X (.Expr (.Call (.Attribute (.Name x p0) "append" apos) [e] [] cpos) pos) (liftS X.K Z m (dApp i we)) :=
  PS.of (ps_expr (pe_bm PySem.F.plainAttrs_list PySem.F.slot_list_append PySem.F.type_list_append mt_append (pe_var hN hv hd hcd) (pa_cons he pa_nil h4) h1 h2 h3 h4 h5) hs) fun D σ H ⟨g, F, env, P, k, w, q⟩ => by
    unfold dApp at w
    split at w
    · rename_i p' xs' ex
      obtain ⟨a0, us0, b1, _, b3, _⟩ := k.cel i p' xs' ex
      refine ⟨_, b1, .inl ⟨rfl, us0, SqL.of b3⟩, g, F, env, _, k, w, fun d env1 v F1 H1 p e1 k1 r1 => ?_⟩
      split at p
      · rename_i p3 xs ex2
        obtain ⟨a1, us1, c1, c2, c3, c4, _⟩ := k1.cel i p3 xs ex2
        rw [b1] at c1
        cases c1
        exact ⟨a0, us1, v, rfl, rfl, c3, by rw [c4.length]; exact Evl.sz_lt p.1, q.nx _ σ F1 _ p.2 e1 (k1.write ex2 b1 (c4.append (.one r1)))⟩
      · exact p.elim
    · exact w.elim
abbrev RT := SD → List SD → Prop
def decP {I S : Type} (is : List Nat) (dec : List SD → Option (I × S)) (N : I → S → Prop) (env : List SD) : Prop := match dec (unS is env) with
  | some (i, s) => N i s
  | none => False
theorem decP_inv {I S : Type} {is : List Nat} {dec : List SD → Option (I × S)} {N : I → S → Prop} {env : List SD} (h : decP is dec N env) : ∃ i s, dec (unS is env) = some (i, s) ∧ N i s := by
  unfold decP at h
  split at h
  · exact ⟨_, _, ‹_›, h⟩
  · exact h.elim
/-- the state behind: what a loop doesn't change stays -/
def same {I S : Type} (i : I) (N : S → Prop) (i' : I) (s : S) : Prop := i' = i ∧ N s
def qWhileN {I S : Type} (b : I → S → (I → S → Prop) → (I → S → Prop) → Prop) (i : I) : Nat → S → (S → Prop) → Prop
  | 0, _, _ => False
  | n + 1, s, K => b i s (same i fun s => qWhileN b i n s K) (same i K)
def qWhile {I S : Type} (b : I → S → (I → S → Prop) → (I → S → Prop) → Prop) (i : I) (s : S) (K : S → Prop) : Prop := ∃ n, qWhileN b i n s K
abbrev dWhileQ {κ I S : Type} (is : List Nat) (dec : List SD → Option (I × S)) (emb : I → S → List SD) (kk : RT → κ) (qb : κ → I → S → (I → S → Prop) → (I → S → Prop) → Prop) (E : DEnds) (env : List SD) : Prop :=
  decP is dec (fun i s => qWhile (qb (kk E.rt)) i s fun s => E.nx (emb i s)) env
theorem swhileQ {κ I S : Type} (is : List Nat) (dec : List SD → Option (I × S)) (emb : I → S → List SD) (kk : RT → κ) (qb : κ → I → S → (I → S → Prop) → (I → S → Prop) → Prop)
    (hde : ∀ env i s, dec env = some (i, s) → env = emb i s) {c : Expr} {body : List Stmt} {t : DT} (hp : PassesOwn (model X.prog X.w) X.A X.env X.xe) (hc : PT X c (liftT X.K Z t)) (hb : PSs X body (liftS X.K Z m w))
    (hq : ∀ (R : RT) (i : I) (s : S) (nx bk : I → S → Prop), qb (kk R) i s nx bk → t (emb i s) fun b env1 => bIf b (w { nx := decP is dec nx, ct := decP is dec nx, bk := decP is dec bk, rt := R } env1) (decP is dec bk env1)) :
    PS X (.While c body [] pos) (liftS X.K Z m (dWhileQ is dec emb kk qb)) :=
  PS.of (ps_while hp hc hb) fun D σ H ⟨g, F, env, P, k, w0, q⟩ => by
    obtain ⟨i0, s0, d0, n, w0⟩ := decP_inv w0
    have fin : ∀ {env' : List SD} {σ' : L2.St} {F' H' : Hp}, decP is dec (same i0 fun s => P.nx (emb i0 s)) env' → Ex F F' → Ok X.K g F' env' σ' H' → D.nx σ' H' := fun {env' σ' F' H'} p e k => by
      obtain ⟨i, s, d, rfl, p⟩ := decP_inv p
      have k2 := k.unS (is := is)
      rw [hde _ _ _ d] at k2
      exact q.nx _ _ _ _ p e k2
    refine ⟨fun m σ' H' => ∃ env' F', Ex F F' ∧ Ok X.K g F' env' σ' H' ∧ decP is dec (same i0 fun s => qWhileN (qb (kk P.rt)) i0 m s fun s => P.nx (emb i0 s)) env', ⟨n, env, F, Ex.refl F, k, by unfold decP; rw [d0]; exact ⟨rfl, w0⟩⟩, fun m σ' H' ⟨env', F', e1, k1, w1⟩ => ?_⟩
    obtain ⟨i, s, d, rfl, w1⟩ := decP_inv w1
    have k2 := k1.unS (is := is)
    rw [hde _ _ _ d] at k2
    cases m with
    | zero => exact w1.elim
    | succ m =>
      refine ⟨g, F', _, _, k2, hq P.rt i s _ _ w1, fun b env2 F2 H2 p2 e2 k2 => ?_⟩
      cases b with
      | false => exact iteF (fin p2 (e1.trans e2) k2)
      | true =>
        refine iteT ⟨fun σ3 H3 => ∃ env' F', Ex F F' ∧ Ok X.K g F' env' σ3 H3 ∧ decP is dec (same i fun s => qWhileN (qb (kk P.rt)) i m s fun s => P.nx (emb i s)) env', fun σ3 H3 h3 => ⟨m, Nat.lt_succ_self m, h3⟩, g, F2, env2, _, k2, p2, ?_⟩
        have e12 := e1.trans e2
        exact .mk4 (.mk (fun env3 σ3 F3 H3 p3 e3 k3 => ⟨env3, F3, e12.trans e3, k3, p3⟩) (fun env3 σ3 F3 H3 p3 e3 k3 => fin p3 (e12.trans e3) k3) (fun env3 σ3 F3 H3 p3 e3 k3 => ⟨env3, F3, e12.trans e3, k3, p3⟩) (fun r env3 v σ3 F3 H3 p3 e3 k3 r3 => q.rt r env3 v σ3 F3 H3 p3 (e12.trans e3) k3 r3)) rfl
abbrev DI := List SD → (List PyData → List SD → Prop) → Prop
def Yld (K : PySem.W.Frag) (b : Bool) (F H : Hp) (x : V) (H' : Hp) (d : PyData) : Prop := (H' = H ∧ DR K F x d) ∨ b = true ∧ ∃ T xs ds, x = .ref T ∧ H T = none ∧ H' = upd H T (.tup xs) ∧ d = .tuple ds ∧ DRs K F xs ds
structure WalkD (K : PySem.W.Frag) (b : Bool) (F : Hp) (J : It) (items : List PyData) : Prop where
  ex : ∃ G Y, Walk J items.length G Y ∧ (∀ H, Ex F H → G H) ∧ ∀ i H x H' d, Ex F H → items[i]? = some d → Y i H x H' → Yld K b F H x H' d
def liftI (K : PySem.W.Frag) (Z : Zx T) (b : Bool) (w : DI) : TI := fun σ H R => ∃ (g : Gx Z) (F : Hp) (env : List SD) (P : List PyData → List SD → Prop), Ok K g F env σ H ∧ w env P ∧
  ∀ items env' J F' H', P items env' → Ex F F' → Ok K g F' env' σ H' → WalkD K b F' J items → R J H'
theorem PI.of {tg e : Expr} {t t' : TI} (h : PI X tg e t) (w : ∀ σ H R, t' σ H R → t σ H R) : PI X tg e t' := ⟨fun pins s σ H R I q => h.run pins s σ H R I (w σ H R q)⟩
theorem Ok.yld {K : PySem.W.Frag} {b : Bool} {g : Gx Z} {F F0 : Hp} {env : List SD} {σ : L2.St} {H H' : Hp} {x : V} {d : PyData} (k : Ok K g F env σ H) (e : Ex F0 F) (y : Yld K b F0 H x H' d) : ∃ F', Ex F F' ∧ Ok K g F' env σ H' ∧ DRw K b F' x d := by
  rcases y with ⟨rfl, r⟩ | ⟨hb, T, xs, ds, rfl, hT, rfl, rfl, r⟩
  · exact ⟨F, Ex.refl F, k, .inl (r.mono e)⟩
  · have ex : Ex F (upd F T (.tup xs)) := Ex.new (fnone k.fh hT)
    exact ⟨_, ex, k.alloc hT, .inr ⟨hb, T, xs, ds, rfl, rfl, SqT.of upd_same, (r.mono e).mono ex⟩⟩
/-- lo, lo + 1, .. -/
def rangeD (lo : Int) (n : Nat) : List PyData := (List.range n).map fun (i : Nat) => .int (lo + i)
theorem walkD_range {K : PySem.W.Frag} {b : Bool} {F : Hp} (lo : Int) (n : Nat) : WalkD K b F (Itr lo n) (rangeD lo n) := by
  refine ⟨fun _ => True, YFn fun i => .int (lo + i), by rw [show (rangeD lo n).length = n by simp [rangeD]]; exact walk_range, fun _ _ => trivial, fun i H x H' d _ e y => .inl ⟨y.1, ?_⟩⟩
  have y2 := y.2
  subst y2
  unfold rangeD at e
  rw [List.getElem?_map] at e
  by_cases hi : i < n
  · rw [List.getElem?_range hi] at e
    cases e
    exact .int _
  · rw [List.getElem?_eq_none (by simp; omega)] at e
    cases e
abbrev QI := List PyData → (List PyData → Prop) → Prop
/-- what is walked, by arguments -/
abbrev dIt (f : QI) (was : DA) (env : List SD) (P : List PyData → List SD → Prop) : Prop := was env fun ds env' => f ds fun items => P items env'
/-- K of l, sealed: the kernel doesn't look at what is walked -/
inductive At (l : List PyData) (K : List PyData → Prop) : Prop
  | mk : K l → At l K
theorem At.out {l : List PyData} {K : List PyData → Prop} (h : At l K) : K l := by
  cases h with
  | mk h => exact h
theorem At.eq {l : List PyData} {K : List PyData → Prop} : At l K = K l := propext ⟨At.out, At.mk⟩
def rng1 (ds : List PyData) (K : List PyData → Prop) : Prop := match ds with
  | [.int n] => (-1000000 ≤ n ∧ n ≤ 1000000) ∧ At (rangeD 0 n.toNat) K
  | _ => False
def rng2 (ds : List PyData) (K : List PyData → Prop) : Prop := match ds with
  | [.int m, .int n] => (-1000000 ≤ m ∧ m ≤ 1000000 ∧ -1000000 ≤ n ∧ n ≤ 1000000) ∧ At (rangeD m (n - m).toNat) K
  | _ => False
theorem irange1 {tg : Expr} {bb : Bool} {p : Pos} (hm : X.mg "range" = none) (ha : PA X [a] (liftA X.K Z was)) (hg : Gl X "range" := by rfl) (hs : starEach [a] X.env = [(false, eval a X.env)] := by rfl) : PI X tg (.Call (.Name "range" p) [a] [] pos) (liftI X.K Z bb (dIt rng1 was)) :=
  PI.of (pi_range1 hg hm ha hs) fun σ H R ⟨g, F, env, P, k, w, q⟩ => ⟨g, F, env, _, k, w, fun ds env1 vs F1 H1 p e1 k1 r1 => by
    unfold rng1 at p
    split at p
    · obtain ⟨v, rfl, r2⟩ := r1.inv1
      cases r2.inv_int
      have p1 := p.1
      exact ⟨_, rfl, by omega, by omega, q _ env1 _ F1 H1 p.2.out e1 k1 (walkD_range 0 _)⟩
    · exact p.elim⟩
theorem irange2 {tg : Expr} {bb : Bool} {p : Pos} (hm : X.mg "range" = none) (ha : PA X [a, b] (liftA X.K Z was)) (hg : Gl X "range" := by rfl) (hs : starEach [a, b] X.env = [(false, eval a X.env), (false, eval b X.env)] := by rfl) (hs2 : starEach [b] X.env = [(false, eval b X.env)] := by rfl) :
    PI X tg (.Call (.Name "range" p) [a, b] [] pos) (liftI X.K Z bb (dIt rng2 was)) :=
  PI.of (pi_range2 hg hm ha hs hs2) fun σ H R ⟨g, F, env, P, k, w, q⟩ => ⟨g, F, env, _, k, w, fun ds env1 vs F1 H1 p e1 k1 r1 => by
    unfold rng2 at p
    split at p
    · obtain ⟨v, u, rfl, r2, r3⟩ := r1.inv2
      cases r2.inv_int
      cases r3.inv_int
      have p1 := p.1
      exact ⟨_, _, rfl, ⟨by omega, by omega, by omega, by omega⟩, q _ env1 _ F1 H1 p.2.out e1 k1 (walkD_range _ _)⟩
    · exact p.elim⟩
theorem walkD_list {K : PySem.W.Frag} {bb : Bool} {F : Hp} {a : Addr} {xs : List V} {ds : List PyData} (h : RdL K F a xs) (r : DRs K F xs ds) : WalkD K bb F (Itl K a) ds :=
  ⟨fun H => SqL K H a xs, YAt xs, by rw [← r.length]; exact walk_list (xs := xs), fun H e => (h.mono e).sq, fun i H x H' d _ e y => .inl ⟨y.1, by
    obtain ⟨v, h1, h2⟩ := r.get e
    have y2 := y.2
    rw [h1] at y2
    cases y2
    exact h2⟩⟩
theorem walkD_tup {K : PySem.W.Frag} {bb : Bool} {F : Hp} {a : Addr} {xs : List V} {ds : List PyData} (h : SqT K F a xs) (r : DRs K F xs ds) : WalkD K bb F (Itt K a) ds :=
  ⟨fun H => SqT K H a xs, YAt xs, by rw [← r.length]; exact walk_tup (xs := xs), fun H e => Evl.ex_t e h, fun i H x H' d _ e y => .inl ⟨y.1, by
    obtain ⟨v, h1, h2⟩ := r.get e
    have y2 := y.2
    rw [h1] at y2
    cases y2
    exact h2⟩⟩
/-- a text's signs -/
@[irreducible] def signsD (x : Str) : List PyData := x.cps.toList.map fun c => .str ⟨#[c]⟩
theorem walkD_str {K : PySem.W.Frag} {bb : Bool} {F : Hp} (x : Str) : WalkD K bb F (Its x) (signsD x) :=
  ⟨fun _ => True, fun i H v H' => H' = H ∧ ∃ c, x.cps[i]? = some c ∧ v = .str ⟨#[c]⟩, by rw [show (signsD x).length = x.cps.size by unfold signsD; simp]; exact walk_str, fun _ _ => trivial, fun i H v H' d _ e y => .inl ⟨y.1, by
    obtain ⟨c, h1, rfl⟩ := y.2
    unfold signsD at e
    rw [List.getElem?_map, Array.getElem?_toList, h1] at e
    cases e
    exact .str _⟩⟩
/-- over a list, a tuple or a text -/
def iSeq (K : PySem.W.Frag) (tl : TE) : TI := fun σ H R => tl σ H fun x H1 => (∃ a, x = .ref a ∧ ((∃ xs, SqL K H1 a xs ∧ R (Itl K a) H1) ∨ ∃ xs, SqT K H1 a xs ∧ R (Itt K a) H1)) ∨ ∃ z, x = .str z ∧ R (Its z) H1
theorem pi_seq {tg l : Expr} {tl : TE} (hl : PE X l tl) : PI X tg l (iSeq X.K tl) := by
  refine ⟨fun pins s σ H R I h => thn (hl.run pins s σ H _ I h) fun v s1 ⟨x, H1, I1, r1, q1⟩ => ?_⟩
  rcases q1 with ⟨a, ea, q1⟩ | ⟨z, ez, q⟩
  · subst ea
    cases r1
    have fo : ∀ b ∈ [s1.heap.objs.size], FpOk X pins H1 b := fun b hb => by
      rw [List.mem_singleton.mp hb]
      exact I1.fpOk (Nat.le_refl _) (I1.hok.fresh (Nat.le_refl _))
    rcases q1 with ⟨xs, hq, q⟩ | ⟨xs, hq, q⟩
    · obtain ⟨its, rv, pl, hz⟩ := I1.list hq
      exact wpAny_pyIter_list pl.isList ⟨s1.heap.objs.size, [s1.heap.objs.size], _, _, H1, rfl, I1.kept (t' := s1.toks) (fun b o e => Heap.get?_push_of_some _ e), turn_list a _, ⟨_, Heap.get?_push_size _ rfl, rfl, rfl⟩, fo, q⟩
    · obtain ⟨its, rv, pl, hz⟩ := I1.tuple hq
      exact wpAny_pyIter_tuple (show s1.heap.IsTuple a its.toArray from pl) ⟨s1.heap.objs.size, [s1.heap.objs.size], _, _, H1, rfl, I1.kept (t' := s1.toks) (fun b o e => Heap.get?_push_of_some _ e), turn_tuple a _, ⟨_, Heap.get?_push_size _ rfl, rfl, rfl⟩, fo, q⟩
  · subst ez
    obtain ⟨t, rfl⟩ := r1
    cases ha : z.cps.all (· < 128)
    · exact wpAny_pyIter_wide ha (pi_one (tk := s1.toks) I1 _ (turn_str _ z t "str_iterator" (.inr rfl)) ⟨_, Heap.get?_push_size _ rfl, rfl, rfl⟩ q)
    · exact wpAny_pyIter_ascii ha (pi_one (tk := s1.toks) I1 _ (turn_str _ z t "str_ascii_iterator" (.inl rfl)) ⟨_, Heap.get?_push_size _ rfl, rfl, rfl⟩ q)
def itemsQ (d : PyData) (K : List PyData → Prop) : Prop := match d with
  | .list ds => At ds K
  | .tuple ds => At ds K
  | .str x => At (signsD x) K
  | _ => False
abbrev dItF (f : PyData → (List PyData → Prop) → Prop) (we : DE) (env : List SD) (P : List PyData → List SD → Prop) : Prop := we env fun d env' => f d fun ds => P ds env'
theorem iseq {tg : Expr} {bb : Bool} (he : PE X e (liftE X.K Z we)) : PI X tg e (liftI X.K Z bb (dItF itemsQ we)) := PI.of (pi_seq he) fun σ H R ⟨g, F, env, P, k, w, q⟩ => ⟨g, F, env, _, k, w, fun d env1 v F1 H1 p e1 k1 r1 => by
  unfold itemsQ at p
  split at p
  · obtain ⟨a, xs, rfl, h1, h2⟩ := r1.inv_lst
    exact .inl ⟨a, rfl, .inl ⟨xs, (h1.mono k1.fh).sq, q _ env1 _ F1 H1 p.out e1 k1 (walkD_list h1 h2)⟩⟩
  · obtain ⟨a, xs, rfl, h1, h2⟩ := r1.inv_tup
    exact .inl ⟨a, rfl, .inr ⟨xs, Evl.ex_t k1.fh h1, q _ env1 _ F1 H1 p.out e1 k1 (walkD_tup h1 h2)⟩⟩
  · cases r1.inv_str
    exact .inr ⟨_, rfl, q _ env1 _ F1 H1 p.out e1 k1 (walkD_str _)⟩
  · exact p.elim⟩
/-- zip of two lists, of two tuples -/
def zipD : List PyData → List PyData → List PyData
  | x :: xs, y :: ys => .tuple [x, y] :: zipD xs ys
  | _, _ => []
theorem zipD_length : ∀ xs ys : List PyData, (zipD xs ys).length = min xs.length ys.length
  | [], _ => by simp [zipD]
  | _ :: _, [] => by simp [zipD]
  | x :: xs, y :: ys => by simp [zipD, zipD_length xs ys]
theorem zipD_get : ∀ {xs ys : List PyData} {i : Nat} {d : PyData}, (zipD xs ys)[i]? = some d → ∃ x y, xs[i]? = some x ∧ ys[i]? = some y ∧ d = .tuple [x, y]
  | [], _, _, _, h => by simp [zipD] at h
  | _ :: _, [], _, _, h => by simp [zipD] at h
  | x :: xs, y :: ys, 0, d, h => by simp [zipD] at h; exact ⟨x, y, rfl, rfl, h.symm⟩
  | x :: xs, y :: ys, i + 1, d, h => by
    obtain ⟨u, v, h1, h2, h3⟩ := zipD_get (xs := xs) (ys := ys) (i := i) (d := d) (by simpa [zipD] using h)
    exact ⟨u, v, by simpa using h1, by simpa using h2, h3⟩
theorem walk_zipT {K : PySem.W.Frag} {a b : Addr} {xs ys : List V} : Walk (RZ.ItzT K a b) (min xs.length ys.length) (fun H => SqT K H a xs ∧ SqT K H b ys) (YPair (fun i => xs[i]?) (fun i => ys[i]?)) :=
  ⟨fun i H hi q => ⟨xs, ys, xs[i]'(by omega), ys[i]'(by omega), q.1, q.2, by simp [show i < xs.length by omega], by simp [show i < ys.length by omega]⟩,
   fun H q => ⟨xs, ys, q.1, q.2, by omega⟩,
   fun i H x H' hi q y => by
    obtain ⟨T, u, v, h1, h2, h3, h4, h5⟩ := y
    exact ⟨T, u, v, h1, h2, h3, h4 xs q.1, h5 ys q.2⟩⟩
def zipQ (ds : List PyData) (K : List PyData → Prop) : Prop := match ds with
  | [.list xs, .list ys] => At (zipD xs ys) K
  | [.tuple xs, .tuple ys] => At (zipD xs ys) K
  | _ => False
theorem yld_pair {K : PySem.W.Frag} {F H H' : Hp} {us ws : List V} {xs ys : List PyData} {x : V} {i : Nat} {d : PyData} (r : DRs K F us xs) (r2 : DRs K F ws ys) (e : (zipD xs ys)[i]? = some d) (y : YPair (fun i => us[i]?) (fun i => ws[i]?) i H x H') : Yld K true F H x H' d := by
  obtain ⟨T, u, v, h1, h2, h3, h4, h5⟩ := y
  obtain ⟨dx, dy, e1, e2, rfl⟩ := zipD_get e
  obtain ⟨u', z1, z2⟩ := r.get e1
  obtain ⟨v', y1, y2⟩ := r2.get e2
  dsimp only at h4 h5
  rw [z1] at h4
  rw [y1] at h5
  cases h4
  cases h5
  exact .inr ⟨rfl, T, _, _, h1, h2, h3, rfl, .cons z2 (.one y2)⟩
theorem walkD_zipL {K : PySem.W.Frag} {F : Hp} {a b : Addr} {us ws : List V} {xs ys : List PyData} (h1 : RdL K F a us) (h3 : RdL K F b ws) (h2 : DRs K F us xs) (h4 : DRs K F ws ys) : WalkD K true F (Itz K a b) (zipD xs ys) :=
  ⟨fun H => SqL K H a us ∧ SqL K H b ws, YPair (fun i => us[i]?) (fun i => ws[i]?), walk_zip (by rw [zipD_length, h2.length, h4.length]), fun H e => ⟨(h1.mono e).sq, (h3.mono e).sq⟩, fun i H x H' d _ e y => yld_pair h2 h4 e y⟩
theorem walkD_zipT {K : PySem.W.Frag} {F : Hp} {a b : Addr} {us ws : List V} {xs ys : List PyData} (h1 : SqT K F a us) (h3 : SqT K F b ws) (h2 : DRs K F us xs) (h4 : DRs K F ws ys) : WalkD K true F (RZ.ItzT K a b) (zipD xs ys) :=
  ⟨fun H => SqT K H a us ∧ SqT K H b ws, YPair (fun i => us[i]?) (fun i => ws[i]?), by rw [zipD_length, ← h2.length, ← h4.length]; exact walk_zipT, fun H e => ⟨Evl.ex_t e h1, Evl.ex_t e h3⟩, fun i H x H' d _ e y => yld_pair h2 h4 e y⟩
theorem izip {elts : List Expr} {kk : Nat} {tpos p : Pos} (hm : X.mg "zip" = none) (ha : PA X [a, b] (liftA X.K Z was)) (hg : Gl X "zip" := by rfl) (hs : starEach [a, b] X.env = (false, eval a X.env) :: starEach [b] X.env := by rfl)
    (hpl : (backTo pos (starEach [b] X.env)).any (·.1) = false := by rfl) : PI X (.Tuple elts kk tpos) (.Call (.Name "zip" p) [a, b] [] pos) (liftI X.K Z true (dIt zipQ was)) :=
  PI.of (RZ.pi_zipA hg hm ha hs hpl) fun σ H R ⟨g, F, env, P, k, w, q⟩ => ⟨g, F, env, _, k, w, fun ds env1 vs F1 H1 p e1 k1 r1 => by
    unfold zipQ at p
    split at p
    · obtain ⟨v, u, rfl, r2, r3⟩ := r1.inv2
      obtain ⟨a, us, rfl, h1, h2⟩ := r2.inv_lst
      obtain ⟨b, ws, rfl, h3, h4⟩ := r3.inv_lst
      exact ⟨a, b, us, ws, rfl, .inl ⟨(h1.mono k1.fh).sq, (h3.mono k1.fh).sq, q _ env1 _ F1 H1 p.out e1 k1 (walkD_zipL h1 h3 h2 h4)⟩⟩
    · obtain ⟨v, u, rfl, r2, r3⟩ := r1.inv2
      obtain ⟨a, us, rfl, h1, h2⟩ := r2.inv_tup
      obtain ⟨b, ws, rfl, h3, h4⟩ := r3.inv_tup
      exact ⟨a, b, us, ws, rfl, .inr ⟨Evl.ex_t k1.fh h1, Evl.ex_t k1.fh h3, q _ env1 _ F1 H1 p.out e1 k1 (walkD_zipT h1 h3 h2 h4)⟩⟩
    · exact p.elim⟩
def qFor {I S : Type} (b : PyData → I → S → (I → S → Prop) → (I → S → Prop) → Prop) (i : I) : List PyData → S → (S → Prop) → Prop
  | [], s, K => K s
  | d :: r, s, K => b d i s (same i fun s => qFor b i r s K) (same i K)
abbrev dForQ {κ I S : Type} (is : List Nat) (dec : List SD → Option (I × S)) (emb : I → S → List SD) (kk : RT → κ) (qb : κ → PyData → I → S → (I → S → Prop) → (I → S → Prop) → Prop) (wi : DI) (E : DEnds) (env : List SD) : Prop :=
  wi env fun items env1 => decP is dec (fun i s => qFor (qb (kk E.rt)) i items s fun s => E.nx (emb i s)) env1
theorem sforQ {κ I S : Type} (is : List Nat) (dec : List SD → Option (I × S)) (emb : I → S → List SD) (kk : RT → κ) (qb : κ → PyData → I → S → (I → S → Prop) → (I → S → Prop) → Prop)
    (hde : ∀ env i s, dec env = some (i, s) → env = emb i s) {tg iter : Expr} {body : List Stmt} {wi : DI} {t : DG} {bb : Bool} (hp : PassesOwn (model X.prog X.w) X.A X.env X.xe) (hc : X.calm = true) (hi : PI X tg iter (liftI X.K Z bb wi)) (hg : PG X tg (liftG X.K Z bb t)) (hb : PSs X body (liftS X.K Z m w))
    (hq : ∀ (R : RT) (d : PyData) (i : I) (s : S) (nx bk : I → S → Prop), qb (kk R) d i s nx bk → t d (emb i s) fun env1 => w { nx := decP is dec nx, ct := decP is dec nx, bk := decP is dec bk, rt := R } env1)
    (hs : ∀ x, foldedSetIterable iter X.env x = pure x := by intro _; rfl) : PS X (.For tg iter body [] pos) (liftS X.K Z m (dForQ is dec emb kk qb wi)) :=
  PS.of (ps_for hp hc hi hg hb hs) fun D σ H ⟨g, F, env, P, k, w0, q⟩ => ⟨g, F, env, _, k, w0, fun items env1 J F1 H1 p e1 k1 ⟨G, Y, wk, hG, hY⟩ => by
    have q := q.ex e1
    obtain ⟨i0, s0, d0, p⟩ := decP_inv p
    have fin : ∀ {env' : List SD} {σ' : L2.St} {F' H' : Hp}, decP is dec (same i0 fun s => P.nx (emb i0 s)) env' → Ex F1 F' → Ok X.K g F' env' σ' H' → D.nx σ' H' := fun {env' σ' F' H'} p e k => by
      obtain ⟨i, s, d, rfl, p⟩ := decP_inv p
      have k2 := k.unS (is := is)
      rw [hde _ _ _ d] at k2
      exact q.nx _ _ _ _ p e k2
    refine for_it wk (fun j σ' H' => ∃ env' F', Ex F1 F' ∧ Ok X.K g F' env' σ' H' ∧ decP is dec (same i0 fun s => qFor (qb (kk P.rt)) i0 (items.drop j) s fun s => P.nx (emb i0 s)) env') ⟨env1, F1, Ex.refl F1, k1, by unfold decP; rw [d0]; exact ⟨rfl, p⟩⟩ (fun i σ' H' _ ⟨env', F', e2, k2, _⟩ => hG H' (e2.trans k2.fh)) (fun j x σ' H' H2 hj ⟨env', F', e2, k2, w2⟩ y => ?_) fun σ' H' ⟨env', F', e2, k2, w2⟩ => ?_
    · obtain ⟨i, s, de, rfl, w3⟩ := decP_inv w2
      have k2 := k2.unS (is := is)
      rw [hde _ _ _ de] at k2
      have hd : items.drop j = items[j] :: items.drop (j + 1) := List.drop_eq_getElem_cons hj
      rw [hd] at w3
      obtain ⟨F3, e3, k3, r3⟩ := k2.yld e2 (hY j H' x H2 items[j] (e2.trans k2.fh) (by simp [hj]) y)
      have e13 := e2.trans e3
      refine ⟨g, F3, _, _, _, k3, r3, hq P.rt _ i s _ _ w3, fun env4 σ4 F4 H4 p4 e4 k4 => ⟨g, F4, env4, _, k4, p4, ?_⟩⟩
      have e14 := e13.trans e4
      exact .mk4 (.mk (fun env5 σ5 F5 H5 p5 e5 k5 => ⟨env5, F5, e14.trans e5, k5, p5⟩) (fun env5 σ5 F5 H5 p5 e5 k5 => fin p5 (e14.trans e5) k5) (fun env5 σ5 F5 H5 p5 e5 k5 => ⟨env5, F5, e14.trans e5, k5, p5⟩) (fun r env5 v σ5 F5 H5 p5 e5 k5 r5 => q.rt r env5 v σ5 F5 H5 p5 (e14.trans e5) k5 r5)) rfl
    · rw [List.drop_length] at w2
      exact fin w2 e2 k2⟩
end
end DL

namespace DL
variable {T : List (PySem.Addr × PySem.Str)} {Z : Zx T}
open PySem PySem.Spec PyProof.Rows L2
open Evl (Ex)

def wipeD (env : List SD) : List Nat → List SD
  | [] => env
  | v :: vs => (wipeD env vs).set v .un
def setAll (σ : L2.St) : List Nat → List V → L2.St
  | i :: is, v :: vs => setAll (σ.set i (some v)) is vs
  | _, _ => σ
def setAllD (env : List SD) : List Nat → List PyData → List SD
  | i :: is, d :: ds => setAllD (env.set i (.dat d)) is ds
  | _, _ => env
theorem wipe_get (σ : L2.St) : ∀ (vs : List Nat) (j : Nat), (wipe σ vs)[j]? = if j ∈ vs then (σ[j]?).map (fun _ => none) else σ[j]?
  | [], j => by simp [wipe]
  | v :: vs, j => by
    unfold wipe
    rw [List.getElem?_set]
    by_cases h : v = j
    · subst h
      rw [if_pos rfl, if_pos List.mem_cons_self, wipe_length]
      by_cases hl : v < σ.length
      · rw [if_pos hl]
        simp [hl]
      · rw [if_neg hl]
        simp [Nat.le_of_not_lt hl]
    · rw [if_neg h, wipe_get σ vs j]
      by_cases hj : j ∈ vs
      · rw [if_pos hj, if_pos (List.mem_cons_of_mem _ hj)]
      · rw [if_neg hj, if_neg (fun z => (List.mem_cons.mp z).elim (fun z => h z.symm) hj)]
theorem wipe_set {σ : L2.St} {vs : List Nat} {i : Nat} {o : Option V} (h : i ∈ vs) : wipe (σ.set i o) vs = wipe σ vs := List.ext_getElem? fun j => by
  rw [wipe_get, wipe_get]
  by_cases hj : j ∈ vs
  · rw [if_pos hj, if_pos hj, List.getElem?_set]
    by_cases e : i = j
    · subst e
      rw [if_pos rfl]
      by_cases hl : i < σ.length
      · simp [hl]
      · rw [if_neg hl]
        simp [Nat.le_of_not_lt hl]
    · rw [if_neg e]
  · have ne : i ≠ j := fun e => by subst e; exact hj h
    rw [if_neg hj, if_neg hj, List.getElem?_set, if_neg ne]
theorem wipe_all {vs : List Nat} : ∀ {is : List Nat} {us : List V} {σ : L2.St}, (∀ i ∈ is, i ∈ vs) → wipe (setAll σ is us) vs = wipe σ vs
  | [], _, _, _ => by simp [setAll]
  | i :: is, [], _, _ => by simp [setAll]
  | i :: is, u :: us, σ, h => by
    unfold setAll
    rw [wipe_all (fun j hj => h j (List.mem_cons_of_mem _ hj)), wipe_set (h i List.mem_cons_self)]
theorem wipe_wipe {vs : List Nat} {σ : L2.St} : wipe (wipe σ vs) vs = wipe σ vs := List.ext_getElem? fun j => by
  rw [wipe_get, wipe_get]
  by_cases hj : j ∈ vs
  · rw [if_pos hj, if_pos hj]
    cases σ[j]? <;> rfl
  · rw [if_neg hj, if_neg hj]
section
variable {K : PySem.W.Frag} {g : Gx Z} {F F' : Hp} {env : List SD} {σ : L2.St} {H : Hp}
theorem noPar_un {env : List SD} {i j : Nat} {r : SD} (h : NoPar env j) (hr : ∀ xs, r ≠ .cel true xs) : NoPar (env.set i r) j := fun xs e => by
  rcases get_set e with ⟨_, q⟩ | ⟨_, q⟩
  · exact hr xs q.symm
  · exact h xs q
theorem noPar_wipe {env : List SD} {j : Nat} (h : NoPar env j) : ∀ vs : List Nat, NoPar (wipeD env vs) j
  | [] => h
  | v :: vs => noPar_un (noPar_wipe h vs) (fun _ z => by cases z)
theorem Ok.wiped (k : Ok K g F env σ H) : ∀ {vs : List Nat}, (∀ v ∈ vs, NoPar env v) → Ok K g F (wipeD env vs) (wipe σ vs) H
  | [], _ => k
  | v :: vs, h => (k.wiped (vs := vs) fun u hu => h u (List.mem_cons_of_mem _ hu)).setU (noPar_wipe (h v List.mem_cons_self) vs)
theorem Ok.setAll : ∀ {is : List Nat} {us : List V} {ds : List PyData} {env : List SD} {σ : L2.St}, Ok K g F env σ H → (∀ i ∈ is, NoPar env i) → DRs K F us ds → Ok K g F (setAllD env is ds) (DL.setAll σ is us) H
  | [], _, _, _, _, k, _, _ => by simpa [DL.setAll, setAllD] using k
  | i :: is, _, _, _, _, k, h, .nil => by simpa [DL.setAll, setAllD] using k
  | i :: is, _, _, _, _, k, h, .cons a b => by
    unfold DL.setAll setAllD
    exact Ok.setAll (k.setD (h i List.mem_cons_self) a) (fun j hj => noPar_un (h j (List.mem_cons_of_mem _ hj)) (fun _ z => by cases z)) b
theorem Ok.unwiped {vs : List Nat} (k : Ok K g F env (wipe σ vs) H) : Ok K g F env σ H := by
  have up : ∀ {i : Nat} {v : V}, (wipe σ vs)[i]? = some (some v) → σ[i]? = some (some v) := fun {i v} e => by
    rw [wipe_get] at e
    by_cases hj : i ∈ vs
    · rw [if_pos hj] at e
      cases q : σ[i]? with
      | none => rw [q] at e; cases e
      | some o => rw [q] at e; cases e
    · rw [if_neg hj] at e
      exact e
  have dn : ∀ {j : Nat} {p : Bool} {ys : List PyData} {a : Addr}, env[j]? = some (.cel p ys) → σ[j]? = some (some (.ref a)) → (wipe σ vs)[j]? = some (some (.ref a)) := fun {j p ys a} e q => by
    obtain ⟨b, _, h1, _⟩ := k.cel j p ys e
    have := up h1
    rw [q] at this
    cases this
    exact h1
  refine ⟨k.len.trans (wipe_length σ vs), k.fh, fun i d e => ?_, fun i p xs e => ?_, fun i j p q xs ys a h1 h2 h3 h4 => k.sep i j p q xs ys a h1 h2 (dn h1 h3) (dn h2 h4), k.pin, k.frame, k.newF, k.oldF, fun a o e => ?_, ?_⟩
  · obtain ⟨v, h1, h2⟩ := k.dat i d e
    exact ⟨v, up h1, h2⟩
  · obtain ⟨a, us, h1, h2⟩ := k.cel i p xs e
    exact ⟨a, us, up h1, h2⟩
  · obtain ⟨z1, z2, z3⟩ := k.prot a o e
    exact ⟨z1, z2, fun j p ys e1 e2 => z3 j p ys e1 (dn e1 e2)⟩
  · obtain ⟨B, h1, h2⟩ := k.dic
    refine ⟨B, fun i w e => let ⟨a, z1, z2⟩ := h1 i w e; ⟨a, up z1, z2⟩, fun i j w w' a b e1 e2 z1 z2 => h2 i j w w' a b e1 e2 ?_ ?_⟩
    · obtain ⟨c, y1, _⟩ := h1 i w e1
      have := up y1
      rw [z1] at this
      cases this
      exact y1
    · obtain ⟨c, y1, _⟩ := h1 j w' e2
      have := up y1
      rw [z2] at this
      cases this
      exact y1
theorem set_same {α : Type} {l : List α} {i : Nat} {x : α} (h : l[i]? = some x) : l.set i x = l := List.ext_getElem? fun j => by
  rw [List.getElem?_set]
  by_cases e : i = j
  · subst e
    rw [if_pos rfl, if_pos (List.getElem?_eq_some_iff.mp h).1, h]
  · rw [if_neg e]
/-- what stood at the slots vs is known again -/
def again (env1 : List SD) : List Nat → List SD → List SD
  | [], env2 => env2
  | v :: vs, env2 => match env1[v]? with
    | some (.dat d) => again env1 vs (env2.set v (.dat d))
    | _ => again env1 vs env2
theorem Ok.again {F1 H1 : Hp} {env1 : List SD} (k1 : Ok K g F1 env1 σ H1) (ex : Ex F1 F) : ∀ {vs : List Nat} {env2 : List SD}, Ok K g F env2 σ H → (∀ v ∈ vs, NoPar env2 v) → Ok K g F (DL.again env1 vs env2) σ H
  | [], _, k, _ => k
  | v :: vs, env2, k, h => by
    unfold DL.again
    split
    · rename_i d e
      obtain ⟨u, h1, h2⟩ := k1.dat v d e
      have k2 := k.setD (h v List.mem_cons_self) (h2.mono ex)
      rw [set_same h1] at k2
      exact Ok.again k1 ex k2 fun j hj => noPar_un (h j (List.mem_cons_of_mem _ hj)) (fun _ z => by cases z)
    · exact Ok.again k1 ex k fun j hj => h j (List.mem_cons_of_mem _ hj)
/-- the cell at D, no name's, protected -/
theorem Ok.hide (k : Ok K g F env σ H) {D : Addr} {vs : List V} (hF : F D = none) (hH : H D = some (.lst vs)) (nw : ∀ (j : Nat) (p : Bool) (ys : List PyData), env[j]? = some (.cel p ys) → σ[j]? ≠ some (some (.ref D))) (hp : g.Pr D = none) : Ok K (g.hid D vs hp) F env σ H :=
  ⟨k.len, k.fh, k.dat, k.cel, k.sep, k.pin, k.frame, k.newF, k.oldF, fun a o e => by
    by_cases z : a = D
    · subst z
      have e' : upd g.Pr a (.lst vs) a = some o := e
      rw [upd_same] at e'
      cases e'
      exact ⟨hH, hF, nw⟩
    · have e' : upd g.Pr D (.lst vs) a = some o := e
      rw [upd_ne z] at e'
      exact k.prot a o e',
    k.dic.keep (Ex.refl F) (fun a xs e n => by
      have ne : a ≠ D := fun z => by rw [z, hH] at e; cases e
      show upd g.Pr D (.lst vs) a = none
      rw [upd_ne ne]
      exact n) fun a xs _ n => ⟨n, rfl⟩⟩
theorem Ok.bare {D : Addr} {vs : List V} (hp : g.Pr D = none) (k : Ok K (g.hid D vs hp) F env σ H) :
    Ok K g F env σ H ∧ F D = none ∧ H D = some (.lst vs) ∧ ∀ (j : Nat) (p : Bool) (ys : List PyData), env[j]? = some (.cel p ys) → σ[j]? ≠ some (some (.ref D)) := by
  obtain ⟨z1, z2, z3⟩ := k.prot D (.lst vs) upd_same
  refine ⟨⟨k.len, k.fh, k.dat, k.cel, k.sep, k.pin, k.frame, k.newF, k.oldF, fun a o e => ?_, (k.dic.keep (Ex.refl F) (fun a xs e n => ?_) fun a xs _ n => ⟨n, rfl⟩)⟩, z2, z1, z3⟩
  · have ne : a ≠ D := fun z => by rw [z, hp] at e; cases e
    exact k.prot a o (show upd g.Pr D (.lst vs) a = some o by rw [upd_ne ne]; exact e)
  · have ne : a ≠ D := fun z => by rw [z, z1] at e; cases e
    have n : upd g.Pr D (.lst vs) a = none := n
    rw [upd_ne ne] at n
    exact n
/-- a cell of no name is written -/
theorem Ok.writeP (k : Ok K g F env σ H) {D : Addr} {o o0 : HO} (hD : H D = some o0) (hn : ∀ φ, o0 ≠ .ext φ) (t1 : ∀ ps, o0 ≠ .tbl ps) (t2 : ∀ q, o0 ≠ LamX.CodeO D q) (hF : F D = none) (h0 : g.H0 D = none) (hp : g.Pr D = none) (nw : ∀ (j : Nat) (p : Bool) (ys : List PyData), env[j]? = some (.cel p ys) → σ[j]? ≠ some (some (.ref D))) : Ok K g F env σ (upd H D o) := by
  refine ⟨k.len, fun a u e => ?_, k.dat, fun i p xs e => ?_, k.sep, k.pin, k.frame.putO hD t1 t2 (fun o e => by rw [h0] at e; cases e), k.newF, k.oldF, fun a u e => ?_, (k.dic.keep (Ex.refl F) (fun _ _ _ z => z) fun a xs e n => ⟨n, upd_ne fun z => ?_⟩)⟩
  · have ne : a ≠ D := fun z => by rw [z, hF] at e; cases e
    rw [upd_ne ne]
    exact k.fh a u e
  · obtain ⟨a, us, h1, h2, h3, h4⟩ := k.cel i p xs e
    have ne : a ≠ D := fun z => by subst z; exact nw i p xs e h1
    exact ⟨a, us, h1, h2, by rw [upd_ne ne]; exact h3, h4⟩
  · obtain ⟨z1, z2, z3⟩ := k.prot a u e
    have ne : a ≠ D := fun z => by rw [z, hp] at e; cases e
    exact ⟨by rw [upd_ne ne]; exact z1, z2, z3⟩
  · subst z
    rw [hD] at e
    exact hn xs (Option.some.inj e)
end

inductive CT where
  | one (i : Nat)
  | tup (is : List Nat)
def CT.slots : CT → List Nat
  | .one i => [i]
  | .tup is => is
def gNs : List Nat → TGs
  | [] => gNil
  | i :: is => gCons (gName i) (gNs is)
/-- the target's reading -/
def CT.g (K : PySem.W.Frag) : CT → TG
  | .one i => gName i
  | .tup is => gTup K is.length (gNs is)
def setK : List Nat → List PyData → List SD → (List SD → Prop) → Prop
  | [], ds, env, P => nilQ ds (P env)
  | i :: is, ds, env, P => consQ ds fun d r => setK is r (env.set i (.dat d)) P
theorem setK_inv : ∀ {is : List Nat} {ds : List PyData} {env : List SD} {P : List SD → Prop}, setK is ds env P → ds.length = is.length ∧ P (setAllD env is ds)
  | [], ds, env, P, h => by
    obtain ⟨rfl, h⟩ := nilQ_inv h
    exact ⟨rfl, h⟩
  | i :: is, ds, env, P, h => by
    obtain ⟨d, r, rfl, h⟩ := consQ_inv h
    obtain ⟨e, h⟩ := setK_inv (is := is) h
    exact ⟨by simp [e], h⟩
def CT.d : CT → DG
  | .one i => fun x env P => P (env.set i (.dat x))
  | .tup is => fun x env P => tupQ x fun ds => setK is ds env P
theorem gNs_ok : ∀ {is : List Nat} {vs : List V} {σ : L2.St} {H : Hp} {Q : L2.St → Hp → Prop}, vs.length = is.length → Q (setAll σ is vs) H → gNs is vs σ H Q
  | [], [], σ, H, Q, _, h => ⟨rfl, by simpa [setAll] using h⟩
  | [], _ :: _, _, _, _, e, _ => by simp at e
  | _ :: _, [], _, _, _, e, _ => by simp at e
  | i :: is, v :: vs, σ, H, Q, e, h => ⟨v, vs, rfl, gNs_ok (by simpa using e) (by unfold setAll at h; exact h)⟩
/-- whether the target is a tuple of names -/
def CT.isT : CT → Bool
  | .one _ => false
  | .tup _ => true
theorem CT.ok {K : PySem.W.Frag} {g : Gx Z} {F H : Hp} {env : List SD} {σ : L2.St} {t : CT} {x : V} {d : PyData} {P : List SD → Prop} {Q : L2.St → Hp → Prop} (k : Ok K g F env σ H) (hn : ∀ i ∈ t.slots, NoPar env i) (r : DRw K t.isT F x d) (w : t.d d env P)
    (q : ∀ env' σ', P env' → Ok K g F env' σ' H → (∃ us, σ' = setAll σ t.slots us) → Q σ' H) : t.g K x σ H Q := by
  cases t with
  | one i => exact q _ _ w (k.setD (hn i (List.mem_singleton.mpr rfl)) r.non) ⟨[x], by simp [CT.slots, setAll]⟩
  | tup is =>
    obtain ⟨ds, rfl, w⟩ := tupQ_inv w
    have w := setK_inv w
    obtain ⟨a, xs, rfl, h1, h2⟩ := r.tup
    exact ⟨a, xs, rfl, Evl.ex_t k.fh h1, h2.length.trans w.1, gNs_ok (h2.length.trans w.1) (q _ _ w.2 (k.setAll hn h2) ⟨xs, rfl⟩)⟩
def decQ {I S : Type} (dec : List SD → Option (I × S)) (N : I → S → Prop) (env : List SD) : Prop := match dec env with
  | some (i, s) => N i s
  | none => False
theorem decQ_inv {I S : Type} {dec : List SD → Option (I × S)} {N : I → S → Prop} {env : List SD} (h : decQ dec N env) : ∃ i s, dec env = some (i, s) ∧ N i s := by
  unfold decQ at h
  split at h
  · exact ⟨_, _, ‹_›, h⟩
  · exact h.elim
def qLc {I S : Type} (b : PyData → I → S → (I → S → Prop) → (PyData → I → S → Prop) → Prop) (i : I) : List PyData → List PyData → S → (List PyData → S → Prop) → Prop
  | [], acc, s, K => K acc s
  | d :: r, acc, s, K => b d i s (same i fun s => qLc b i r acc s K) fun y => same i fun s => acc.length < 100000 ∧ qLc b i r (acc ++ [y]) s K
abbrev dLcQ {I S : Type} (dec : List SD → Option (I × S)) (emb : I → S → List SD) (qb : PyData → I → S → (I → S → Prop) → (PyData → I → S → Prop) → Prop) (wi : DI) (t : CT) (env : List SD) (P : SD → List SD → Prop) : Prop :=
  wi env fun items env1 => bIf (t.slots.all (noPar env1)) (decQ dec (fun i s => qLc qb i items [] s fun acc s => bIf (t.slots.all (noPar (emb i s))) (P (.cel false acc) (again env1 t.slots (emb i s))) False) (wipeD env1 t.slots)) False
def LcHyp {I S : Type} (dec : List SD → Option (I × S)) (emb : I → S → List SD) (qb : PyData → I → S → (I → S → Prop) → (PyData → I → S → Prop) → Prop) (t : CT) (c : DT) (we : DE) : Prop :=
  ∀ (d : PyData) (i : I) (s : S) (sk : I → S → Prop) (yd : PyData → I → S → Prop), qb d i s sk yd → t.d d (emb i s) fun env1 => c env1 fun b env2 => bIf b
    (we env2 fun y env3 => bIf (t.slots.all (noPar env3)) (decQ dec (yd y) (wipeD env3 t.slots)) False)
    (bIf (t.slots.all (noPar env2)) (decQ dec sk (wipeD env2 t.slots)) False)
theorem noPar_all {env : List SD} {vs : List Nat} (h : vs.all (noPar env) = true) : ∀ v ∈ vs, NoPar env v := fun v hv => noPar_of (List.all_eq_true.mp h v hv)
theorem lift_lc {K : PySem.W.Frag} {I S : Type} {dec : List SD → Option (I × S)} {emb : I → S → List SD} {qb : PyData → I → S → (I → S → Prop) → (PyData → I → S → Prop) → Prop} (hde : ∀ env i s, dec env = some (i, s) → env = emb i s)
    {wi : DI} {t : CT} {c : DT} {we : DE} (hq : LcHyp dec emb qb t c we) {σ : L2.St} {H : Hp} {Q : VK} (h : liftX K Z (dLcQ dec emb qb wi t) σ H Q) : tLc (liftI K Z t.isT wi) (t.g K) (liftT K Z c) (liftE K Z we) t.slots σ H Q := by
  obtain ⟨g, F, env, P, k, w, q⟩ := h
  refine ⟨g, F, env, _, k, w, fun items env1 J F1 H1 p e1 k1 ⟨G, Y, wk, hG, hY⟩ D hD => ?_⟩
  obtain ⟨np, p⟩ := bIf_and p
  obtain ⟨i0, s0, d0, p⟩ := decQ_inv p
  have kw := k1.wiped (noPar_all np)
  obtain ⟨kn, rn⟩ := kw.newCell hD (vs := []) (xs := []) .nil
  refine lc_it wk (fun j H' => ∃ env' F' acc, Ex F1 F' ∧ Ok K g F' env' (wipe σ t.slots) H' ∧ ResOk K g F' env' (wipe σ t.slots) H' (.ref D) (.cel false acc) ∧ (∀ v ∈ t.slots, NoPar env' v) ∧
      decQ dec (same i0 fun s => qLc qb i0 (items.drop j) acc s fun acc s => bIf (t.slots.all (noPar (emb i0 s))) (P (.cel false acc) (again env1 t.slots (emb i0 s))) False) env')
    ⟨_, F1, [], Ex.refl F1, kn, rn, fun v hv => noPar_wipe (noPar_all np v hv) _, by unfold decQ; rw [d0]; exact ⟨rfl, p⟩⟩ (fun i H' _ ⟨env', F', acc, e2, k2, _⟩ => hG H' (e2.trans k2.fh)) (fun j x H' H2 hi ⟨env', F', acc, e2, k2, r2, n2, w2⟩ y => ?_) fun H' ⟨env', F', acc, e2, k2, r2, n2, w2⟩ => ?_
  · obtain ⟨i, s, de, rfl, w3⟩ := decQ_inv w2
    obtain rfl := hde _ _ _ de
    rw [List.drop_eq_getElem_cons hi] at w3
    have w2 := hq _ _ _ _ _ w3
    obtain ⟨D', vsA, eD, hF, hHD, rA, h0, hpr, nw⟩ := r2
    cases eD
    have kh := k2.hide hF hHD nw hpr
    obtain ⟨F3, e3, k3, r3⟩ := kh.yld e2 (hY j H' x H2 items[j] (e2.trans k2.fh) (by simp [hi]) y)
    refine CT.ok k3 n2 r3 w2 fun env4 σ4 p4 k4 ⟨us, hσ⟩ => ?_
    have hw : wipe σ4 t.slots = wipe σ t.slots := by rw [hσ, wipe_all (fun i hi => hi), wipe_wipe]
    refine ⟨hw, _, F3, env4, _, k4, p4, fun b env5 F5 H5 p5 e5 k5 => ?_⟩
    cases b with
    | false =>
      refine iteF ?_
      have p5 := bIf_and p5
      obtain ⟨k6, z1, z2, z3⟩ := Ok.bare hpr k5
      have k7 := k6.wiped (noPar_all p5.1)
      rw [hw] at k7
      refine ⟨_, F5, acc, (e2.trans e3).trans e5, k7, ?_, fun v hv => noPar_wipe (noPar_all p5.1 v hv) _, p5.2⟩
      refine ⟨D, vsA, rfl, z1, z2, rA.mono (e3.trans e5), h0, hpr, fun j p ys ej ez => ?_⟩
      rw [← hw] at ez
      exact wiped_cell z3 ej ez
    | true =>
      refine iteT ⟨_, F5, env5, _, k5, p5, fun d env6 v F6 H6 p6 e6 k6 r6 => ?_⟩
      obtain ⟨np6, p6⟩ := bIf_and p6
      obtain ⟨i6, s6, d6, hi6, p6⟩ := decQ_inv p6
      obtain ⟨k7, z1, z2, z3⟩ := Ok.bare hpr k6
      refine ⟨vsA, z2, by rw [rA.length]; exact Evl.sz_lt p6.1, ?_⟩
      have k8 := k7.wiped (noPar_all np6)
      have z4 : ∀ (j : Nat) (p : Bool) (ys : List PyData), (wipeD env6 t.slots)[j]? = some (.cel p ys) → (wipe σ4 t.slots)[j]? ≠ some (some (.ref D)) := fun j p ys ej ez => wiped_cell z3 ej ez
      have k9 := k8.writeP (o := .lst (vsA ++ [v])) z2 (fun _ z => by cases z) (fun _ z => by cases z) (fun _ z => codeO_lst z.symm) z1 h0 hpr z4
      rw [hw] at k9 z4
      exact ⟨_, F6, acc ++ [d], ((e2.trans e3).trans e5).trans e6, k9, ⟨D, vsA ++ [v], rfl, z1, upd_same, (rA.mono ((e3.trans e5).trans e6)).append (.one r6), h0, hpr, z4⟩, fun v hv => noPar_wipe (noPar_all np6 v hv) _, by unfold decQ; rw [d6]; exact ⟨hi6, p6.2⟩⟩
  · obtain ⟨i, s, de, rfl, w3⟩ := decQ_inv w2
    obtain rfl := hde _ _ _ de
    rw [List.drop_length] at w3
    have w2 := bIf_and w3
    have k3 := k2.unwiped
    have k4 := Ok.again k1 e2 k3 (noPar_all w2.1)
    obtain ⟨D', vsA, eD, hF, hHD, rA, h0, hpr, nw⟩ := r2
    cases eD
    refine q _ _ _ F' H' w2.2 (e1.trans e2) k4 ⟨D, vsA, rfl, hF, hHD, rA, h0, hpr, fun j p ys ej ez => ?_⟩
    have ej' := again_cell ej
    obtain ⟨a, _, b1, _⟩ := k3.cel j p ys ej'
    obtain ⟨a2, _, b2, _⟩ := k2.cel j p ys ej'
    have b3 := wipe_some b2
    rw [ez] at b1
    cases b1
    rw [ez] at b3
    cases b3.1
    exact nw j p ys ej' b2
where
  wiped_cell {env : List SD} {σ : L2.St} {D : Addr} {vs : List Nat} (z : ∀ (j : Nat) (p : Bool) (ys : List PyData), env[j]? = some (.cel p ys) → σ[j]? ≠ some (some (.ref D))) {j : Nat} {p : Bool} {ys : List PyData} (e : (wipeD env vs)[j]? = some (.cel p ys)) (e2 : (wipe σ vs)[j]? = some (some (.ref D))) : False := by
    have h1 := (wipe_some e2).1
    have : ∀ vs : List Nat, (wipeD env vs)[j]? = some (.cel p ys) → env[j]? = some (.cel p ys) := fun vs => by
      induction vs with
      | nil => exact id
      | cons v vs ih =>
        intro h
        rcases get_set h with ⟨_, q⟩ | ⟨_, q⟩
        · cases q
        · exact ih q
    exact z j p ys (this vs e) h1
  again_cell {env1 : List SD} {vs : List Nat} {env2 : List SD} {j : Nat} {p : Bool} {ys : List PyData} (e : (again env1 vs env2)[j]? = some (.cel p ys)) : env2[j]? = some (.cel p ys) := by
    induction vs generalizing env2 with
    | nil => exact e
    | cons v vs ih =>
      unfold again at e
      split at e
      · have := ih e
        rcases get_set this with ⟨_, q⟩ | ⟨_, q⟩
        · cases q
        · exact q
      · exact ih e
section
variable {X : Cx} {elt tg iter : Expr} {ifs : List Expr} {scope : Scope} {own : List (Str × Nat)} {pos : Pos} {wi : DI} {t : CT} {c : DT} {we : DE} {m : Nat} {I S : Type} {dec : List SD → Option (I × S)} {emb : I → S → List SD} {qb : PyData → I → S → (I → S → Prop) → (PyData → I → S → Prop) → Prop}
abbrev dYes (env : List SD) (P : Bool → List SD → Prop) : Prop := P true env
theorem tyes : PTs X [] (liftT X.K Z dYes) := ⟨fun pins s σ H Q I ⟨g, F, env, P, k, w, q⟩ => pts_nil.run pins s σ H Q I (q true env F H w (Ex.refl F) k)⟩
theorem tif1 {e : Expr} (h : PT X e (liftT X.K Z c)) : PTs X [e] (liftT X.K Z c) := pts_one h
/-- [elt for tg in iter if ..] -/
theorem dlc (own : List (Str × Nat)) (t : CT) (hde : ∀ env i s, dec env = some (i, s) → env = emb i s) (hc : X.calm = true) (hN : X.N.Nodup) (hi : PI X tg iter (liftI X.K Z t.isT wi)) (ok : BlkOk X.N X.env.scope scope own)
    (hg : ∀ (s : Shared) (H : Hp) (C : Addr) (cl : List (Str × Addr)) (fp : List Addr), PG (X.blk s H scope (compEnvC scope cl C X.env) fp) tg (t.g X.K)) (ht : ∀ (s : Shared) (H : Hp) (C : Addr) (cl : List (Str × Addr)) (fp : List Addr), PTs (X.blk s H scope (compEnvC scope cl C X.env) fp) ifs (liftT X.K Z c))
    (he : ∀ (s : Shared) (H : Hp) (C : Addr) (cl : List (Str × Addr)) (fp : List Addr), PE (X.blk s H scope (compEnvC scope cl C X.env) fp) elt (liftE X.K Z we)) (hq : LcHyp dec emb qb t c we) (hsl : t.slots = own.map (·.2) := by rfl) (hs : ∀ x, foldedSetIterable iter X.env x = pure x := by intro _; rfl) :
    PE X (.ListComp elt [⟨tg, iter, ifs, 0⟩] scope pos) (liftX X.K Z (dLcQ dec emb qb wi t)) := PE.of (pe_lc hc hN hi ok hg ht he hs) fun σ H Q h => by
  have h2 := lift_lc hde hq h
  rw [hsl] at h2
  exact h2
/-- name = [elt for tg in iter if ..] -/
theorem ssetLc (i : Nat) (own : List (Str × Nat)) (t : CT) (hde : ∀ env i s, dec env = some (i, s) → env = emb i s) {y : Str} {py spos : Pos} (hc : X.calm = true) (hN : X.N.Nodup) (hi : PI X tg iter (liftI X.K Z t.isT wi)) (ok : BlkOk X.N X.env.scope scope own)
    (hg : ∀ (s : Shared) (H : Hp) (C : Addr) (cl : List (Str × Addr)) (fp : List Addr), PG (X.blk s H scope (compEnvC scope cl C X.env) fp) tg (t.g X.K)) (ht : ∀ (s : Shared) (H : Hp) (C : Addr) (cl : List (Str × Addr)) (fp : List Addr), PTs (X.blk s H scope (compEnvC scope cl C X.env) fp) ifs (liftT X.K Z c))
    (he : ∀ (s : Shared) (H : Hp) (C : Addr) (cl : List (Str × Addr)) (fp : List Addr), PE (X.blk s H scope (compEnvC scope cl C X.env) fp) elt (liftE X.K Z we)) (hq : LcHyp dec emb qb t c we) (hsw : swapsWith (.ListComp elt [⟨tg, iter, ifs, 0⟩] scope pos) (some (.Name y py)) spos.line X.env = pure true)
    (hsl : t.slots = own.map (·.2) := by rfl) (hy : X.N[i]? = some y := by rfl) (hyl : X.env.scope.names.lookup y = some .local := by rfl) (hs : ∀ x, foldedSetIterable iter X.env x = pure x := by intro _; rfl) :
    PS X (.Assign [.Name y py] (.ListComp elt [⟨tg, iter, ifs, 0⟩] scope pos) spos) (liftS X.K Z m (dSet i (dLcQ dec emb qb wi t))) := PS.of (ps_setLc hc hN hy hyl hsw hi ok hg ht he hs) fun D σ H ⟨g, F, env, P, k, w, q⟩ => by
  have h2 : liftX X.K Z (dLcQ dec emb qb wi t) σ H fun v H1 => D.nx (σ.set i (some v)) H1 := ⟨g, F, env, _, k, w, fun r env1 v F1 H1 p e1 k1 r1 => q.nx _ _ F1 H1 (bIf_and p).2 e1 (k1.setR (bIf_and p).1 (res_own r1) own_ne)⟩
  have h3 := lift_lc hde hq h2
  rw [hsl] at h3
  exact h3
end
end DL

namespace DL
variable {T : List (PySem.Addr × PySem.Str)} {Z : Zx T}
open PySem PySem.Spec PyProof.Rows L2
open Evl (Ex)

section
variable {K : PySem.W.Frag} {F H : Hp} {vs : List V} {as : List SD}
/-- where the cells handed in stand -/
def cellsAt (vs : List V) (as : List SD) (i : Nat) : Option Addr := match as[i]?, vs[i]? with
  | some (.cel _ _), some (.ref a) => some a
  | _, _ => none
theorem cellsAt_of {i : Nat} {p : Bool} {xs : List PyData} {a : Addr} (h1 : as[i]? = some (.cel p xs)) (h2 : vs[i]? = some (.ref a)) : cellsAt vs as i = some a := by
  unfold cellsAt
  rw [h1, h2]
theorem cellsAt_inv {i : Nat} {a : Addr} (h : cellsAt vs as i = some a) : ∃ p xs, as[i]? = some (.cel p xs) ∧ vs[i]? = some (.ref a) := by
  unfold cellsAt at h
  split at h
  · rename_i p xs b h1 h2
    cases h
    exact ⟨p, xs, h1, h2⟩
  · cases h
def entryZ (T : List (Addr × Str)) (P : Program) (w : World) (F H : Hp) (vs : List V) (as : List SD) : Zx T := ⟨F, H, cellsAt vs as, fun _ => none, P, w⟩
def entryG (T : List (Addr × Str)) (P : Program) (w : World) (F H : Hp) (vs : List V) (as : List SD) : Gx (entryZ T P w F H vs as) := ⟨fun _ => none, fun _ _ h => h, fun _ _ h => by cases h⟩
theorem start_get {N : List Str} {i : Nat} {v : V} (h : vs[i]? = some v) : (start N vs)[i]? = some (some v) := by
  unfold L2.start
  have hi : i < vs.length := (List.getElem?_eq_some_iff.mp h).1
  rw [List.getElem?_append_left (by simpa using hi), List.getElem?_map, h]
  rfl
theorem args_get {m i : Nat} {r : SD} (h : (as ++ List.replicate m SD.un)[i]? = some r) (hr : r ≠ .un) : as[i]? = some r := by
  by_cases hi : i < as.length
  · rwa [List.getElem?_append_left hi] at h
  · rw [List.getElem?_append_right (by omega), List.getElem?_replicate] at h
    split at h
    · cases h
      exact absurd rfl hr
    · cases h
theorem entry_ok {N ps : List Str} (ha : ArgsOk T K F H vs as) (hl : as.length = ps.length) (hN : ps.length ≤ N.length) {P : Program} {w : World} : Ok K (entryG T P w F H vs as) F (as ++ List.replicate (N.length - ps.length) .un) (start N vs) H where
  len := by
    unfold L2.start
    have := ha.len
    simp
    omega
  fh := ha.fh
  dat := fun i d e => by
    obtain ⟨v, h1, h2⟩ := ha.dat i d (args_get e (fun z => by cases z))
    exact ⟨v, start_get h1, h2⟩
  cel := fun i p xs e => by
    have e := args_get e (fun z => by cases z)
    obtain ⟨rfl, a, us, h1, h2, h3, h4⟩ := ha.cel i p xs e
    exact ⟨a, us, start_get h1, h2, h3, h4, fun _ => cellsAt_of e h1, fun z => by cases z⟩
  sep := fun i j p q xs ys a e1 e2 h1 h2 => by
    have e1 := args_get e1 (fun z => by cases z)
    have e2 := args_get e2 (fun z => by cases z)
    obtain ⟨_, b, _, b1, _⟩ := ha.cel i p xs e1
    obtain ⟨_, c, _, c1, _⟩ := ha.cel j q ys e2
    rw [start_get b1] at h1
    rw [start_get c1] at h2
    cases h1
    cases h2
    exact ha.sep i j p q xs ys _ e1 e2 b1 c1
  pin := fun i a e => by
    obtain ⟨p, xs, h1, h2⟩ := cellsAt_inv e
    obtain ⟨rfl, _⟩ := ha.cel i p xs h1
    refine ⟨xs, ?_⟩
    rw [List.getElem?_append_left (List.getElem?_eq_some_iff.mp h1).1]
    exact h1
  frame := Frm.refl ha.tab
  newF := fun a o e => .inl e
  oldF := ⟨Ex.refl F, ha.nt⟩
  prot := fun a o e => by cases e
  dic := DicsOk.none fun i w e => ha.nod i w (args_get e (fun z => by cases z))
theorem post_of {P : Program} {w : World} {env : List SD} {σ : L2.St} {F' H' : Hp} {v : V} {r : SD} {n : Nat} (k : Ok K (entryG T P w F H vs as) F' env σ H') (hn : ∀ (i : Nat) (p : Bool) (xs : List PyData), as[i]? = some (.cel p xs) → i < n) (hr : ResOk K (entryG T P w F H vs as) F' env σ H' v r) : PostOk T K F H vs as F' H' (env.take n) v r where
  ex := k.oldF.1
  nt := k.oldF.2
  fh := k.fh
  newF := k.newF
  frame := k.frame.weak fun a o e n i z => by
    obtain ⟨p, xs, h1, h2⟩ := cellsAt_inv z
    exact n i p xs h1 h2
  cel := fun i p xs a h1 h2 => by
    have e : (entryG T P w F H vs as).A0 i = some a := cellsAt_of h1 h2
    obtain ⟨ys, h3⟩ := k.pin i a e
    obtain ⟨b, us, _, c2, c3, c4, c5, _⟩ := k.cel i true ys h3
    have c5 := c5 rfl
    rw [e] at c5
    cases c5
    refine ⟨ys, us, ?_, c2, c3, c4⟩
    rw [List.getElem?_take_of_lt (hn _ _ _ h1)]
    exact h3
  res := by
    cases r with
    | un => exact hr
    | dat d => exact hr
    | cel b xs =>
      obtain ⟨a, us, h1, h2, h3, h4, h5, _⟩ := hr
      exact ⟨a, us, h1, h2, h3, h4, h5⟩
    | dic kvs => exact hr.elim
end

section
variable {P : Program} {w : World} {K : PySem.W.Frag} {mg : Str → Option Value} {base : Heap}
/-- the ends of a def's body -/
def defEnds (m : Nat) (Q : SD → List SD → Prop) : DEnds := { nx := fun env => Q (.dat .none) (env.take m), rt := Q }
/-- cells stand ahead of place m alone -/
def CelsIn (m : Nat) (S : DSp) : Prop := ∀ as Q, S as Q → ∀ (i : Nat) (p : Bool) (xs : List PyData), as[i]? = some (.cel p xs) → i < m
/-- a def of the text, by its body read as data -/
theorem dfn (m : Nat) {x qual : Str} {st : Stmt} {f : Addr} {fd : FuncData} {N ps : List Str} {k : Nat} {S : DSp} (Fn : Fun K x qual st f fd) (sc : FnScope N ps (defScope st)) (len : ∀ as Q, S as Q → as.length = ps.length) (cels : CelsIn m S)
    (hbody : ∀ {Z : Zx T} (cdv : Value) (A : Around) (outer : List Env) (s : Shared) (H : Hp), Room k (A.deeper (envOfC qual (defScope st) s.heap.objs.size f cdv)) → (A.deeper (envOfC qual (defScope st) s.heap.objs.size f cdv)).guards = some [] →
      ∃ t : DS, PSs (cxOf CX0 P w K mg base N qual (defScope st) f cdv A outer s H E0).nox (defBody st) (liftS K Z m t) ∧
        ∀ as Q, S as Q → t (defEnds m Q) (as ++ List.replicate (N.length - ps.length) .un)) : FnG P w K mg base T (k + 1) f fd ps S := by
  obtain ⟨oc, od, kV, doc, pm, an, cdv, ct, osl, rfl, lk, hcd⟩ := Fn.ex
  refine ⟨len, fun A outer s H args us vs Q hr hg e0 hb rv ⟨F0, as, PP, ha, hS, hQ⟩ => ?_⟩
  have hl : vs.length = ps.length := ha.len.symm.trans (len as PP hS)
  have hpl : ps.length ≤ N.length := by
    have := congrArg List.length sc.pre
    rw [List.length_take] at this
    omega
  have KX : K.In s.heap := e0.mod.kin.keeps fun b o e => (e0.bs b o e).1
  refine codeAny_call_function hr.depth (KX _ _ lk) rfl sc.co sc.gen rfl (PySem.W.codeRec_of KX hcd) (hb _ _ _ _ (wpAny_newFunctionEnv_cells sc.kind (fun ⟨n, v⟩ hy => ?_) fun env he s1 x => ?_))
  · rcases sc.par n (List.of_mem_zip hy).1 with q | q
    · exact .inl q
    · exact .inr ⟨q, PySem.W.cellsFrom_some _ _ _ (.inl q)⟩
  · subst he
    obtain ⟨t, ht, hq⟩ := hbody (Z := entryZ T P w F0 H vs as) cdv A outer s H (hr.deeper _) hg
    have I : Inv (cxOf CX0 P w K mg base N qual (defScope st) f cdv A outer s H E0) [] (start N vs) H s1 := inv_start sc hr.hd e0 hl rv x
    refine ⟨(e0.mod.nolimit.keeps fun b o e => (e0.bs b o e).1).keeps x.toInCall.keep, codeAny_func (wpAny_mono (ht.nox.run [] s1 (start N vs) H { nx := fun _ H' => Q .non H', rt := Q } I ?_) (fun fl s' hs => ?_) fun e s' hs => hs)⟩
    · have al : as.length = ps.length := len as PP hS
      refine ⟨entryG T P w F0 H vs as, F0, _, _, entry_ok ha al hpl, hq as PP hS, ?_⟩
      exact .mk4 (.mk (fun env' σ' F' H' p _ k' => hQ _ _ _ _ _ p (post_of k' (cels _ _ hS) .non)) (fun _ _ _ _ p => p.elim) (fun _ _ _ _ p => p.elim) (fun r env' v σ' F' H' p _ k' r' => hQ _ _ _ _ _ p (post_of k' (cels _ _ hS) r'))) rfl
    · have fin : ∀ {σ' : L2.St} {H' : Hp} {v : V} {u : Value}, Inv (cxOf CX0 P w K mg base N qual (defScope st) f cdv A outer s H E0) [] σ' H' s' → RelV v u → Q v H' → CE outer P w H s Q u s' :=
        fun {σ' H' v u} J r q => ⟨v, H', J.os, J.bare, J.base, J.hok, r, q⟩
      match fl, hs with
      | .ret u, ⟨v, σ', H', J, r, q⟩ => exact fin J r q
      | .next, ⟨σ', H', J, q⟩ => exact fin (v := V.non) (u := Value.none) J rfl q
      | .brk, ⟨_, _, _, q⟩ => exact q.elim
      | .cont, ⟨_, _, _, q⟩ => exact q.elim
/-- what is asked of a law's def: of a list of the script's numbers it tells True -/
def lawS (n : Nat) : DSp := fun as Q => match as with
  | [.dat (.list ds)] => (∃ ns : List Int, ds = ns.map .int ∧ ns.length ≤ n) ∧ ∀ as', Q (.dat (.bool true)) as'
  | _ => False
theorem drs_ints {F : Hp} : ∀ ns : List Int, DRs K F (ns.map V.int) (ns.map PyData.int)
  | [] => .nil
  | n :: ns => .cons (.int n) (drs_ints ns)
/-- the modules' dict stands -/
def SysD (h : Heap) : Prop := ∃ o es ep, h.get? sysModules = some o ∧ o.data = .dict es ep
class SysB (base : Heap) : Prop where
  out : SysD base
theorem law_data {mb : Str → Option Value} {k n : Nat} {fa a : Addr} {fd : FuncData} {x : Str} {s₁ : Shared} {vs : List Value} {ns : List Int}
    (KX : K.In s₁.heap) (hns : s₁.heap.Ns mainGlobals mg) (hb : s₁.heap.Ns builtinsNs mb) (hbb : ∀ x : Str, x ≠ "__name__" → mb x = bootBuiltins x) (hlim : s₁.heap.NoLimit) (hgn : s₁.gens = #[])
    (ha : s₁.heap.get? a = some { cls := .type "list", data := .seq vs.toArray }) (hi : IntsAre vs ns) (hn : ns.length ≤ n) (hz : n ≤ sizeLine) (hr : Room k callerA)
    (hsys : SysD s₁.heap) (Fn : ∀ base : Heap, K.In base → base.Ns mainGlobals mg → SysD base → FnG P w K mg base [] k fa fd [x] (lawS n)) (hbind : ∀ (s : Shared) (u : Value), BindsTo s fd ⟨[u], []⟩ [(x, u)]) :
    codeAny (model P w) callerA (.call (.ref fa) ⟨[.ref a], []⟩) (fun r s' => r = .ok (.ret (.bool true)) ∧ OldK s₁.heap s'.heap ∧ s'.os = s₁.os ∧ AllBare s'.gens) s₁ := by
  have rv := vals_ints hi
  have lenV := hi.length
  have hl : ns.length ≤ sizeLine := Nat.le_trans hn hz
  have core : ∀ H : Hp, Only H → RdL K H a (ns.map V.int) → HOk P w H s₁.heap → (∀ b, H b ≠ none → b = a) → (H a ≠ none → K.lookup a = none) →
      codeAny (model P w) callerA (.call (.ref fa) ⟨[.ref a], []⟩) (fun r s' => r = .ok (.ret (.bool true)) ∧ OldK s₁.heap s'.heap ∧ s'.os = s₁.os ∧ AllBare s'.gens) s₁ := by
    intro H hO hS hok hA hK
    have isA : ∀ {b : Addr} {u : HO}, H b = some u → b = a := fun {b u} q => hA b (by rw [q]; simp)
    have noA : ∀ {b : Addr} {o : Obj} {es : Array DictEntry} {ep : Nat}, s₁.heap.get? b = some o → o.data = .dict es ep → H b = none := fun {b o es ep} e d => by
      cases q : H b with
      | none => rfl
      | some u =>
        cases isA q
        rw [ha] at e; cases e
        cases (show Data.seq vs.toArray _ = Data.dict es ep from d)
    have nsK : ∀ {b : Addr} {m : Str → Option Value}, s₁.heap.Ns b m → (hidT s₁.heap H).Ns b m := fun {b m} ⟨o, es, ep, e, d, r⟩ => ⟨o, es, ep, hidT_get e (noA e d), d, r⟩
    have hKb : K.In (hidT s₁.heap H) := fun b o e => hidT_get (KX b o e) (by
      cases q : H b with
      | none => rfl
      | some u =>
        cases isA q
        rw [hK (by rw [q]; simp)] at e; cases e)
    have hM : Mod K mg (hidT s₁.heap H) := ⟨hKb, nsK hns, ⟨mb, nsK hb, hbb⟩, let ⟨mc, h1, h2⟩ := hlim; ⟨mc, nsK h1, h2⟩⟩
    have e0 : Env0 P w K mg (hidT s₁.heap H) callerA [] s₁ H := ⟨rfl, hM, fun b o e => of_hidT e, Nat.le_of_eq (hidT_size _ _), trivial, fun b hb => absurd (show b ∈ ([] : List Addr) from hb) (by simp), hok, .of_eq hgn⟩
    have goal : spD [] K (lawS n) [.ref a] H (fun v _ => v = .bl true) := by
      refine ⟨H, [.dat (.list (ns.map .int))], fun r _ => r = .dat (.bool true), args_dat (Ex.refl H) (fun p hp => absurd hp (by simp)) (fun b ps z => by rcases hO b with y | ⟨o, xs, y⟩ <;> rw [y] at z <;> cases z) (ds := [.list (ns.map .int)]) (.one (.lst hS (drs_ints ns))), ⟨⟨ns, rfl, hn⟩, fun _ => rfl⟩, fun r as' v F' H' p po => ?_⟩
      subst p
      exact DR.inv_bool po.res
    refine codeAny_mono ((Fn _ hKb (nsK hns) (let ⟨o, es, ep, e, d⟩ := hsys; ⟨o, es, ep, hidT_get e (noA e d), d⟩)).go callerA [] s₁ H ⟨[.ref a], []⟩ [.ref a] [.ref a] _ hr rfl e0 (hbind s₁ (.ref a)) (.cons rfl .nil) goal) fun r s' h => ?_
    match r, h with
    | .error e, h =>
      exact h.elim
    | .ok .next, h => exact h.elim
    | .ok .brk, h => exact h.elim
    | .ok .cont, h => exact h.elim
    | .ok (.ret u), ⟨v, H', os, bare, un, hok', r', q⟩ =>
      have q' : v = .bl true := q
      subst q'
      obtain rfl : u = Value.bool true := r'
      refine ⟨rfl, OldK.of_keep fun b o e => ?_, os, bare⟩
      cases q : H b with
      | none => exact un.keep b o e q (by intro z; exact absurd (show b ∈ ([] : List Addr) from z) (by simp)) (by simp)
      | some u =>
        rcases hO b with z | ⟨ob, xs, z⟩
        · rw [q] at z; cases z
        · have z2 := un.frzs b ob _ z
          obtain ⟨e1, _⟩ := hok b _ z
          obtain ⟨e2, _⟩ := hok' b _ z2
          rw [e] at e1; cases e1
          exact e2
  cases hk : K.lookup a with
  | some o =>
    have e := KX a o hk
    rw [ha] at e
    cases e
    exact core (fun _ => none) (fun _ => .inl rfl) (.inr ⟨vs, 0, hk, rv, by rw [lenV]; exact hl⟩) (fun b u z => by cases (show (none : Option HO) = some u from z)) (fun b z => absurd rfl z) fun z => absurd rfl z
  | none =>
    refine core (fun b => if b = a then some (.frz { cls := .type "list", data := .seq vs.toArray } (.lst (ns.map V.int))) else none) (fun b => ?_) (.inl (.inr ⟨{ cls := .type "list", data := .seq vs.toArray }, if_pos rfl⟩)) (fun b u z => ?_) (fun b z => ?_) fun _ => hk
    · by_cases hb : b = a
      · exact .inr ⟨_, _, if_pos hb⟩
      · exact .inl (if_neg hb)
    · by_cases hb : b = a
      · cases (if_pos hb).symm.trans z
        subst hb
        exact ⟨ha, by rw [List.length_map]; exact hl, vs, _, rv, ha⟩
      · cases (if_neg hb).symm.trans z
    · by_cases hb : b = a
      · exact hb
      · exact absurd (if_neg hb) z
end
end DL

namespace DL
variable {T : List (PySem.Addr × PySem.Str)} {Z : Zx T}
open PySem PySem.Spec PyProof.Rows L2
open Evl (Ex)

/-- a def of the top that keeps its promise -/
structure Dn (P : Program) (w : World) (K : PySem.W.Frag) (mg : Str → Option Value) (base : Heap) (T : List (Addr × Str)) (x : Str) (k : Nat) (ps : List Str) (S : DSp) : Prop where
  ex : ∃ fd, FnG P w K mg base T k (He.ga K x) fd ps S ∧ Binds K fd ps []
  glo : mg x = some (.ref (He.ga K x))
  kp : PySem.W.keepIn K (.ref (He.ga K x)) = true
/-- what the head says of the top -/
structure Top (fa : List He.Fa) (fn : List He.FnD) (K : PySem.W.Frag) (mg : Str → Option Value) : Prop where
  says : He.SaysE fa fn K
  ns : ∃ h, K.In h ∧ h.Ns mainGlobals mg
section
variable {fa : List He.Fa} {fn : List He.FnD} {K : PySem.W.Frag} {mg : Str → Option Value}
theorem Top.glo (T : Top fa fn K mg) (x : Str) (i : Nat) (h : fa[i]? = some (.glo x) := by rfl) : mg x = some (.ref (He.ga K x)) := by
  obtain ⟨hp, h1, h2⟩ := T.ns
  exact He.glo_ok h1 h2 (T.says.fact i h)
theorem Top.free (T : Top fa fn K mg) (x : Str) (i : Nat) (h : fa[i]? = some (.free x) := by rfl) : mg x = none := by
  obtain ⟨hp, h1, h2⟩ := T.ns
  exact He.free_ok h1 h2 (T.says.fact i h)
theorem Top.int (T : Top fa fn K mg) (x : Str) (n : Int) (i : Nat) (h : fa[i]? = some (.int x n) := by rfl) : ∃ t, mg x = some (.int n t) := by
  obtain ⟨hp, h1, h2⟩ := T.ns
  exact He.int_ok h1 h2 (T.says.fact i h)
theorem Top.keep (T : Top fa fn K mg) (x : Str) (i : Nat) (h : fa[i]? = some (.keep x) := by rfl) : PySem.W.keepIn K (.ref (He.ga K x)) = true := He.keep_ok (T.says.fact i h)
theorem Top.fun_ (T : Top fa fn K mg) (x : Str) (st : Stmt) (i j : Nat) (h : fn[i]? = some ⟨(x, none), x, x, defArgs st, defBody st, defScope st⟩ := by rfl) (hk : fa[j]? = some (.keep x) := by rfl) :
    ∃ kV doc pm an cdv ct, Fun K x x st (He.ga K x) (PySem.W.fnOf x x (defArgs st) (defBody st) (defScope st) .none kV doc pm an cdv ct) := by
  obtain ⟨oc, od, osl, kV, doc, pm, an, cdv, ct, h1, h2⟩ := T.says.def_ i h
  exact ⟨kV, doc, pm, an, cdv, ct, fun_mk h1 h2 (T.keep x j hk)⟩
/-- a module's whole number -/
theorem dnum {X : Cx} {x : Str} {n : Int} {pos : Pos} (hm : ∃ t, X.mg x = some (.int n t)) (hg : Gl X x := by rfl) (hdb : (x == ("__debug__" : Str)) = false := by decide) : PE X (.Name x pos) (liftE X.K Z (dC (.int n))) := by
  obtain ⟨t, h⟩ := hm
  exact dglob (v := .int n) h ⟨t, rfl⟩ (fun _ => .int n) hg hdb
end
section
variable {X : Cx} {k : Nat} {ps : List Str} {S : DSp} {x : Str} {p pos : Pos} {e : Expr} {es : List Expr} {was : DA}
theorem dcn (D : Dn X.prog X.w X.K X.mg X.base T x k ps S) (hr : Room k X.A) (hA : X.A.guards = some [])
    (ha : PA X (e :: es) (liftA X.K Z was)) (hg : Gl X x := by rfl) (hdb : (x == ("__debug__" : Str)) = false := by decide)
    (he : starEach (e :: es) X.env = (false, eval e X.env) :: starEach es X.env := by rfl) (hpl : (backTo pos (starEach es X.env)).any (·.1) = false := by rfl) : PE X (.Call (.Name x p) (e :: es) [] pos) (liftX X.K Z (dCall S was)) := by
  obtain ⟨fd, h1, h2⟩ := D.ex
  exact dcall h1 hr hA D.glo D.kp h2 ha hg hdb he hpl
theorem dcnC (i : Nat) {y : Str} {p0 : Pos} (D : Dn X.prog X.w X.K X.mg X.base T x k ps S) (hr : Room k X.A) (hA : X.A.guards = some [])
    (ha : PA X es (liftA X.K Z was)) (hN : X.N[i]? = some y := by rfl) (hv : Vis X.env.scope y := by first | exact Or.inl rfl | exact Or.inr (Or.inl rfl) | exact Or.inr (Or.inr rfl)) (hd : (y == ("__debug__" : Str)) = false := by decide)
    (hcd : (y == ("__classdict__" : Str)) = false := by decide) (hg : Gl X x := by rfl) (hdb : (x == ("__debug__" : Str)) = false := by decide)
    (he : starEach (.Name y p0 :: es) X.env = (false, eval (.Name y p0) X.env) :: starEach es X.env := by rfl) (hpl : (backTo pos (starEach es X.env)).any (·.1) = false := by rfl) :
    PE X (.Call (.Name x p) (.Name y p0 :: es) [] pos) (liftX X.K Z (dCallC S i was)) := by
  obtain ⟨fd, h1, h2⟩ := D.ex
  exact dcallC i h1 hr hA D.glo D.kp h2 ha hN hv hd hcd hg hdb he hpl
end
/-- the goal that a head by facts leaves -/
theorem walk_dataE {l : PySem.W.OpenLaw} {n k : Nat} {q : Program} {loose : List Str} {XP : (Str → Option Value) → Heap → Prop} {YP : World → Heap → Prop} {d : DefRec} {x : Str}
    (hn : l.most = some n) (hn2 : n ≤ sizeLine) (hdf : d.params.defaults = []) (hr : Room k callerA)
    (Fn : ∀ (w : World) (mg : Str → Option Value) (fa : Addr) (h : Heap), YP w h → h.Ns mainGlobals mg → mg d.name = some (.ref fa) →
      ∃ (K : PySem.W.Frag) (fd : FuncData), K.In h ∧ SysD h ∧ (∀ (s : Shared) (u : Value), BindsTo s fd ⟨[u], []⟩ [(x, u)]) ∧
        ∀ base : Heap, K.In base → base.Ns mainGlobals mg → SysD base → FnG l.prog w K mg base [] k fa fd [x] (lawS n)) :
    PySem.W.WalkO q loose XP YP l.row.toRowW d [] (fun f vs => PySem.call f vs) := by
  refine Att.attach_call hn hdf fun w s₀ s₁ mg mb fa o pm cd doc a vs ns G Y ho hd hcd hmg hobj hints hlen hg => ?_
  obtain ⟨K, fd, KX, hsys, hb, hF⟩ := Fn w mg fa _ Y G.T.g hmg
  exact law_data KX G.T.g G.T.b G.T.builtins G.T.nolimit hg hobj hints hlen hn2 hr hsys hF hb
/-- the head's facts, and that the modules' dict stands -/
def sysB (g : Addr → Option Obj) : Bool := match g sysModules with
  | some ⟨_, _, .dict _ _, _⟩ => true
  | _ => false
theorem sysB_of {h : Heap} (e : sysB h.get? = true) : SysD h := by
  unfold sysB at e
  split at e
  · rename_i c di es ep sl z
    exact ⟨_, es, ep, z, rfl⟩
  · cases e
end DL

namespace DL
variable {T : List (PySem.Addr × PySem.Str)} {Z : Zx T}
open PySem PySem.Spec PyProof.Rows L2
open Evl (Ex)

mutual
/-- leaves that can be shown -/
def rp : PyData → Bool
  | .none => true
  | .bool _ => true
  | .int i => decide (i.natAbs < 10 ^ 250)
  | .str x => x.cps.toList.all fun c => decide (c < 16 ^ 8)
  | .list xs => rpAll xs
  | .tuple xs => rpAll xs
  | .dict kvs => kvs.isEmpty
def rpAll : List PyData → Bool
  | [] => true
  | x :: xs => rp x && rpAll xs
end
section
variable {X : Cx} {K : PySem.W.Frag} {e : Expr} {es : List Expr} {p pos : Pos} {was : DA} {k : Nat}
/-- sum of a list, of a tuple of whole numbers -/
def rSumD (K : PySem.W.Frag) : List V → Hp → VK → Prop := fun vs H Q => ∃ (a : Addr) (ns : List Int), vs = [.ref a] ∧ (SqL K H a (ns.map V.int) ∨ SqT K H a (ns.map V.int)) ∧ Q (.int ns.sum) H
theorem call_sumD (hc : X.calm = true) : CallR X (.builtin "sum") (rSumD X.K) := by
  intro pins s σ H xs us Q I r h
  obtain ⟨a, ns, rfl, h | h, q⟩ := h
  · exact cr_sum hc pins s σ H _ us Q I r ⟨a, ns, rfl, h, q⟩
  · cases r.ref1
    obtain ⟨its, rv, ht, hz⟩ := I.tuple h
    have hi := rv.ints
    obtain ⟨xs, hx⟩ := hi.allInts.items
    have hn : numsOf its.toArray.toList = ns := by rw [show its.toArray.toList = its from rfl, hi.numsOf]
    have ht2 : s.heap.IsTuple a its.toArray := ht
    rw [hx] at ht2 hn
    rw [nums_intItems] at hn
    refine PySem.W.ktm_sumG (I.ok.hd hc) ht2 fun h' tk t' hk => ?_
    rw [preSum_eq, List.take_of_length_le (by simp), hn]
    exact ⟨.int ns.sum, H, I.kept hk, ⟨_, rfl⟩, q⟩
def nSum (xs : List PyData) (P : PyData → Prop) : Prop := match xs with
  | [.list ds] => (match intsD ds with | some ns => P (.int ns.sum) | none => False)
  | [.tuple ds] => (match intsD ds with | some ns => P (.int ns.sum) | none => False)
  | _ => False
theorem dsum (hm : X.mg "sum" = none) (hc : X.calm = true) (ha : PA X (e :: es) (liftA X.K Z was)) (hg : Gl X "sum" := by rfl)
    (he : starEach (e :: es) X.env = (false, eval e X.env) :: starEach es X.env := by rfl) (hpl : (backTo pos (starEach es X.env)).any (·.1) = false := by rfl) : PE X (.Call (.Name "sum" p) (e :: es) [] pos) (liftE X.K Z (dB nSum was)) :=
  dcb (call_sumD hc) (fun _ _ g F env σ H vs ds P Q k r f q => by
    unfold nSum at f
    split at f
    · split at f
      · rename_i ns e
        obtain ⟨v, rfl, r0⟩ := r.inv1
        obtain ⟨a, us, rfl, h1, h2⟩ := r0.inv_lst
        cases ints_rel h2 e
        exact ⟨a, ns, rfl, .inl (h1.mono k.fh).sq, q _ _ F H f (Ex.refl F) k (.int _)⟩
      · exact f.elim
    · split at f
      · rename_i ns e
        obtain ⟨v, rfl, r0⟩ := r.inv1
        obtain ⟨a, us, rfl, h1, h2⟩ := r0.inv_tup
        cases ints_rel h2 e
        exact ⟨a, ns, rfl, .inr (Evl.ex_t k.fh h1), q _ _ F H f (Ex.refl F) k (.int _)⟩
      · exact f.elim
    · exact f.elim) hm (by decide +kernel) ha hg (by decide) (by decide) he hpl
end
end DL

namespace DL
variable {T : List (PySem.Addr × PySem.Str)} {Z : Zx T}
open PySem PySem.Spec PyProof.Rows L2

section
variable {I S : Type}
theorem qFor_go {b : PyData → I → S → (I → S → Prop) → (I → S → Prop) → Prop} {items : List PyData} {i : I} {K : S → Prop} (Inv : Nat → S → Prop)
    (step : ∀ (k : Nat) (d : PyData) (s : S) (nx : I → S → Prop), items[k]? = some d → Inv k s → (∀ s', Inv (k + 1) s' → nx i s') → b d i s nx (same i K))
    (fin : ∀ s, Inv items.length s → K s) : ∀ (m k : Nat) (s : S), k + m = items.length → Inv k s → qFor b i (items.drop k) s K
  | 0, k, s, hm, h => by
    have e : k = items.length := by omega
    subst e
    rw [List.drop_length]
    exact fin s h
  | m + 1, k, s, hm, h => by
    have hk : k < items.length := by omega
    rw [List.drop_eq_getElem_cons hk]
    exact step k _ s _ (by simp [hk]) h fun s' h' => ⟨rfl, qFor_go Inv step fin m (k + 1) s' (by omega) h'⟩
/-- a for, by what holds ahead of each turn -/
theorem qFor_ind {b : PyData → I → S → (I → S → Prop) → (I → S → Prop) → Prop} {items : List PyData} {i : I} {s : S} {K : S → Prop} (Inv : Nat → S → Prop) (h0 : Inv 0 s)
    (step : ∀ (k : Nat) (d : PyData) (s : S) (nx : I → S → Prop), items[k]? = some d → Inv k s → (∀ s', Inv (k + 1) s' → nx i s') → b d i s nx (same i K))
    (fin : ∀ s, Inv items.length s → K s) : qFor b i items s K := qFor_go Inv step fin items.length 0 s (by omega) h0
/-- a for over a range -/
theorem qFor_range {b : PyData → I → S → (I → S → Prop) → (I → S → Prop) → Prop} {lo : Int} {n : Nat} {i : I} {s : S} {K : S → Prop} (Inv : Nat → S → Prop) (h0 : Inv 0 s)
    (step : ∀ (k : Nat) (s : S) (nx : I → S → Prop), k < n → Inv k s → (∀ s', Inv (k + 1) s' → nx i s') → b (.int (lo + k)) i s nx (same i K))
    (fin : ∀ s, Inv n s → K s) : qFor b i (rangeD lo n) s K := by
  have hl : (rangeD lo n).length = n := by simp [rangeD]
  refine qFor_ind Inv h0 (fun k d s nx hd hi hn => ?_) fun s h => fin s (by rwa [hl] at h)
  unfold rangeD at hd
  rw [List.getElem?_map] at hd
  by_cases hk : k < n
  · rw [List.getElem?_range hk] at hd
    cases hd
    exact step k s nx hk hi hn
  · rw [List.getElem?_eq_none (by simp; omega)] at hd
    cases hd
/-- a for whose turns carry nothing -/
theorem qFor_all {b : PyData → I → S → (I → S → Prop) → (I → S → Prop) → Prop} {items : List PyData} {i : I} {s : S} {K : S → Prop} (Inv : S → Prop) (h0 : Inv s)
    (step : ∀ (d : PyData) (s : S) (nx : I → S → Prop), d ∈ items → Inv s → (∀ s', Inv s' → nx i s') → b d i s nx (same i K)) (fin : ∀ s, Inv s → K s) : qFor b i items s K :=
  qFor_ind (fun _ s => Inv s) h0 (fun _ d s nx hd hi hn => step d s nx (List.mem_of_getElem? hd) hi hn) fun s h => fin s h
theorem qWhile_go {b : I → S → (I → S → Prop) → (I → S → Prop) → Prop} {i : I} {K : S → Prop} (Inv : Nat → S → Prop)
    (step : ∀ (m : Nat) (s : S) (nx : I → S → Prop), Inv m s → (∀ m' s', m' < m → Inv m' s' → nx i s') → b i s nx (same i K)) : ∀ (n m : Nat) (s : S), m < n → Inv m s → qWhileN b i n s K
  | 0, _, _, h, _ => absurd h (Nat.not_lt_zero _)
  | n + 1, m, s, h, hi => step m s _ hi fun m' s' hm hi' => ⟨rfl, qWhile_go Inv step n m' s' (by omega) hi'⟩
/-- a while, by a measure that falls -/
theorem qWhile_ind {b : I → S → (I → S → Prop) → (I → S → Prop) → Prop} {i : I} {s : S} {K : S → Prop} (Inv : Nat → S → Prop) {m : Nat} (h0 : Inv m s)
    (step : ∀ (m : Nat) (s : S) (nx : I → S → Prop), Inv m s → (∀ m' s', m' < m → Inv m' s' → nx i s') → b i s nx (same i K)) : qWhile b i s K := ⟨m + 1, qWhile_go Inv step (m + 1) m s (Nat.lt_succ_self m) h0⟩
theorem qLc_go {b : PyData → I → S → (I → S → Prop) → (PyData → I → S → Prop) → Prop} {items : List PyData} {i : I} {K : List PyData → S → Prop} (Inv : Nat → List PyData → S → Prop)
    (step : ∀ (k : Nat) (d : PyData) (acc : List PyData) (s : S) (sk : I → S → Prop) (yd : PyData → I → S → Prop), items[k]? = some d → Inv k acc s → (∀ s', Inv (k + 1) acc s' → sk i s') →
      (∀ y s', acc.length < 100000 → Inv (k + 1) (acc ++ [y]) s' → yd y i s') → b d i s sk yd) (hz : ∀ k acc s, k < items.length → Inv k acc s → acc.length < 100000)
    (fin : ∀ acc s, Inv items.length acc s → K acc s) : ∀ (m k : Nat) (acc : List PyData) (s : S), k + m = items.length → Inv k acc s → qLc b i (items.drop k) acc s K
  | 0, k, acc, s, hm, h => by
    have e : k = items.length := by omega
    subst e
    rw [List.drop_length]
    exact fin acc s h
  | m + 1, k, acc, s, hm, h => by
    have hk : k < items.length := by omega
    rw [List.drop_eq_getElem_cons hk]
    exact step k _ acc s _ _ (by simp [hk]) h (fun s' h' => ⟨rfl, qLc_go Inv step hz fin m (k + 1) acc s' (by omega) h'⟩) fun y s' hl h' => ⟨rfl, hz k acc s hk h, qLc_go Inv step hz fin m (k + 1) (acc ++ [y]) s' (by omega) h'⟩
/-- a comprehension, by what holds ahead of each turn -/
theorem qLc_ind {b : PyData → I → S → (I → S → Prop) → (PyData → I → S → Prop) → Prop} {items : List PyData} {i : I} {s : S} {K : List PyData → S → Prop} (Inv : Nat → List PyData → S → Prop) (h0 : Inv 0 [] s)
    (hz : ∀ k acc s, k < items.length → Inv k acc s → acc.length < 100000)
    (step : ∀ (k : Nat) (d : PyData) (acc : List PyData) (s : S) (sk : I → S → Prop) (yd : PyData → I → S → Prop), items[k]? = some d → Inv k acc s → (∀ s', Inv (k + 1) acc s' → sk i s') →
      (∀ y s', Inv (k + 1) (acc ++ [y]) s' → yd y i s') → b d i s sk yd)
    (fin : ∀ acc s, Inv items.length acc s → K acc s) : qLc b i items [] s K :=
  qLc_go Inv (fun k d acc s sk yd hd hi h1 h2 => step k d acc s sk yd hd hi h1 fun y s' h => h2 y s' (hz k acc s (List.getElem?_eq_some_iff.mp hd).1 hi) h) hz fin items.length 0 [] s (by omega) h0
/-- each item gives one, a state is carried -/
theorem qLc_each {b : PyData → I → S → (I → S → Prop) → (PyData → I → S → Prop) → Prop} {items : List PyData} {i : I} {s : S} {K : List PyData → S → Prop} (T : PyData → Prop) (Inv : Nat → S → Prop) (h0 : Inv 0 s) (hz : items.length ≤ 100000)
    (step : ∀ (k : Nat) (d : PyData) (s : S) (sk : I → S → Prop) (yd : PyData → I → S → Prop), items[k]? = some d → Inv k s → (∀ y s', T y → Inv (k + 1) s' → yd y i s') → b d i s sk yd)
    (fin : ∀ acc s, acc.length = items.length → (∀ y ∈ acc, T y) → Inv items.length s → K acc s) : qLc b i items [] s K :=
  qLc_ind (fun k acc s => acc.length = k ∧ (∀ y ∈ acc, T y) ∧ Inv k s) ⟨rfl, by simp, h0⟩ (fun k acc s hk h => by have := h.1; omega) (fun k d acc s sk yd hd ⟨h1, h2, h3⟩ _ hy => step k d s sk yd hd h3 fun y s' ty h' => hy y s' ⟨by simp [h1], fun z hz => by
    rcases List.mem_append.mp hz with hz | hz
    · exact h2 z hz
    · rw [List.mem_singleton.mp hz]; exact ty, h'⟩) fun acc s ⟨h1, h2, h3⟩ => fin acc s h1 h2 h3
/-- [f x for x in items], nothing changed -/
theorem qLc_map {b : PyData → I → S → (I → S → Prop) → (PyData → I → S → Prop) → Prop} {items : List PyData} {i : I} {s : S} {K : List PyData → S → Prop} (f : PyData → PyData) (hz : items.length ≤ 100000)
    (step : ∀ d ∈ items, ∀ (sk : I → S → Prop) (yd : PyData → I → S → Prop), yd (f d) i s → b d i s sk yd) (fin : K (items.map f) s) : qLc b i items [] s K :=
  qLc_ind (fun k acc s' => acc = (items.take k).map f ∧ s' = s) ⟨by simp, rfl⟩ (fun k acc s' hk h => by rw [h.1]; simp; omega)
    (fun k d acc s' sk yd hd ⟨h1, h2⟩ _ hy => by
      subst h2
      refine step d (List.mem_of_getElem? hd) sk yd (hy _ _ ⟨?_, rfl⟩)
      rw [List.take_add_one, hd, h1]
      simp) fun acc s' ⟨h1, h2⟩ => by
      subst h1 h2
      rw [List.take_length]
      exact fin
/-- [.. for x in items if ..], nothing changed -/
theorem qLc_fmap {b : PyData → I → S → (I → S → Prop) → (PyData → I → S → Prop) → Prop} {items : List PyData} {i : I} {s : S} {K : List PyData → S → Prop} (f : PyData → Option PyData) (hz : items.length ≤ 100000)
    (step : ∀ d ∈ items, ∀ (sk : I → S → Prop) (yd : PyData → I → S → Prop), (∀ y, f d = some y → yd y i s) → (f d = none → sk i s) → b d i s sk yd) (fin : K (items.filterMap f) s) : qLc b i items [] s K :=
  qLc_ind (fun k acc s' => acc = (items.take k).filterMap f ∧ s' = s) ⟨by simp, rfl⟩ (fun k acc s' hk h => by
      rw [h.1]
      exact Nat.lt_of_le_of_lt (List.length_filterMap_le f _) (by simp; omega))
    (fun k d acc s' sk yd hd ⟨h1, h2⟩ hs hy => by
      subst h2
      refine step d (List.mem_of_getElem? hd) sk yd (fun y e => hy _ _ ⟨?_, rfl⟩) fun e => hs _ ⟨?_, rfl⟩
      · rw [List.take_add_one, hd, h1]
        simp [e]
      · rw [List.take_add_one, hd, h1]
        simp [e]) fun acc s' ⟨h1, h2⟩ => by
      subst h1 h2
      rw [List.take_length]
      exact fin
end
theorem ixN_in {n : Nat} {k : Int} (h0 : 0 ≤ k) (h1 : k < n) : ixN n k = some k.toNat := by
  unfold ixN
  rw [if_pos h0, if_pos h1]
theorem atI_in {xs : List PyData} {k : Int} (h0 : 0 ≤ k) (h1 : k < xs.length) : ∃ d, atI xs k = some d ∧ d ∈ xs := by
  unfold atI
  rw [ixN_in h0 h1]
  have hk : k.toNat < xs.length := by omega
  exact ⟨xs[k.toNat], by simp [hk], List.getElem_mem hk⟩
theorem at_of {xs : List PyData} {k : Int} {P : PyData → Prop} (h0 : 0 ≤ k) (h1 : k < xs.length) (h : ∀ d ∈ xs, P d) : pick xs k P := by
  obtain ⟨d, e, m⟩ := atI_in h0 h1
  unfold pick
  rw [e]
  exact h d m
theorem pick_at {xs : List PyData} {k : Nat} {P : PyData → Prop} {d : PyData} (e : xs[k]? = some d) (h : P d) : pick xs (k : Int) P := by
  unfold pick atI
  rw [ixN_in (by omega) (by have := (List.getElem?_eq_some_iff.mp e).1; omega)]
  show match xs[(k : Int).toNat]? with | some d => P d | none => False
  rw [Int.toNat_natCast, e]
  exact h
theorem pick_eq {xs : List PyData} {k : Int} {P : PyData → Prop} {d : PyData} (e : atI xs k = some d) : pick xs k P = P d := by
  unfold pick
  rw [e]
theorem range_get {lo : Int} {n i : Nat} {d : PyData} (h : (rangeD lo n)[i]? = some d) : i < n ∧ d = .int (lo + i) := by
  unfold rangeD at h
  rw [List.getElem?_map] at h
  by_cases hi : i < n
  · rw [List.getElem?_range hi] at h
    cases h
    exact ⟨hi, rfl⟩
  · rw [List.getElem?_eq_none (by simp; omega)] at h
    cases h
theorem range_len {lo : Int} {n : Nat} : (rangeD lo n).length = n := by simp [rangeD]
end DL

namespace DL
variable {T : List (PySem.Addr × PySem.Str)} {Z : Zx T}
open PySem PySem.Spec PyProof.Rows L2
open Evl (Ex)

section
variable {X : Cx} {a b e : Expr} {es : List Expr} {we wa wb : DE} {was : DA} {pos p2 p : Pos} {K : PySem.W.Frag}
abbrev DO := List SD → (Option Int → List SD → Prop) → Prop
def liftO (K : PySem.W.Frag) (Z : Zx T) (w : DO) : TO := fun σ H Q => ∃ (g : Gx Z) (F : Hp) (env : List SD) (P : Option Int → List SD → Prop), Ok K g F env σ H ∧ w env P ∧
  ∀ o env' F' H', P o env' → Ex F F' → Ok K g F' env' σ H' → Q o H'
theorem PO.of {e : Option Expr} {t t' : TO} (h : PO X e t) (w : ∀ σ H Q, t' σ H Q → t σ H Q) : PO X e t' := ⟨fun pins s σ H Q I q => h.run pins s σ H Q I (w σ H Q q)⟩
abbrev dNo (env : List SD) (P : Option Int → List SD → Prop) : Prop := P none env
def soQ (x : PyData) (K : Option Int → Prop) : Prop := match x with
  | .int i => K (some i)
  | _ => False
abbrev dSo (w : DE) (env : List SD) (P : Option Int → List SD → Prop) : Prop := w env fun x env' => soQ x fun o => P o env'
theorem so_none : PO X none (liftO X.K Z dNo) := PO.of po_none fun σ H Q ⟨g, F, env, P, k, w, q⟩ => q none env F H w (Ex.refl F) k
theorem so_some (h : PE X e (liftE X.K Z we)) : PO X (some e) (liftO X.K Z (dSo we)) := PO.of (po_some h) fun σ H Q ⟨g, F, env, P, k, w, q⟩ =>
  ⟨g, F, env, _, k, w, fun d env1 v F1 H1 p e1 k1 r1 => by
    unfold soQ at p
    split at p
    · cases r1.inv_int
      exact ⟨_, rfl, q _ env1 F1 H1 p e1 k1⟩
    · exact p.elim⟩
/-- the items of ds[lo:hi] -/
def cutD (ds : List PyData) (lo hi : Option Int) : List PyData := (ds.drop (HT.sIx ds.length 0 lo)).take (HT.sIx ds.length ds.length hi - HT.sIx ds.length 0 lo)
theorem DRs.cut {H : Hp} {vs : List V} {ds : List PyData} (lo hi : Option Int) (h : DRs K H vs ds) : DRs K H (cutV vs lo hi) (cutD ds lo hi) := by
  unfold cutV cutD
  rw [h.length]
  exact (h.drop _).take _
def oSl (x : PyData) (lo hi : Option Int) (P : PyData → Prop) : Prop := match x with
  | .tuple ds => P (.tuple (cutD ds lo hi))
  | .list ds => P (.list (cutD ds lo hi))
  | .str z => z.length ≤ 100000 ∧ P (.str (cutS z lo hi))
  | _ => False
abbrev dSl (w : DE) (l h : DO) (env : List SD) (P : PyData → List SD → Prop) : Prop := w env fun x env1 => l env1 fun lo env2 => h env2 fun hi env3 => oSl x lo hi fun d => P d env3
theorem cutD_whole {xs : List PyData} {lo hi : Option Int} (h : HT.sIx xs.length 0 lo = 0 ∧ HT.sIx xs.length xs.length hi = xs.length) : cutD xs lo hi = xs := by
  unfold cutD
  rw [h.1, h.2]
  simp
theorem dsl {l u : Option Expr} {tl tu : DO} (he : PE X e (liftE X.K Z we)) (hl : PO X l (liftO X.K Z tl)) (hu : PO X u (liftO X.K Z tu)) : PE X (.Subscript e (.Slice l u none p2) pos) (liftE X.K Z (dSl we tl tu)) :=
  PE.of (pe_slice (SlR.or sl_tupZ (SlR.or sl_list sl_str)) he hl hu) fun σ H Q ⟨g, F, env, P, k, w, q⟩ =>
    ⟨g, F, env, _, k, w, fun d env1 v F1 H1 p e1 k1 r1 => ⟨g, F1, env1, _, k1, p, fun lo env2 F2 H2 p2 e2 k2 => ⟨g, F2, env2, _, k2, p2, fun hi env3 F3 H3 p3 e3 k3 => by
      have r3 := (r1.mono e2).mono e3
      have e13 := e1.trans (e2.trans e3)
      unfold oSl at p3
      split at p3
      · rename_i ds
        obtain ⟨a, us, rfl, h1, h2⟩ := r3.inv_tup
        refine .inl ⟨a, us, rfl, Evl.ex_t k3.fh h1, fun hw => ?_, fun _ x o hx ho => ?_⟩
        · rw [h2.length] at hw
          rw [cutD_whole hw] at p3
          exact q _ env3 _ F3 H3 p3 e13 k3 r3
        · obtain ⟨e4, k4, r4⟩ := k3.newTup hx ho (h2.cut lo hi)
          exact q _ env3 _ _ _ p3 (e13.trans e4) k4 r4
      · rename_i ds
        obtain ⟨a, us, rfl, h1, h2⟩ := r3.inv_lst
        refine .inr (.inl ⟨a, us, rfl, (h1.mono k3.fh).sq, fun x hx => ?_⟩)
        obtain ⟨e4, k4, r4⟩ := k3.newLst hx (h2.cut lo hi)
        exact q _ env3 _ _ _ p3 (e13.trans e4) k4 r4
      · cases r3.inv_str
        exact .inr (.inr ⟨_, rfl, sz2 p3.1, q _ env3 _ F3 H3 p3.2 e13 k3 (.str _)⟩)
      · exact p3.elim⟩⟩⟩
def lstQ (x : PyData) (K : List PyData → Prop) : Prop := match x with
  | .list ds => K ds
  | _ => False
def nInt (xs : List PyData) (P : PyData → Prop) : Prop := match xs with
  | [.int i] => P (.int i)
  | [.bool i] => P (.int (if i then 1 else 0))
  | _ => False
theorem dintOf (hm : X.mg "int" = none) (ha : PA X (e :: es) (liftA X.K Z was)) (hg : Gl X "int" := by rfl)
    (he : starEach (e :: es) X.env = (false, eval e X.env) :: starEach es X.env := by rfl) (hpl : (backTo pos (starEach es X.env)).any (·.1) = false := by rfl) : PE X (.Call (.Name "int" p) (e :: es) [] pos) (liftE X.K Z (dB nInt was)) :=
  dct call_int1 (fun _ _ g F env σ H vs ds P Q k r f q => by
    unfold nInt at f
    split at f
    · obtain ⟨v, rfl, r0⟩ := r.inv1
      cases r0.inv_int
      exact .inl ⟨_, rfl, q _ _ F H f (Ex.refl F) k (.int _)⟩
    · obtain ⟨v, rfl, r0⟩ := r.inv1
      cases r0.inv_bool
      exact .inr ⟨_, rfl, q _ _ F H f (Ex.refl F) k (.int _)⟩
    · exact f.elim) hm (by decide +kernel) ha hg (by decide) (by decide) he hpl
def nTuple (xs : List PyData) (P : PyData → Prop) : Prop := match xs with
  | [.list ds] => P (.tuple ds)
  | [.tuple ds] => P (.tuple ds)
  | [.dict [(.none, .list ds)]] => P (.tuple ds)
  | _ => False
theorem call_tupleR : CallR X (.type "tuple") (fun xs H Q => ∃ x, xs = [x] ∧ kTupZ X.K x H Q) := by
  intro pins s σ H xs us Q I r h
  obtain ⟨x, rfl, q⟩ := h
  cases r with
  | cons r rr =>
    cases rr
    exact rl_tupleZ pins s σ H x _ Q I r q
theorem dtupleOf (hm : X.mg "tuple" = none) (ha : PA X (e :: es) (liftA X.K Z was)) (hg : Gl X "tuple" := by rfl)
    (he : starEach (e :: es) X.env = (false, eval e X.env) :: starEach es X.env := by rfl) (hpl : (backTo pos (starEach es X.env)).any (·.1) = false := by rfl) : PE X (.Call (.Name "tuple" p) (e :: es) [] pos) (liftE X.K Z (dB nTuple was)) :=
  dct call_tupleR (fun _ _ g F env σ H vs ds P Q k r f q => by
    unfold nTuple at f
    split at f
    · obtain ⟨v, rfl, r0⟩ := r.inv1
      obtain ⟨a, us, rfl, h1, h2⟩ := r0.inv_lst
      refine ⟨_, rfl, .inl ⟨a, us, rfl, (h1.mono k.fh).sq, fun x o hx ho => ?_⟩⟩
      obtain ⟨e4, k4, r4⟩ := k.newTup hx ho h2
      exact q _ _ _ _ f e4 k4 r4
    · obtain ⟨v, rfl, r0⟩ := r.inv1
      obtain ⟨a, us, rfl, h1, h2⟩ := r0.inv_tup
      exact ⟨_, rfl, .inr ⟨a, us, rfl, Evl.ex_t k.fh h1, q _ _ F H f (Ex.refl F) k r0⟩⟩
    · obtain ⟨v, rfl, r0⟩ := r.inv1
      cases r0 with
      | dct _ m => cases m
      | row h1 h2 =>
        refine ⟨_, rfl, .inl ⟨_, _, rfl, SqL.of (k.fh _ _ h1), fun x o hx ho => ?_⟩⟩
        obtain ⟨e4, k4, r4⟩ := k.newTup hx ho h2
        exact q _ _ _ _ f e4 k4 r4
    · exact f.elim) hm (by decide +kernel) ha hg (by decide) (by decide) he hpl
/-- tuple(xs) of a name's own cell -/
abbrev dTupC (i : Nat) (env : List SD) (P : PyData → List SD → Prop) : Prop := match env[i]? with
  | some (.cel _ xs) => P (.tuple xs) env
  | _ => False
theorem dtupC (i : Nat) {x : Str} {p0 : Pos} (hm : X.mg "tuple" = none) (hN : X.N[i]? = some x := by rfl)
    (hv : Vis X.env.scope x := by first | exact Or.inl rfl | exact Or.inr (Or.inl rfl) | exact Or.inr (Or.inr rfl)) (hd : (x == ("__debug__" : Str)) = false := by decide) (hcd : (x == ("__classdict__" : Str)) = false := by decide) (hg : Gl X "tuple" := by rfl)
    (na : starEach [.Name x p0] X.env = (false, eval (.Name x p0) X.env) :: starEach [] X.env := by rfl) : PE X (.Call (.Name "tuple" p) [.Name x p0] [] pos) (liftE X.K Z (dTupC i)) :=
  PE.of (pe_tupleZ hg hm (pe_var hN hv hd hcd) na) fun σ H Q ⟨g, F, env, P, k, w, q⟩ => by
    unfold dTupC at w
    split at w
    · rename_i p xs e
      obtain ⟨a0, vs, h1, h2, h3, h4, h5⟩ := k.cel i p xs e
      refine ⟨_, h1, .inl ⟨a0, vs, rfl, SqL.of h3, fun x o hx ho => ?_⟩⟩
      obtain ⟨e4, k4, r4⟩ := k.newTup hx ho h4
      exact q _ _ _ _ _ w e4 k4 r4
    · exact w.elim
/-- len(xs) of a name's own cell -/
abbrev dLenC (i : Nat) (env : List SD) (P : PyData → List SD → Prop) : Prop := match env[i]? with
  | some (.cel _ xs) => P (.int (xs.length : Nat)) env
  | _ => False
theorem dlenC (i : Nat) {x : Str} {p0 : Pos} (hm : X.mg "len" = none) (hN : X.N[i]? = some x := by rfl)
    (hv : Vis X.env.scope x := by first | exact Or.inl rfl | exact Or.inr (Or.inl rfl) | exact Or.inr (Or.inr rfl)) (hd : (x == ("__debug__" : Str)) = false := by decide) (hcd : (x == ("__classdict__" : Str)) = false := by decide) (hg : Gl X "len" := by rfl)
    (na : starEach [.Name x p0] X.env = (false, eval (.Name x p0) X.env) :: starEach [] X.env := by rfl) (hpl : (backTo pos (starEach [] X.env)).any (·.1) = false := by rfl) : PE X (.Call (.Name "len" p) [.Name x p0] [] pos) (liftE X.K Z (dLenC i)) :=
  PE.of (pe_callB call_len hg hm PySem.boot_len (pa_cons (pe_var hN hv hd hcd) pa_nil na) (by decide) (by decide) na hpl) fun σ H Q ⟨g, F, env, P, k, w, q⟩ => by
    unfold dLenC at w
    split at w
    · rename_i p xs e
      obtain ⟨a0, vs, h1, h2, h3, h4, h5⟩ := k.cel i p xs e
      exact ⟨_, h1, _, vs.length, rfl, .inl ⟨vs, SqL.of h3, rfl⟩, by rw [h4.length]; exact q _ _ _ F H w (Ex.refl F) k (.int _)⟩
    · exact w.elim
def nList (xs : List PyData) (P : List PyData → Prop) : Prop := match xs with
  | [.list ds] => P ds
  | [.tuple ds] => P ds
  | _ => False
/-- list(..): a new cell -/
abbrev dListOf (wa : DA) (env : List SD) (P : SD → List SD → Prop) : Prop := wa env fun xs env' => nList xs fun ds => P (.cel false ds) env'
theorem dlistOf (hm : X.mg "list" = none) (ha : PA X (e :: es) (liftA X.K Z was)) (hg : Gl X "list" := by rfl)
    (he : starEach (e :: es) X.env = (false, eval e X.env) :: starEach es X.env := by rfl) (hpl : (backTo pos (starEach es X.env)).any (·.1) = false := by rfl) : PE X (.Call (.Name "list" p) (e :: es) [] pos) (liftX X.K Z (dListOf was)) :=
  PE.of (pe_callTy call_list_of hg hm (by decide +kernel) ha (by decide) (by decide) he hpl) fun σ H Q ⟨g, F, env, P, k, w, q⟩ =>
    ⟨g, F, env, _, k, w, fun ds env1 vs F1 H1 p e1 k1 r1 => by
      unfold nList at p
      split at p
      · obtain ⟨v, rfl, r0⟩ := r1.inv1
        obtain ⟨a, us, rfl, h1, h2⟩ := r0.inv_lst
        refine ⟨a, us, rfl, .inl (h1.mono k1.fh).sq, fun x hx => ?_⟩
        obtain ⟨k4, r4⟩ := k1.newCell hx h2
        exact q _ _ _ _ _ p e1 k4 r4
      · obtain ⟨v, rfl, r0⟩ := r1.inv1
        obtain ⟨a, us, rfl, h1, h2⟩ := r0.inv_tup
        refine ⟨a, us, rfl, .inr (Evl.ex_t k1.fh h1), fun x hx => ?_⟩
        obtain ⟨k4, r4⟩ := k1.newCell hx h2
        exact q _ _ _ _ _ p e1 k4 r4
      · exact p.elim⟩
/-- a name's own cell stays as it is from here on, or its datum -/
abbrev dFreeze2 (i : Nat) (w : DS) (E : DEnds) (env : List SD) : Prop := match env[i]? with
  | some (.cel false xs) => w E (env.set i (.dat (.list xs)))
  | some (.dat _) => w E env
  | _ => False
theorem ssfreeze2 {sts : List Stmt} {m : Nat} {w : DS} (i : Nat) (h : PSs X sts (liftS X.K Z m w)) : PSs X sts (liftS X.K Z m (dFreeze2 i w)) := PSs.of h fun D σ H ⟨g, F, env, P, k, w, q⟩ => by
  unfold dFreeze2 at w
  split at w
  · rename_i xs e
    obtain ⟨F', e1, k1⟩ := k.freeze e
    exact ⟨g, F', _, P, k1, w, q.ex e1⟩
  · exact ⟨g, F, env, P, k, w, q⟩
  · exact w.elim
end
end DL

namespace DL
variable {T : List (PySem.Addr × PySem.Str)} {Z : Zx T}
open PySem PySem.Spec PyProof.Rows L2
open Evl (Ex)

section
variable {X : Cx} {a b e : Expr} {es : List Expr} {we wa wb : DE} {was : DA} {pos p p1 p2 p3 : Pos} {K : PySem.W.Frag}
theorem DRs.snoc {H : Hp} {v : V} {d : PyData} : ∀ {vs : List V} {ds : List PyData}, DRs K H vs ds → DR K H v d → DRs K H (vs ++ [v]) (ds ++ [d])
  | _, _, .nil, r => .cons r .nil
  | _, _, .cons h t, r => .cons h (DRs.snoc t r)
end
end DL

namespace DL
variable {T : List (PySem.Addr × PySem.Str)} {Z : Zx T}
open PySem PySem.Spec PyProof.Rows L2
open Evl (Ex)

def jn {α : Type} (f : α → Prop) (k : α) : Prop := f k
def tAnd (b : Bool) (u : (Bool → Prop) → Prop) (K : Bool → Prop) : Prop := bIf b (u K) (K false)
def tOr (b : Bool) (u : (Bool → Prop) → Prop) (K : Bool → Prop) : Prop := bIf b (K true) (u K)
def vAnd (b : Bool) (u : (PyData → Prop) → Prop) (K : PyData → Prop) : Prop := bIf b (u K) (K (.bool false))
def vOr (b : Bool) (u : (PyData → Prop) → Prop) (K : PyData → Prop) : Prop := bIf b (K (.bool true)) (u K)
def vIf (b : Bool) (u v : (PyData → Prop) → Prop) (K : PyData → Prop) : Prop := bIf b (u K) (v K)
theorem at_env {t : DS} {E : DEnds} {a b : List SD} (e : a = b) (h : t E b) : t E a := e ▸ h
theorem cels1 {c : List PyData} {ds : List PyData} {i : Nat} {p : Bool} {xs : List PyData} (e : (SD.cel true c :: ds.map .dat)[i]? = some (.cel p xs)) : i < 1 := by
  cases i with
  | zero => exact Nat.zero_lt_one
  | succ i => exact absurd (by simpa using e) (no_cel (ds := ds) i p xs)
end DL

namespace DL
variable {T : List (PySem.Addr × PySem.Str)} {Z : Zx T}
open PySem PySem.Spec PyProof.Rows L2
open Evl (Ex)
section
variable {X : Cx} {a b e : Expr} {es : List Expr} {we wa wb : DE} {was : DA} {pos p p1 p2 p3 : Pos} {K : PySem.W.Frag} {m : Nat}
theorem DRs.flat {F : Hp} {vs : List V} {ds : List PyData} (r : DRs K F vs ds) : ∀ n : Nat, DRs K F (List.replicate n vs).flatten (List.replicate n ds).flatten
  | 0 => .nil
  | n + 1 => by
    rw [List.replicate_succ, List.replicate_succ, List.flatten_cons, List.flatten_cons]
    exact r.append (DRs.flat r n)
theorem tuple_mul1 (l : Addr) (items : Array Value) (n : Nat) (dd : Option Addr) (sl : Array (Option Value)) (u : Tok) :
    Meets (Builtin.«tuple.__mul__» ⟨[.ref l, .int 1 u], []⟩) (fun _ R s => s.heap.get? l = some { cls := .type "tuple", dict := dd, data := .seq items n, slots := sl } ∧ R (.ok (.ret (Value.ref l))) s) :=
  .of_wp fun prog w A R s h => by
    obtain ⟨hp, g, d, tk, os⟩ := s
    obtain ⟨hl, h⟩ := h
    have f1 := AutoSeq1.idx_int
    have c1 : (items.isEmpty || (1 : Int) == 1) = true := by simp
    wp_walk using wpAny_loadPart' hl
    repeat (first
      | (refine wpAny_ite_false (decide_eq_false (by decide)) ?_; wp_walk using wpAny_loadPart' hl)
      | (refine wpAny_ite_true (decide_eq_true c1) ?_; wp_walk using wpAny_loadPart' hl))
    exact ⟨_, rfl, h⟩
def rRepT1 (K : PySem.W.Frag) : R2 := fun x y H Q => ∃ l xs, x = .ref l ∧ y = .int 1 ∧ SqT K H l xs ∧ Q (.ref l) H
theorem op_repT1 {X : Cx} : OpR X (binaryOp .Mult) (rRepT1 X.K) := by
  intro pins s σ H x y v u Q I rx ry h
  obtain ⟨l, xs, rfl, rfl, hT, q⟩ := h
  cases rx
  obtain ⟨t, rfl⟩ := ry
  obtain ⟨its, r, ⟨⟨cls, dd, data, sl⟩, ho, hc, n, hd⟩, hs⟩ := I.tuple hT
  simp only at hc hd
  subst hc hd
  exact wpAny_binaryOp_repeat_ref (T := "tuple") (U := "int") (by decide) ⟨_, ho, rfl⟩ (fun s' => typeIs_int s' 1 t) noFill_tuple_mul F.fills_int_mul F.slot_int_rmul repeat_tuple F.slot_int_index.lookup
    (call_meets F.slot_int_rmul (typeIs_int s 1 t) F.entry_int_rmul (F.args_int_rmul_2 _ _) (int_rmul_tuple 1 t l its.toArray n dd sl)
      ⟨ho, rfl, ⟨_, ho, rfl⟩, call_meets F.slot_tuple_mul ⟨_, ho, rfl⟩ F.entry_tuple_mul (F.args_tuple_mul_2 _ _) (tuple_mul1 l its.toArray n dd sl t) ⟨ho, ⟨.ref l, H, I, rfl, q⟩⟩⟩)
def oMul (x y : PyData) (P : PyData → Prop) : Prop := match x, y with
  | .int i, .int j => (Sz i ∧ Sz j) ∧ P (.int (i * j))
  | .tuple xs, .int k => (xs ≠ [] ∧ 1 ≤ k ∧ k ≤ 1000 ∧ xs.length ≤ 1000) ∧ P (.tuple (List.replicate k.toNat xs).flatten)
  | _, _ => False
theorem opd_mul {r : R2} (h : OpD K r oMulI) : OpD K (fun x y H Q => r x y H Q ∨ (rRepT1 K x y H Q ∨ rRepZ K x y H Q)) oMul := by
  intro _ _ g F env σ H vx vy dx dy P Q k rx ry p q
  unfold oMul at p
  split at p
  · exact .inl (h _ _ g F env σ H vx vy _ _ P Q k rx ry p q)
  · rename_i xs n
    cases ry.inv_int
    obtain ⟨a, us, rfl, h1, h2⟩ := rx.inv_tup
    obtain ⟨⟨z1, z2, z3, z4⟩, p⟩ := p
    by_cases e1 : n = 1
    · subst e1
      have e : (List.replicate (Int.toNat 1) xs).flatten = xs := by
        show (List.replicate 1 xs).flatten = xs
        simp
      rw [e] at p
      exact .inr (.inl ⟨a, us, rfl, rfl, Evl.ex_t k.fh h1, q _ _ F H p (Ex.refl F) k rx⟩)
    refine .inr (.inr ⟨a, n, us, rfl, rfl, Evl.ex_t k.fh h1, fun e => z1 ?_, by omega, z3, by rw [h2.length]; exact z4, fun x o hx ho => ?_⟩)
    · subst e
      cases h2
      rfl
    · obtain ⟨e2, k2, r2⟩ := k.newTup hx ho (DRs.flat h2 n.toNat)
      exact q _ _ _ _ p e2 k2 r2
  · exact p.elim
theorem dmul (ha : PE X a (liftE X.K Z wa)) (hb : PE X b (liftE X.K Z wb)) : PE X (.BinOp a .Mult b pos) (liftE X.K Z (dOp oMul wa wb)) := dop (OpR.or op_mulW (OpR.or op_repT1 op_repZ)) (opd_mul (opd_I (fun _ _ h => by have h1 := h.1.log; have h2 := h.2.log; unfold CMulW; omega) fun _ _ _ => .int _)) ha hb
/-- xs[::-1] of a list, that stays -/
def oRev (x : PyData) (P : PyData → Prop) : Prop := lstQ x fun ds => P (.list ds.reverse)
end
end DL

namespace DL
variable {T : List (PySem.Addr × PySem.Str)} {Z : Zx T}
open PySem PySem.Spec PyProof.Rows L2
section
variable {P K : PyData → Prop} {a b c : Int} {x y : PyData} {xs ys : List PyData} {T : Bool → Prop}
theorem q_bT : bT (.bool t) T = T t := rfl
theorem q_add : oAdd (.int a) (.int b) P = P (.int (a + b)) := rfl
theorem q_addT : oAdd (.tuple xs) (.tuple ys) P = (xs.length + ys.length ≤ 100000 ∧ P (.tuple (xs ++ ys))) := rfl
theorem q_addL : oAdd (.list xs) (.list ys) P = (xs.length + ys.length ≤ 100000 ∧ P (.list (xs ++ ys))) := rfl
theorem q_addS {i j : Str} : oAdd (.str i) (.str j) P = (i.length + j.length ≤ 100000 ∧ P (.str (i ++ j))) := rfl
theorem q_sub : oSub (.int a) (.int b) P = P (.int (a - b)) := rfl
theorem q_mul : oMul (.int a) (.int b) P = ((Sz a ∧ Sz b) ∧ P (.int (a * b))) := rfl
theorem q_mulT : oMul (.tuple xs) (.int b) P = ((xs ≠ [] ∧ 1 ≤ b ∧ b ≤ 1000 ∧ xs.length ≤ 1000) ∧ P (.tuple (List.replicate b.toNat xs).flatten)) := rfl
theorem q_div : oDiv (.int a) (.int b) P = ((0 < b ∧ Sz b) ∧ P (.int (a / b))) := rfl
theorem q_mod : oMod (.int a) (.int b) P = (0 < b ∧ P (.int (a % b))) := rfl
theorem q_pow : oPow (.int a) (.int b) P = ((Sz a ∧ 0 ≤ b ∧ b ≤ 10000) ∧ P (.int (a ^ b.toNat))) := rfl
theorem q_neg : oNeg (.int a) P = P (.int (-a)) := rfl
theorem q_lt : oLt (.int a) (.int b) P = P (.bool (decide (a < b))) := rfl
theorem q_le : oLe (.int a) (.int b) P = P (.bool (decide (a ≤ b))) := rfl
theorem q_gt : oGt (.int a) (.int b) P = P (.bool (decide (b < a))) := rfl
theorem q_ge : oGe (.int a) (.int b) P = P (.bool (decide (b ≤ a))) := rfl
theorem q_oI {f : Int → Int → PyData} : oI f (.int a) (.int b) P = P (f a b) := rfl
theorem shaped_int : SeqAt.shaped (.int a) = true := by unfold SeqAt.shaped; rfl
theorem q_eq : oEq (.int a) (.int b) P = P (.bool (decide (a = b))) := by
  show ((SeqAt.shaped (.int a) = true ∧ SeqAt.shaped (.int b) = true) ∧ P (.bool (eqD (.int a) (.int b)))) = _
  rw [eqD_int]
  simp only [shaped_int, and_self, true_and]
theorem q_ne : oNe (.int a) (.int b) P = P (.bool (!decide (a = b))) := by
  show ((SeqAt.shaped (.int a) = true ∧ SeqAt.shaped (.int b) = true) ∧ P (.bool (!eqD (.int a) (.int b)))) = _
  rw [eqD_int]
  simp only [shaped_int, and_self, true_and]
theorem shaped_bool {t : Bool} : SeqAt.shaped (.bool t) = true := by unfold SeqAt.shaped; rfl
theorem eqD_bool {t u : Bool} : eqD (.bool t) (.bool u) = decide (t = u) := by
  rw [eqD_eq]
  cases t <;> cases u <;> simp [PyData.eqv]
theorem q_eqB {t u : Bool} : oEq (.bool t) (.bool u) P = P (.bool (decide (t = u))) := by
  show ((SeqAt.shaped (.bool t) = true ∧ SeqAt.shaped (.bool u) = true) ∧ P (.bool (eqD (.bool t) (.bool u)))) = _
  rw [eqD_bool]
  simp only [shaped_bool, and_self, true_and]
theorem q_neB {t u : Bool} : oNe (.bool t) (.bool u) P = P (.bool (!decide (t = u))) := by
  show ((SeqAt.shaped (.bool t) = true ∧ SeqAt.shaped (.bool u) = true) ∧ P (.bool (!eqD (.bool t) (.bool u)))) = _
  rw [eqD_bool]
  simp only [shaped_bool, and_self, true_and]
theorem q_eqS {i j : Str} : oEq (.str i) (.str j) P = P (.bool (decide (i = j))) := rfl
theorem q_neS {i j : Str} : oNe (.str i) (.str j) P = P (.bool (!decide (i = j))) := rfl
theorem q_isN : oIsN .none P = P (.bool true) := rfl
theorem q_isNi : oIsN (.int a) P = P (.bool false) := rfl
theorem q_isNt : oIsN (.tuple xs) P = P (.bool false) := rfl
theorem q_isNs {i : Str} : oIsN (.str i) P = P (.bool false) := rfl
theorem q_notN : oNotN .none P = P (.bool false) := rfl
theorem q_notNi : oNotN (.int a) P = P (.bool true) := rfl
theorem q_notNt : oNotN (.tuple xs) P = P (.bool true) := rfl
theorem q_ix : oIx (.tuple xs) (.int a) P = pick xs a P := rfl
theorem q_ixL : oIx (.list xs) (.int a) P = pick xs a P := rfl
theorem q_ixQ : ixQ xs (.int a) P = pick xs a P := rfl
theorem q_len : nLen [.list xs] P = P (.int (xs.length : Nat)) := rfl
theorem q_lenT : nLen [.tuple xs] P = P (.int (xs.length : Nat)) := rfl
theorem q_lenS {i : Str} : nLen [.str i] P = (i.length ≤ 100000 ∧ P (.int (i.length : Nat))) := rfl
theorem q_abs : nAbs [.int a] P = P (.int (if a < 0 then -a else a)) := rfl
theorem q_min : nMin2 [.int a, .int b] P = P (.int (if b < a then b else a)) := rfl
theorem q_max : nMax2 [.int a, .int b] P = P (.int (if b > a then b else a)) := rfl
theorem q_tupleOf : nTuple [.list xs] P = P (.tuple xs) := rfl
theorem q_tupleOfT : nTuple [.tuple xs] P = P (.tuple xs) := rfl
theorem q_int : nInt [.int a] P = P (.int a) := rfl
theorem q_intB {t : Bool} : nInt [.bool t] P = P (.int (if t then 1 else 0)) := rfl
theorem q_list {P : List PyData → Prop} : nList [.list xs] P = P xs := rfl
theorem q_listT {P : List PyData → Prop} : nList [.tuple xs] P = P xs := rfl
theorem q_tup {K : List PyData → Prop} : tupQ (.tuple xs) K = K xs := rfl
theorem q_cons {K : PyData → List PyData → Prop} : consQ (x :: xs) K = K x xs := rfl
theorem q_nil {p : Prop} : nilQ [] p = p := rfl
theorem q_so {K : Option Int → Prop} : soQ (.int a) K = K (some a) := rfl
theorem q_lst {K : List PyData → Prop} : lstQ (.list xs) K = K xs := rfl
theorem q_items {K : List PyData → Prop} : itemsQ (.list xs) K = K xs := At.eq
theorem q_itemsT {K : List PyData → Prop} : itemsQ (.tuple xs) K = K xs := At.eq
theorem q_slT {lo hi : Option Int} : oSl (.tuple xs) lo hi P = P (.tuple (DL.cutD xs lo hi)) := rfl
theorem q_slL {lo hi : Option Int} : oSl (.list xs) lo hi P = P (.list (DL.cutD xs lo hi)) := rfl
theorem q_rev : oRev (.list xs) P = P (.list xs.reverse) := rfl
theorem q_zip {K : List PyData → Prop} : zipQ [.list xs, .list ys] K = K (zipD xs ys) := At.eq
theorem q_zipT {K : List PyData → Prop} : zipQ [.tuple xs, .tuple ys] K = K (zipD xs ys) := At.eq
theorem q_rng1 {K : List PyData → Prop} : rng1 [.int a] K = ((-1000000 ≤ a ∧ a ≤ 1000000) ∧ K (rangeD 0 a.toNat)) := by
  show (_ ∧ At _ _) = _
  rw [At.eq]
theorem q_rng2 {K : List PyData → Prop} : rng2 [.int a, .int b] K = ((-1000000 ≤ a ∧ a ≤ 1000000 ∧ -1000000 ≤ b ∧ b ≤ 1000000) ∧ K (rangeD a (b - a).toNat)) := by
  show (_ ∧ At _ _) = _
  rw [At.eq]
theorem q_all : nAll [.list xs] P = (match boolsD xs with | some bs => P (.bool (bs.all id)) | none => False) := rfl
theorem q_any : nAny [.list xs] P = (match boolsD xs with | some bs => P (.bool (bs.any id)) | none => False) := rfl
theorem q_sum : nSum [.list xs] P = (match intsD xs with | some bs => P (.int bs.sum) | none => False) := rfl
theorem q_sumT : nSum [.tuple xs] P = (match intsD xs with | some bs => P (.int bs.sum) | none => False) := rfl
theorem q_ap {K : List PyData → Prop} : apQ xs x K = (xs.length < 100000 ∧ K (xs ++ [x])) := rfl
theorem bools_map (ds : List PyData) (f : PyData → Bool) : boolsD (ds.map fun d => .bool (f d)) = some (ds.map f) := by
  induction ds with
  | nil => rfl
  | cons d ds ih => simp [boolsD, ih]
theorem ints_map (ns : List Int) : intsD (ns.map .int) = some ns := by
  induction ns with
  | nil => rfl
  | cons d ds ih => simp [intsD, ih]
theorem q_sumI {ns : List Int} : nSum [.list (ns.map .int)] P = P (.int ns.sum) := by rw [q_sum, ints_map]
theorem q_sumTI {ns : List Int} : nSum [.tuple (ns.map .int)] P = P (.int ns.sum) := by rw [q_sumT, ints_map]
theorem q_allB {ds : List PyData} {f : PyData → Bool} : nAll [.list (ds.map fun d => .bool (f d))] P = P (.bool (ds.all f)) := by
  rw [q_all, bools_map]
  simp only [List.all_map]
  rfl
theorem q_anyB {ds : List PyData} {f : PyData → Bool} : nAny [.list (ds.map fun d => .bool (f d))] P = P (.bool (ds.any f)) := by
  rw [q_any, bools_map]
  simp only [List.any_map]
  rfl
theorem cut1 {a : PyData} {l : List PyData} : DL.cutD (a :: l) (some 1) none = l := by
  unfold DL.cutD HT.sIx
  simp
theorem cut_len {xs : List PyData} {lo hi : Option Int} : (DL.cutD xs lo hi).length ≤ xs.length := by
  unfold DL.cutD
  rw [List.length_take, List.length_drop]
  omega
section
variable {S : Prop} {t : Bool} {u : (Bool → Prop) → Prop} {v : (PyData → Prop) → Prop} {K : Bool → Prop} {L : PyData → Prop}
theorem q_same {I S : Type} {i : I} {N : S → Prop} {s : S} : same i N i s = N s := propext ⟨fun h => h.2, fun h => ⟨rfl, h⟩⟩
theorem q_jn {α : Type} {f : α → Prop} {k : α} : jn f k = f k := rfl
theorem q_tAnd_k {b c : Bool} {K : Bool → Prop} : tAnd b (fun k => k c) K = K (b && c) := by cases b <;> rfl
theorem q_tOr_k {b c : Bool} {K : Bool → Prop} : tOr b (fun k => k c) K = K (b || c) := by cases b <;> rfl
theorem q_vAnd_k {b c : Bool} : vAnd b (fun k => k (.bool c)) L = L (.bool (b && c)) := by cases b <;> rfl
theorem q_vOr_k {b c : Bool} : vOr b (fun k => k (.bool c)) L = L (.bool (b || c)) := by cases b <;> rfl
theorem q_tAnd_s {b c : Bool} {K : Bool → Prop} {S : Prop} : tAnd b (fun k => S ∧ k c) K = ((b = true → S) ∧ K (b && c)) := by
  cases b
  · simp only [Bool.false_eq_true, false_imp_iff, true_and]; rfl
  · simp only [true_imp_iff, Bool.true_and]; rfl
theorem q_tOr_s {b c : Bool} {K : Bool → Prop} {S : Prop} : tOr b (fun k => S ∧ k c) K = ((b = false → S) ∧ K (b || c)) := by
  cases b
  · simp only [true_imp_iff, Bool.false_or]; rfl
  · simp only [Bool.true_eq_false, false_imp_iff, true_and]; rfl
theorem q_vAnd_s {b c : Bool} {S : Prop} : vAnd b (fun k => S ∧ k (.bool c)) L = ((b = true → S) ∧ L (.bool (b && c))) := by
  cases b
  · simp only [Bool.false_eq_true, false_imp_iff, true_and]; rfl
  · simp only [true_imp_iff, Bool.true_and]; rfl
theorem q_vOr_s {b c : Bool} {S : Prop} : vOr b (fun k => S ∧ k (.bool c)) L = ((b = false → S) ∧ L (.bool (b || c))) := by
  cases b
  · simp only [true_imp_iff, Bool.false_or]; rfl
  · simp only [Bool.true_eq_false, false_imp_iff, true_and]; rfl
theorem q_vIf_k {b : Bool} {x y : PyData} : vIf b (fun k => k x) (fun k => k y) L = L (if b then x else y) := by cases b <;> rfl
theorem q_tAnd_t {K : Bool → Prop} : tAnd true u K = u K := rfl
theorem q_tAnd_f {K : Bool → Prop} : tAnd false u K = K false := rfl
theorem q_tOr_t {K : Bool → Prop} : tOr true u K = K true := rfl
theorem q_tOr_f {K : Bool → Prop} : tOr false u K = u K := rfl
theorem q_vAnd_t : vAnd true v L = v L := rfl
theorem q_vAnd_f : vAnd false v L = L (.bool false) := rfl
theorem q_vOr_t : vOr true v L = L (.bool true) := rfl
theorem q_vOr_f : vOr false v L = v L := rfl
theorem q_vIf_t {v' : (PyData → Prop) → Prop} : vIf true v v' L = v L := rfl
theorem q_vIf_f {v' : (PyData → Prop) → Prop} : vIf false v v' L = v' L := rfl
theorem bIf_of {b : Bool} {p q : Prop} (h1 : b = true → p) (h2 : b = false → q) : bIf b p q := by
  cases b
  · exact h2 rfl
  · exact h1 rfl
theorem bIf_d {c : Prop} [Decidable c] {p q : Prop} (h1 : c → p) (h2 : ¬ c → q) : bIf (decide c) p q := by
  by_cases h : c
  · rw [decide_eq_true h]; exact h1 h
  · rw [decide_eq_false h]; exact h2 h
end
theorem pick_lit {xs : List PyData} (n : Nat) {d : PyData} (e : xs[n]? = some d) : pick xs (n : Int) P = P d := pick_eq (by
  unfold atI
  rw [ixN_in (by omega) (by have := (List.getElem?_eq_some_iff.mp e).1; omega)]
  exact e)
theorem at0 {a : PyData} {l : List PyData} : pick (a :: l) 0 P = P a := pick_lit 0 rfl
theorem at1 {a b : PyData} {l : List PyData} : pick (a :: b :: l) 1 P = P b := pick_lit 1 rfl
theorem at2 {a b c : PyData} {l : List PyData} : pick (a :: b :: c :: l) 2 P = P c := pick_lit 2 rfl
theorem at3 {a b c d : PyData} {l : List PyData} : pick (a :: b :: c :: d :: l) 3 P = P d := pick_lit 3 rfl
theorem at4 {a b c d e : PyData} {l : List PyData} : pick (a :: b :: c :: d :: e :: l) 4 P = P e := pick_lit 4 rfl
theorem at5 {a b c d e f : PyData} {l : List PyData} : pick (a :: b :: c :: d :: e :: f :: l) 5 P = P f := pick_lit 5 rfl
theorem at6 {a b c d e f g : PyData} {l : List PyData} : pick (a :: b :: c :: d :: e :: f :: g :: l) 6 P = P g := pick_lit 6 rfl
theorem atLast {xs : List PyData} {d : PyData} : pick (xs ++ [d]) (-1) P = P d := pick_eq (by
  unfold atI ixN
  rw [if_neg (by decide), if_pos (by simp; omega)]
  show (xs ++ [d])[((-1 : Int) + ((xs ++ [d]).length : Nat)).toNat]? = some d
  rw [show ((-1 : Int) + ((xs ++ [d]).length : Nat)).toNat = xs.length by simp; omega]
  simp)
/-- any item -/
theorem pick_mem {xs : List PyData} {k : Int} (h0 : 0 ≤ k) (h1 : k < xs.length) (h : ∀ d ∈ xs, P d) : pick xs k P := at_of h0 h1 h
theorem st0 {x a : PyData} {r : List PyData} {K : List PyData → Prop} : stQ (a :: r) (.int 0) x K = K (x :: r) := by
  show (match ixN (a :: r).length 0 with | some j => K ((a :: r).set j x) | none => False) = _
  rw [ixN_in (by decide) (by simp)]
  rfl
theorem st1 {x a b : PyData} {r : List PyData} {K : List PyData → Prop} : stQ (a :: b :: r) (.int 1) x K = K (a :: x :: r) := by
  show (match ixN (a :: b :: r).length 1 with | some j => K ((a :: b :: r).set j x) | none => False) = _
  rw [ixN_in (by decide) (by simp; omega)]
  rfl
theorem st2 {x a b c : PyData} {r : List PyData} {K : List PyData → Prop} : stQ (a :: b :: c :: r) (.int 2) x K = K (a :: b :: x :: r) := by
  show (match ixN (a :: b :: c :: r).length 2 with | some j => K ((a :: b :: c :: r).set j x) | none => False) = _
  rw [ixN_in (by decide) (by simp; omega)]
  rfl
theorem st3 {x a b c d : PyData} {r : List PyData} {K : List PyData → Prop} : stQ (a :: b :: c :: d :: r) (.int 3) x K = K (a :: b :: c :: x :: r) := by
  show (match ixN (a :: b :: c :: d :: r).length 3 with | some j => K ((a :: b :: c :: d :: r).set j x) | none => False) = _
  rw [ixN_in (by decide) (by simp; omega)]
  rfl
theorem st4 {x a b c d e : PyData} {r : List PyData} {K : List PyData → Prop} : stQ (a :: b :: c :: d :: e :: r) (.int 4) x K = K (a :: b :: c :: d :: x :: r) := by
  show (match ixN (a :: b :: c :: d :: e :: r).length 4 with | some j => K ((a :: b :: c :: d :: e :: r).set j x) | none => False) = _
  rw [ixN_in (by decide) (by simp; omega)]
  rfl
end
theorem isi_non_int : isiB .none "int" = false := rfl
theorem isi_non_bool : isiB .none "bool" = false := rfl
theorem isi_non_str : isiB .none "str" = false := rfl
theorem isi_non_list : isiB .none "list" = false := rfl
theorem isi_non_tuple : isiB .none "tuple" = false := rfl
theorem isi_non_dict : isiB .none "dict" = false := rfl
theorem isi_bl_int {t : Bool} : isiB (.bool t) "int" = true := rfl
theorem isi_bl_bool {t : Bool} : isiB (.bool t) "bool" = true := rfl
theorem isi_bl_str {t : Bool} : isiB (.bool t) "str" = false := rfl
theorem isi_bl_list {t : Bool} : isiB (.bool t) "list" = false := rfl
theorem isi_bl_tuple {t : Bool} : isiB (.bool t) "tuple" = false := rfl
theorem isi_bl_dict {t : Bool} : isiB (.bool t) "dict" = false := rfl
theorem isi_int_int {a : Int} : isiB (.int a) "int" = true := rfl
theorem isi_int_bool {a : Int} : isiB (.int a) "bool" = false := rfl
theorem isi_int_str {a : Int} : isiB (.int a) "str" = false := rfl
theorem isi_int_list {a : Int} : isiB (.int a) "list" = false := rfl
theorem isi_int_tuple {a : Int} : isiB (.int a) "tuple" = false := rfl
theorem isi_int_dict {a : Int} : isiB (.int a) "dict" = false := rfl
theorem isi_str_int {x : Str} : isiB (.str x) "int" = false := rfl
theorem isi_str_bool {x : Str} : isiB (.str x) "bool" = false := rfl
theorem isi_str_str {x : Str} : isiB (.str x) "str" = true := rfl
theorem isi_str_list {x : Str} : isiB (.str x) "list" = false := rfl
theorem isi_str_tuple {x : Str} : isiB (.str x) "tuple" = false := rfl
theorem isi_str_dict {x : Str} : isiB (.str x) "dict" = false := rfl
theorem isi_lst_int {xs : List PyData} : isiB (.list xs) "int" = false := rfl
theorem isi_lst_bool {xs : List PyData} : isiB (.list xs) "bool" = false := rfl
theorem isi_lst_str {xs : List PyData} : isiB (.list xs) "str" = false := rfl
theorem isi_lst_list {xs : List PyData} : isiB (.list xs) "list" = true := rfl
theorem isi_lst_tuple {xs : List PyData} : isiB (.list xs) "tuple" = false := rfl
theorem isi_lst_dict {xs : List PyData} : isiB (.list xs) "dict" = false := rfl
theorem isi_tup_int {xs : List PyData} : isiB (.tuple xs) "int" = false := rfl
theorem isi_tup_bool {xs : List PyData} : isiB (.tuple xs) "bool" = false := rfl
theorem isi_tup_str {xs : List PyData} : isiB (.tuple xs) "str" = false := rfl
theorem isi_tup_list {xs : List PyData} : isiB (.tuple xs) "list" = false := rfl
theorem isi_tup_tuple {xs : List PyData} : isiB (.tuple xs) "tuple" = true := rfl
theorem isi_tup_dict {xs : List PyData} : isiB (.tuple xs) "dict" = false := rfl
theorem isi_dct_int : isiB (.dict []) "int" = false := rfl
theorem isi_dct_bool : isiB (.dict []) "bool" = false := rfl
theorem isi_dct_str : isiB (.dict []) "str" = false := rfl
theorem isi_dct_list : isiB (.dict []) "list" = false := rfl
theorem isi_dct_tuple : isiB (.dict []) "tuple" = false := rfl
theorem isi_dct_dict : isiB (.dict []) "dict" = true := rfl
end DL

namespace DL
variable {T : List (PySem.Addr × PySem.Str)} {Z : Zx T}
open PySem PySem.Spec PyProof.Rows L2
open Evl (Ex)
section
variable {X : Cx} {a b e : Expr} {es : List Expr} {we wa wb : DE} {was : DA} {pos p p1 p2 p3 p0 : Pos} {K : PySem.W.Frag} {m : Nat}
def rEmp (K : PySem.W.Frag) (n : Bool) : R2 := fun x y H Q => ∃ a b xs, x = .ref a ∧ y = .ref b ∧ ((SqL K H a xs ∧ SqL K H b []) ∨ (SqT K H a xs ∧ SqT K H b [])) ∧ Q (.bl (xs.isEmpty != n)) H
theorem op_empE (hu : X.A.units + 64 < cLine) : OpR X (compareOp .Eq) (rEmp X.K false) := by
  intro pins s σ H x y v u Q I rx ry h
  obtain ⟨a, b, xs, rfl, rfl, h, q⟩ := h
  cases rx
  cases ry
  have hu2 : X.A.units < cLine := by omega
  rcases h with ⟨h1, h2⟩ | ⟨h1, h2⟩
  · obtain ⟨its, r1, t1, _⟩ := I.list h1
    obtain ⟨its2, r2, t2, _⟩ := I.list h2
    cases r2
    cases r1 with
    | nil => exact SeqAt.RcAt.lists (e := fun _ => true) t1.isList t2.isList rfl hu2 (fun j h1 => absurd h1 (by simp)) _ _ _ _ ⟨.bl true, H, I, rfl, q⟩
    | cons _ _ => exact SeqAt.RcAt.lists_lengths t1.isList t2.isList (by simp) hu2 _ _ _ _ ⟨.bl false, H, I, rfl, q⟩
  · obtain ⟨its, r1, t1, _⟩ := I.tuple h1
    obtain ⟨its2, r2, t2, _⟩ := I.tuple h2
    cases r2
    refine SeqAt.RcAt.tuples (e := fun _ => true) t1 t2 hu2 (fun j h1 h2 => absurd h2 (by simp)) _ _ _ _ ?_
    cases r1 with
    | nil => exact ⟨.bl true, H, I, rfl, q⟩
    | cons _ _ => exact ⟨.bl false, H, I, rfl, q⟩
/-- x == [] of a list, x == () of a tuple -/
def oEmp (n : Bool) (x y : PyData) (P : PyData → Prop) : Prop := match x, y with
  | .list xs, .list [] => P (.bool (xs.isEmpty != n))
  | .tuple xs, .tuple [] => P (.bool (xs.isEmpty != n))
  | _, _ => False
theorem drs_empty {F : Hp} {vs : List V} {ds : List PyData} (r : DRs K F vs ds) : vs.isEmpty = ds.isEmpty := by cases r <;> rfl
theorem opd_emp {n : Bool} : OpD K (rEmp K n) (oEmp n) := by
  intro _ _ g F env σ H vx vy dx dy P Q k rx ry p q
  unfold oEmp at p
  split at p
  · obtain ⟨a, us, rfl, h1, h2⟩ := rx.inv_lst
    obtain ⟨b, ws, rfl, h3, h4⟩ := ry.inv_lst
    cases h4
    exact ⟨a, b, us, rfl, rfl, .inl ⟨(h1.mono k.fh).sq, (h3.mono k.fh).sq⟩, q _ _ F H (by rw [drs_empty h2]; exact p) (Ex.refl F) k (.bl _)⟩
  · obtain ⟨a, us, rfl, h1, h2⟩ := rx.inv_tup
    obtain ⟨b, ws, rfl, h3, h4⟩ := ry.inv_tup
    cases h4
    exact ⟨a, b, us, rfl, rfl, .inr ⟨Evl.ex_t k.fh h1, Evl.ex_t k.fh h3⟩, q _ _ F H (by rw [drs_empty h2]; exact p) (Ex.refl F) k (.bl _)⟩
  · exact p.elim
theorem q_empL {n : Bool} {xs : List PyData} {P : PyData → Prop} : oEmp n (.list xs) (.list []) P = P (.bool (xs.isEmpty != n)) := rfl
theorem q_empT {n : Bool} {xs : List PyData} {P : PyData → Prop} : oEmp n (.tuple xs) (.tuple []) P = P (.bool (xs.isEmpty != n)) := rfl
variable {x : Str}
def oIsB (n t : Bool) (x : PyData) (P : PyData → Prop) : Prop := match x with
  | .bool b => P (.bool (decide (b = t) != n))
  | _ => False
theorem q_isB {n t b : Bool} {P : PyData → Prop} : oIsB n t (.bool b) P = P (.bool (decide (b = t) != n)) := rfl
/-- a new thing, its object known -/
theorem PE.known {t : TE} (h : PE X e t) : PE X e (fun σ H Q => t σ H fun v H1 => ∃ a u, v = .ref a ∧ H1 a = some u ∧ Mut (some u) ∧ ∀ od, Q v (upd H1 a (.frz od u))) := ⟨fun pins s σ H Q I hw => by
  refine thn (h.run pins s σ H _ I hw) fun v s1 ⟨x, H1, I1, r, a, u, ea, eu, mu, q⟩ => ?_
  obtain ⟨od, I2⟩ := I1.lock eu mu
  exact ⟨x, _, I2, r, q od⟩⟩
theorem ddict0 : PE X (.Dict [] [] pos) (liftE X.K Z (dC (.dict []))) := PE.of (PE.known pe_dnewK) fun σ H Q ⟨g, F, env, P, k, w, q⟩ => fun p hp => ⟨p, .dK [], rfl, upd_same, True.intro, fun od => by
  rw [upd_upd]
  exact q _ env _ (upd F p (.frz od (.dK []))) _ w (Ex.new (fnone k.fh hp)) (k.alloc hp) (.dct upd_same .nil)⟩
end

section
variable {prog : Program} {w : World} {A : Around} {E : Value → Shared → Prop} {s : Shared}
end
end DL

namespace DL
variable {T : List (PySem.Addr × PySem.Str)} {Z : Zx T}
open PySem PySem.Spec PyProof.Rows L2
open Evl (Ex)
section
variable {X : Cx} {a b e : Expr} {es : List Expr} {we wa wb : DE} {was : DA} {pos p p1 p2 p3 p0 : Pos} {K : PySem.W.Frag} {m : Nat}
def oRevA (x : PyData) (P : PyData → Prop) : Prop := match x with
  | .list ds => P (.list ds.reverse)
  | .tuple ds => P (.tuple ds.reverse)
  | _ => False
theorem q_revL {ds : List PyData} {P : PyData → Prop} : oRevA (.list ds) P = P (.list ds.reverse) := rfl
theorem q_revT {ds : List PyData} {P : PyData → Prop} : oRevA (.tuple ds) P = P (.tuple ds.reverse) := rfl
end
end DL

namespace DL
variable {T : List (PySem.Addr × PySem.Str)} {Z : Zx T}
open PySem PySem.Spec PyProof.Rows L2
open Evl (Ex)
section
variable {X : Cx} {a b e : Expr} {es : List Expr} {we wa wb : DE} {was : DA} {pos p p1 p2 p3 p0 : Pos} {K : PySem.W.Frag} {m : Nat}
/-- [e] * n, a new cell -/
def repQ (x y : PyData) (K : List PyData → Prop) : Prop := match y with
  | .int k => (-1000000 ≤ k ∧ k ≤ 100000) ∧ K (List.replicate k.toNat x)
  | _ => False
theorem q_rep {x : PyData} {k : Int} {K : List PyData → Prop} : repQ x (.int k) K = ((-1000000 ≤ k ∧ k ≤ 100000) ∧ K (List.replicate k.toNat x)) := rfl
abbrev dRep (wa wb : DE) (env : List SD) (P : SD → List SD → Prop) : Prop := wa env fun x env1 => wb env1 fun y env2 => repQ x y fun xs => P (.cel false xs) env2
theorem rep_flat {α : Type} (x : α) : ∀ n : Nat, (List.replicate n [x]).flatten = List.replicate n x
  | 0 => rfl
  | n + 1 => by rw [List.replicate_succ, List.flatten_cons, rep_flat x n, List.replicate_succ]; rfl
theorem DRs.rep {F : Hp} {v : V} {d : PyData} (r : DR K F v d) : ∀ n : Nat, DRs K F (List.replicate n v) (List.replicate n d)
  | 0 => .nil
  | n + 1 => by rw [List.replicate_succ, List.replicate_succ]; exact .cons r (DRs.rep r n)
theorem drep {lp : Pos} (ha : PE X a (liftE X.K Z wa)) (hb : PE X b (liftE X.K Z wb)) (hs : starEach [a] X.env = (false, eval a X.env) :: starEach [] X.env := by rfl) : PE X (.BinOp (.List [a] lp) .Mult b pos) (liftX X.K Z (dRep wa wb)) :=
  PE.of (pe_op op_rep (pe_lst (pa_cons ha pa_nil hs)) hb) fun σ H Q ⟨g, F, env, P, k, w, q⟩ =>
    ⟨g, F, env, _, k, w, fun x env1 v F1 H1 p1 e1 k1 r1 => ⟨by show 1 ≤ sizeLine; decide, fun D hD => by
      obtain ⟨k2, rc⟩ := k1.newCell hD (DRs.one r1)
      obtain ⟨D', vs, eD, hF, hH, rr, h0, hpr, nw⟩ := rc
      cases eD
      refine ⟨_, F1, env1, _, k2.hide hF hH nw hpr, p1, fun y env2 v2 F2 H2 p2 e2 k3 r2 => ?_⟩
      obtain ⟨n, rfl, ⟨h1, h2⟩, p2⟩ : ∃ n, y = .int n ∧ (-1000000 ≤ n ∧ n ≤ 100000) ∧ P (.cel false (List.replicate n.toNat x)) env2 := by
        cases y <;> first | exact ⟨_, rfl, p2⟩ | exact p2.elim
      cases r2.inv_int
      obtain ⟨k4, z1, z2, z3⟩ := Ok.bare hpr k3
      have hvs : vs = [v] := by
        rw [upd_same] at hH
        cases hH
        rfl
      subst hvs
      refine ⟨D, n, [v], rfl, rfl, z2, by omega, by omega, ?_, fun p hp => ?_⟩
      · show 1 * n.toNat ≤ sizeLine
        exact Evl.sz_of (by omega)
      · rw [rep_flat]
        obtain ⟨k5, r5⟩ := k4.newCell hp (DRs.rep (r1.mono e2) n.toNat)
        exact q _ env2 _ _ _ p2 (e1.trans e2) k5 r5⟩⟩
end
theorem Dn.imp {P : Program} {w : World} {K : PySem.W.Frag} {mg : Str → Option Value} {base : Heap} {x : Str} {k : Nat} {ps : List Str} {S S' : DSp} (D : Dn P w K mg base T x k ps S) (h : ∀ as Q, S' as Q → S as Q) : Dn P w K mg base T x k ps S' :=
  ⟨let ⟨fd, F, b⟩ := D.ex; ⟨fd, F.imp h, b⟩, D.glo, D.kp⟩
theorem FnG.never {P : Program} {w : World} {K : PySem.W.Frag} {mg : Str → Option Value} {base : Heap} {k : Nat} {f : Addr} {fd : FuncData} {ps : List Str} {S : DSp} (h : ∀ as Q, ¬ S as Q) : FnG P w K mg base T k f fd ps S :=
  ⟨fun as Q q => absurd q (h as Q), fun _ _ _ _ _ _ _ _ _ _ _ _ _ ⟨_, as, _, _, q, _⟩ => absurd q (h as _)⟩
end DL

namespace DL
variable {T : List (PySem.Addr × PySem.Str)} {Z : Zx T}
open PySem PySem.Spec PyProof.Rows L2
open Evl (Ex)
section
variable {X : Cx} {a b e : Expr} {wa wb : DE} {pos : Pos} {K : PySem.W.Frag}
abbrev oFd : D2 := oIc (fun _ j => j ≠ 0 ∧ Sz j) fun i j => .int (i.fdiv j)
theorem q_fd {i j : Int} {P : PyData → Prop} : oFd (.int i) (.int j) P = ((j ≠ 0 ∧ Sz j) ∧ P (.int (i.fdiv j))) := rfl
end
end DL

namespace DL
variable {T : List (PySem.Addr × PySem.Str)} {Z : Zx T}
open PySem PySem.Spec PyProof.Rows L2
open Evl (Ex)
section
variable {X : Cx} {a b e : Expr} {es : List Expr} {pos p : Pos} {was : DA} {wa wb we : DE} {K : PySem.W.Frag}
def max3 (i j k : Int) : Int := max (max i j) k
def min3 (i j k : Int) : Int := min (min i j) k
def nMax3 (xs : List PyData) (P : PyData → Prop) : Prop := match xs with
  | [.int i, .int j, .int k] => P (.int (max3 i j k))
  | _ => False
def nMin3 (xs : List PyData) (P : PyData → Prop) : Prop := match xs with
  | [.int i, .int j, .int k] => P (.int (min3 i j k))
  | _ => False
theorem q_max3 {i j k : Int} {P : PyData → Prop} : nMax3 [.int i, .int j, .int k] P = P (.int (max3 i j k)) := rfl
theorem q_min3 {i j k : Int} {P : PyData → Prop} : nMin3 [.int i, .int j, .int k] P = P (.int (min3 i j k)) := rfl
/-- the figures of a whole number -/
@[irreducible] def shInt (i : Int) : Str := toString i
def nStr (xs : List PyData) (P : PyData → Prop) : Prop := match xs with
  | [.int i] => i.natAbs < 10 ^ 250 ∧ P (.str (shInt i))
  | _ => False
theorem q_str {i : Int} {P : PyData → Prop} : nStr [.int i] P = (i.natAbs < 10 ^ 250 ∧ P (.str (shInt i))) := rfl
def catQ (xs : List PyData) (y : PyData) (K : List PyData → Prop) : Prop := match y with
  | .list ys => xs.length + ys.length ≤ 100000 ∧ K (xs ++ ys)
  | _ => False
theorem q_cat {xs ys : List PyData} {K : List PyData → Prop} : catQ xs (.list ys) K = (xs.length + ys.length ≤ 100000 ∧ K (xs ++ ys)) := rfl
theorem catQ_inv {xs : List PyData} {y : PyData} {K : List PyData → Prop} (h : catQ xs y K) : ∃ ys, y = .list ys ∧ xs.length + ys.length ≤ 100000 ∧ K (xs ++ ys) := by
  cases y <;> first | exact ⟨_, rfl, h⟩ | exact h.elim
abbrev dCatN (wa wb : DE) (env : List SD) (P : SD → List SD → Prop) : Prop := wa env fun x env1 => wb env1 fun y env2 => match x with
  | .list xs => catQ xs y fun zs => P (.cel false zs) env2
  | _ => False
/-- a list, as a row of items -/
def catN (x y : PyData) (K : List PyData → Prop) : Prop := match x with
  | .list xs => catQ xs y K
  | _ => False
theorem q_catN {xs ys : List PyData} {K : List PyData → Prop} : catN (.list xs) (.list ys) K = (xs.length + ys.length ≤ 100000 ∧ K (xs ++ ys)) := rfl
theorem dcatN (ha : PE X a (liftE X.K Z wa)) (hb : PE X b (liftE X.K Z wb)) : PE X (.BinOp a .Add b pos) (liftX X.K Z (dCatN wa wb)) :=
  PE.of (pe_op op_catL ha hb) fun σ H Q ⟨g, F, env, P, k, w, q⟩ => ⟨g, F, env, _, k, w, fun x env1 v F1 H1 p1 e1 k1 r1 => ⟨g, F1, env1, _, k1, p1, fun y env2 v2 F2 H2 p2 e2 k2 r2 => by
    split at p2
    · obtain ⟨zs, rfl, hz, p2⟩ := catQ_inv p2
      obtain ⟨a1, us, rfl, y1, y2⟩ := r1.inv_lst
      obtain ⟨b1, ws, rfl, y3, y4⟩ := r2.inv_lst
      refine ⟨a1, b1, us, ws, rfl, rfl, y1.mono (e2.trans k2.fh), y3.mono k2.fh, by rw [y2.length, y4.length]; exact sz2 hz, fun p hp => ?_⟩
      obtain ⟨k3, r3⟩ := k2.newCell hp ((y2.mono e2).append y4)
      exact q _ env2 _ _ _ p2 (e1.trans e2) k3 r3
    · exact p2.elim⟩⟩
def scalQ (d : PyData) (p : Prop) : Prop := match d with
  | .none => p
  | .bool _ => p
  | .int _ => p
  | .str _ => p
  | _ => False
theorem q_scalN {p : Prop} : scalQ .none p = p := rfl
theorem q_scalB {b : Bool} {p : Prop} : scalQ (.bool b) p = p := rfl
theorem q_scalI {i : Int} {p : Prop} : scalQ (.int i) p = p := rfl
theorem q_scalS {x : Str} {p : Prop} : scalQ (.str x) p = p := rfl
def frz1 : SD → SD
  | .cel _ xs => .dat (.list xs)
  | .dic _ => .un
  | s => s
def frz (env : List SD) : List SD := env.map frz1
theorem Ok.later {g : Gx Z} {F : Hp} {env : List SD} {σ : L2.St} {H H' : Hp} (k : Ok K g F env σ H) (e : Frm T H (fun _ => True) H') (ef : Ex F H') : Ok K g F env σ H' where
  len := k.len
  fh := ef
  dat := k.dat
  cel := fun i q xs h => by
    obtain ⟨a, vs, h1, h2, h3, h4, h5⟩ := k.cel i q xs h
    exact ⟨a, vs, h1, h2, (e.stay _ _ h3 trivial).lst, h4, h5⟩
  sep := k.sep
  pin := k.pin
  frame := k.frame.trans e fun _ _ _ _ => trivial
  newF := k.newF
  oldF := k.oldF
  prot := fun a u h => by
    obtain ⟨z1, z2, z3⟩ := k.prot a u h
    exact ⟨(e.stay _ _ z1 trivial).same (g.pl a u h), z2, z3⟩
  dic := k.dic.keep (Ex.refl F) (fun _ _ _ z => z) fun a xs h n => ⟨n, (e.stay _ _ h trivial).ext.trans h.symm⟩
theorem Ok.lend {g : Gx Z} {F : Hp} {env : List SD} {σ : L2.St} {H : Hp} (k : Ok K g F env σ H) : ∃ (Z' : Zx T) (g' : Gx Z') (F' : Hp), Ok K g' F' (frz env) σ H ∧ Z'.H0 = H ∧ (∀ i, Z'.A0 i = none) ∧ Ex F F' := by
  classical
  let c : Addr → Prop := fun a => ∃ (i : Nat) (p : Bool) (xs : List PyData), env[i]? = some (.cel p xs) ∧ σ[i]? = some (some (.ref a))
  let F' : Hp := fun a => if c a then H a else F a
  have ex : Ex F F' := fun a o h => by
    show (if c a then H a else F a) = some o
    by_cases z : c a
    · rw [if_pos z]
      exact k.fh a o h
    · rw [if_neg z]
      exact h
  have fh : Ex F' H := fun a o h => by
    have h : (if c a then H a else F a) = some o := h
    by_cases z : c a
    · rw [if_pos z] at h
      exact h
    · rw [if_neg z] at h
      exact k.fh a o h
  have nt : ∀ a ps, F' a ≠ some (.tbl ps) := fun a ps h => by
    have h : (if c a then H a else F a) = some (.tbl ps) := h
    by_cases z : c a
    · rw [if_pos z] at h
      obtain ⟨i, p, xs, e, h1⟩ := z
      obtain ⟨b, vs, b1, _, b3, _⟩ := k.cel i p xs e
      rw [h1] at b1
      cases b1
      rw [b3] at h
      cases h
    · rw [if_neg z] at h
      exact k.oldF.2 a ps h
  refine ⟨⟨F', H, fun _ => none, fun _ => none, Z.P, Z.w⟩, ⟨fun _ => none, fun _ _ h => h, fun _ _ h => by cases h⟩, F', ⟨?_, fh, fun i d h => ?_, fun i p xs h => ?_, fun i j p q xs ys a h => ?_, fun i a h => ?_, Frm.refl k.frame.tab, fun a o h => .inl h, ⟨Ex.refl _, nt⟩, fun a o h => ?_, DicsOk.none fun i kvs h => ?_⟩, rfl, fun _ => rfl, ex⟩
  · unfold frz
    rw [List.length_map]
    exact k.len
  · unfold frz at h
    rw [List.getElem?_map] at h
    cases e : env[i]? with
    | none => rw [e] at h; cases h
    | some s =>
      rw [e] at h
      cases s with
      | un => cases h
      | dic _ => cases h
      | dat d' =>
        cases h
        obtain ⟨v, h1, h2⟩ := k.dat i _ e
        exact ⟨v, h1, h2.mono ex⟩
      | cel p xs =>
        cases h
        obtain ⟨a, vs, h1, h2, h3, h4, h5⟩ := k.cel i p xs e
        refine ⟨_, h1, .lst (RdL.of (xs := vs) ?_) (h4.mono ex)⟩
        show (if c a then H a else F a) = _
        rw [if_pos ⟨i, p, xs, e, h1⟩]
        exact h3
  · unfold frz at h
    rw [List.getElem?_map] at h
    cases e : env[i]? with
    | none => rw [e] at h; cases h
    | some s => rw [e] at h; cases s <;> cases h
  · unfold frz at h
    rw [List.getElem?_map] at h
    cases e : env[i]? with
    | none => rw [e] at h; cases h
    | some s => rw [e] at h; cases s <;> cases h
  · cases h
  · cases h
  · unfold frz at h
    rw [List.getElem?_map] at h
    cases e : env[i]? with
    | none => rw [e] at h; cases h
    | some s => rw [e] at h; cases s <;> cases h
theorem PE.anyZ {ι : Type} {t : ι → TE} (h : ∀ i, PE X e (t i)) : PE X e (fun σ H Q => ∃ i, t i σ H Q) := ⟨fun pins s σ H Q I ⟨i, w⟩ => (h i).run pins s σ H Q I w⟩
theorem PT.anyZ {ι : Type} {t : ι → TT} (h : ∀ i, PT X e (t i)) : PT X e (fun σ H Q => ∃ i, t i σ H Q) := ⟨fun pins s σ H Q I ⟨i, w⟩ => (h i).run pins s σ H Q I w⟩
/-- the tuple at a as it stands at each turn, each item in a new pair -/
def IteT (K : PySem.W.Frag) (a : Addr) : It :=
  ⟨fun i H => ∃ (xs : List V) (x : V), SqT K H a xs ∧ xs[i]? = some x, fun i H v H' => ∃ T x, v = .ref T ∧ H T = none ∧ H' = upd H T (.tup [.int (i : Nat), x]) ∧ ∀ xs, SqT K H a xs → xs[i]? = some x, fun i H => ∃ xs : List V, SqT K H a xs ∧ xs.length ≤ i⟩
theorem turn_enumT {P : Program} {w : World} {K : PySem.W.Frag} {elts : List Expr} {kk : Nat} {tpos : Pos} (a e it : Addr) (hai : a ≠ it) (hae : e ≠ a) :
    Turn P w K (.Tuple elts kk tpos) (IteT K a) [e, it] e (fun i h => (∃ old, IsEnum h e it ((i : Nat) : Int) old) ∧ h.IsTupleIter it a i ∧ e ≠ it) where
  mem := by simp
  obj := fun i h st b hb => by
    obtain ⟨⟨old, he⟩, ⟨o, ho, hc, hd⟩, _⟩ := st
    have e' : b = e ∨ b = it := by simpa using hb
    rcases e' with z | z
    · rw [z]; exact ⟨_, he, fun v q => nomatch q⟩
    · rw [z]; exact ⟨o, ho, fun v q => by rw [hd] at q; cases q⟩
  keep := fun i h h' st k => let ⟨⟨old, he⟩, hi, hne⟩ := st; ⟨⟨old, k e (by simp) _ he⟩, hi.at fun o q => k it (by simp) o q, hne⟩
  item := by
    intro X hP hw hK hc i pins s σ H E I hf st hg
    subst hP hw hK
    obtain ⟨⟨old, he⟩, hit, hne⟩ := st
    obtain ⟨xs, x, hq, hx⟩ := hg
    obtain ⟨its, rv, p, hz⟩ := I.tuple hq
    obtain ⟨u, hu, ru⟩ := rv.get hx
    have hel : e < s.heap.objs.size := Heap.lt_size he
    have hil : it < s.heap.objs.size := by obtain ⟨_, q, _⟩ := hit; exact Heap.lt_size q
    have hii : i < its.toArray.size := by
      rcases Nat.lt_or_ge i its.toArray.size with z | z
      · exact z
      · rw [List.getElem?_eq_none (by simpa using z)] at hu; cases hu
    refine wpAny_pyNext_enum_itemD (Draws.tuple (A := X.A.in1) (show X.A.in1.handled = none from I.ok.hd hc) it a hai its.toArray) he ⟨hit, p⟩ hii hne (by simp [hne, hae]) fun y h' tk hy ho hit' hT hsz hk => ?_
    have hyu : y = u := by
      have : its.toArray[i]? = some u := by simpa using hu
      rw [this] at hy
      exact (Option.some.inj hy).symm
    subst hyu
    refine ⟨_, rfl, wpAny_letOwnedTupleGo_enum (s := { s with heap := h', toks := tk + 1 }) ho fun h'' he' sb => ?_⟩
    have hT2 : h''.get? s.heap.objs.size = some { cls := .type "tuple", data := .seq #[.int i tk, y] } := (sb.2 _ (Nat.ne_of_gt hel)).trans hT
    have new : ObjOk X.prog X.w (upd H s.heap.objs.size (.tup [.int (i : Nat), x])) h'' s.heap.objs.size (.tup [.int (i : Nat), x]) :=
      ⟨by show 2 ≤ sizeLine; decide, [.int i tk, y], .cons ⟨_, rfl⟩ (.cons ru .nil), ⟨_, hT2, rfl, _, rfl⟩⟩
    have I1 : Inv X pins σ (upd H s.heap.objs.size (.tup [.int (i : Nat), x])) { s with heap := h'', toks := tk + 1 } :=
      I.turnedNew (ch := [e, it]) (fun b ob hb q => (sb.2 b (fun z => hb (by simp [z]))).trans (hk b ob (fun z => hb (by simp [z])) (fun z => hb (by simp [z])) q)) hf (Nat.le_refl _) new
    refine ⟨.ref s.heap.objs.size, _, I1, rfl, ⟨_, x, rfl, I.hok.fresh (Nat.le_refl _), rfl, fun ys hy => by rw [I.tuple_inj hy hq]; exact hx⟩, ⟨⟨y, ?_⟩, hit'.1.at fun o q => (sb.2 it (Ne.symm hne)).trans q, hne⟩, fun b hb => ?_⟩
    · have e1 : ((i + 1 : Nat) : Int) = (i : Int) + 1 := by omega
      rw [e1]; exact he'
    · have hb' : b < s.heap.objs.size := by
        have e' : b = e ∨ b = it := by simpa using hb
        rcases e' with z | z
        · rw [z]; exact hel
        · rw [z]; exact hil
      rw [upd_ne (Nat.ne_of_lt hb')]
      exact (hf b hb).1
  done := by
    intro X hP hw hK hc i pins s σ H E I hf st hg
    subst hP hw hK
    obtain ⟨⟨old, he⟩, hit, hne⟩ := st
    obtain ⟨xs, hq, hx⟩ := hg
    obtain ⟨its, rv, p, hz⟩ := I.tuple hq
    obtain ⟨f0, f1, f2, f3, f4, f5⟩ := hf it (by simp)
    have hl := rv.length
    have hd : X.A.handled = none := I.ok.hd hc
    have hT : s.TypeIs (.ref e) "enumerate" := ⟨_, he, rfl⟩
    unfold pyNext
    refine wpAny_bind (wpAny_attempt (wpAny_callSpecial?_slot (name := Str.ofString "__next__") hT F.slot_enumerate_next
      (wpAny_call_entry F.slot_enumerate_next hT F.entry_enumerate_next ?_ (F.args_enumerate_next_1 _))))
    show wpAny _ _ (field (.ref e) 2 >>= _) _ _ _
    refine wpAny_bind (wpAny_field he rfl (x := .ref it) rfl ?_)
    refine wpAny_bind (RZ.nextOf_tuple_end hd hit p (by simp; omega) fun h' x he' hx' => ?_)
    obtain ⟨o, ho, hc⟩ := hx'
    refine wpAny_bind (wpAny_isInstance (T := "StopIteration") (b := true) ⟨o, ho, hc⟩ isSubtype_stop ?_)
    exact wpAny_pure ⟨rfl, I.turned (t' := s.toks) (fun b o hb q => he' b o hb q) f0 f1 f3 f4 f5⟩
  self := fun A i s Q E st h => let ⟨⟨_, he⟩, _⟩ := st; wpAny_pyIter_enum he h
set_option maxHeartbeats 1000000 in
theorem meets_enumerate_new1 {v : Value} {o : Obj} {H : Heap → Prop} (B : Begins v o H) :
    Meets (Builtin.«enumerate.__new__» ⟨[.type "enumerate", v], []⟩) (fun _ R s => H s.heap ∧
      R (.ok (.ret (.ref (s.heap.push o).objs.size))) { s with heap := (s.heap.push o).push { cls := .type "enumerate", data := .fields #[.none, .bool false, .ref s.heap.objs.size, rawInt 0, .none, .none] } }) :=
  .of_wp fun prog w A R s h => by
    obtain ⟨hp, g, d, tk, os⟩ := s; obtain ⟨h1, h⟩ := h
    have hsub := sub_enumerate
    have q1 : ∀ {A' : Around} {E : Value → Shared → Prop} {Q : Value → Shared → Prop}, Q (.ref hp.objs.size) ⟨hp.push o, g, d, tk, os⟩ → wpAny (model prog w) A' (pyIter v) Q E ⟨hp, g, d, tk, os⟩ :=
      fun q => B.iter prog w _ _ ⟨hp, g, d, tk, os⟩ _ h1 q
    wp_walk using q1
    refine wpAny_stack_any fun st => wpAny_pure ?_
    split
    · rename_i c _ _ _ _ _
      cases (c == Value.type "enumerate")
      · wp_walk using q1
        exact ⟨_, rfl, h⟩
      · wp_walk using q1
        exact ⟨_, rfl, h⟩
    · wp_walk using q1
      exact ⟨_, rfl, h⟩
theorem enum_begins1 {prog : Program} {w : World} {A : Around} {E : Value → Shared → Prop} {s : Shared} {v : Value} {o : Obj} {H : Heap → Prop} {Q : Value → Shared → Prop} (B : Begins v o H) (h1 : H s.heap)
    (h : ∀ h', IsEnum h' (s.heap.objs.size + 1) s.heap.objs.size 0 .none → h'.get? s.heap.objs.size = some o → h'.objs.size = s.heap.objs.size + 2 →
      (∀ b o, s.heap.get? b = some o → h'.get? b = some o) → Q (.ref (s.heap.objs.size + 1)) { s with heap := h' }) :
    wpAny (model prog w) A (call (.type "enumerate") [v]) Q E s := by
  refine callType_new F.called_enumerate (by decide) (F.typeCall_enumerate_1 _) (F.newCall_enumerate_1 _) (fun obj => F.args_object_init_2 obj _) F.entry_enumerate_new
    (meets_enumerate_new1 B) ⟨h1, ?_⟩
  have hz : (s.heap.push o).objs.size = s.heap.objs.size + 1 := Heap.size_push ..
  show _ ∧ _
  rw [hz]
  have he : IsEnum ((s.heap.push o).push { cls := .type "enumerate", data := .fields #[.none, .bool false, .ref s.heap.objs.size, rawInt 0, .none, .none] }) (s.heap.objs.size + 1) s.heap.objs.size 0 .none := by
    have := Heap.get?_push_size (s.heap.push o) (o := { cls := .type "enumerate", data := .fields #[.none, .bool false, .ref s.heap.objs.size, rawInt 0, .none, .none] }) rfl
    rw [hz] at this; exact this
  refine ⟨⟨_, he, rfl⟩, h _ he (Heap.get?_push_of_some _ (Heap.get?_push_size _ B.free)) (by rw [Heap.size_push, hz]) fun b o x => Heap.get?_push_of_some _ (Heap.get?_push_of_some _ x)⟩
def iEnumA (K : PySem.W.Frag) (ta : TA) : TI := fun σ H R => ta σ H fun vs H1 => ∃ a xs, vs = [.ref a] ∧ ((SqL K H1 a xs ∧ R (Ite K a) H1) ∨ (SqT K H1 a xs ∧ R (IteT K a) H1))
theorem pi_enumA {ta : TA} {tpos : Pos} {elts : List Expr} {kk : Nat} (hg : Gl X "enumerate") (hm : X.mg "enumerate" = none) (ha : PA X [e] ta) (hs : starEach [e] X.env = [(false, eval e X.env)] := by rfl) :
    PI X (.Tuple elts kk tpos) (.Call (.Name "enumerate" p) [e] [] pos) (iEnumA X.K ta) := by
  refine ⟨fun pins s σ H R I h => ?_⟩
  refine Call_ (ld_blt I hg hm boot_enumerate (PyProof.Rows.callWith_type1 (thn (ha.run pos pins s σ H _ I h) fun us s1 ⟨vs, H1, I1, r1, q1⟩ => ?_) hs rfl))
  obtain ⟨a, xs, ex, q1⟩ := q1
  subst ex
  cases r1 with
  | cons r rr =>
    cases rr
    cases r
    rcases q1 with ⟨hq, q⟩ | ⟨hq, q⟩
    · obtain ⟨its, rv, p', hz⟩ := I1.list hq
      refine call_enumerate_list p'.isList fun h' he hit hsz hk => wpAny_pyIter_enum he ?_
      have I2 : Inv X pins σ H1 { s1 with heap := h' } := I1.kept (t' := s1.toks) hk
      refine ⟨s1.heap.objs.size + 1, [s1.heap.objs.size + 1, s1.heap.objs.size], _, _, H1, rfl, I2, turn_enum a (s1.heap.objs.size + 1) s1.heap.objs.size, ⟨⟨.none, he⟩, hit, Nat.succ_ne_self _⟩, fun b hb => ?_, q⟩
      have e' : b = s1.heap.objs.size + 1 ∨ b = s1.heap.objs.size := by simpa using hb
      have hle : s1.heap.objs.size ≤ b := by
        rcases e' with z | z
        · rw [z]; exact Nat.le_add_right _ _
        · rw [z]; exact Nat.le_refl _
      exact I1.fpOk hle (I1.hok.fresh hle)
    · obtain ⟨its, rv, p', hz⟩ := I1.tuple hq
      have hal : a < s1.heap.objs.size := by obtain ⟨_, z, _⟩ := p'; exact Heap.lt_size z
      refine enum_begins1 (begins_tuple a its.toArray) p' fun h' he hit hsz hk => wpAny_pyIter_enum he ?_
      have I2 : Inv X pins σ H1 { s1 with heap := h' } := I1.kept (t' := s1.toks) hk
      refine ⟨s1.heap.objs.size + 1, [s1.heap.objs.size + 1, s1.heap.objs.size], _, _, H1, rfl, I2, turn_enumT a (s1.heap.objs.size + 1) s1.heap.objs.size (Nat.ne_of_lt hal) (Nat.ne_of_gt (Nat.lt_succ_of_lt hal)), ⟨⟨.none, he⟩, ⟨_, hit, rfl, rfl⟩, Nat.succ_ne_self _⟩, fun b hb => ?_, q⟩
      have e' : b = s1.heap.objs.size + 1 ∨ b = s1.heap.objs.size := by simpa using hb
      have hle : s1.heap.objs.size ≤ b := by
        rcases e' with z | z
        · rw [z]; exact Nat.le_add_right _ _
        · rw [z]; exact Nat.le_refl _
      exact I1.fpOk hle (I1.hok.fresh hle)
/-- 0, 1, .. beside the items -/
def enumD : Nat → List PyData → List PyData
  | _, [] => []
  | n, x :: xs => .tuple [.int (n : Nat), x] :: enumD (n + 1) xs
theorem enumD_length : ∀ (xs : List PyData) (n : Nat), (enumD n xs).length = xs.length
  | [], _ => rfl
  | _ :: xs, n => congrArg (· + 1) (enumD_length xs (n + 1))
theorem enumD_get : ∀ {xs : List PyData} {n i : Nat} {d : PyData}, (enumD n xs)[i]? = some d → ∃ x, xs[i]? = some x ∧ d = .tuple [.int ((n + i : Nat) : Int), x]
  | [], _, _, _, h => by simp [enumD] at h
  | x :: xs, n, 0, d, h => by simp [enumD] at h; exact ⟨x, rfl, h.symm⟩
  | x :: xs, n, i + 1, d, h => by
    obtain ⟨u, h1, h2⟩ := enumD_get (xs := xs) (n := n + 1) (i := i) (d := d) (by simpa [enumD] using h)
    exact ⟨u, by simpa using h1, by rw [h2, show n + 1 + i = n + (i + 1) by omega]⟩
def enumQ (ds : List PyData) (K : List PyData → Prop) : Prop := match ds with
  | [.list xs] => At (enumD 0 xs) K
  | [.tuple xs] => At (enumD 0 xs) K
  | _ => False
theorem q_enumL {xs : List PyData} {K : List PyData → Prop} : enumQ [.list xs] K = K (enumD 0 xs) := At.eq
theorem q_enumT {xs : List PyData} {K : List PyData → Prop} : enumQ [.tuple xs] K = K (enumD 0 xs) := At.eq
theorem walkD_enumL {F : Hp} {a : Addr} {us : List V} {xs : List PyData} (h1 : RdL K F a us) (h2 : DRs K F us xs) : WalkD K true F (Ite K a) (enumD 0 xs) := by
  refine ⟨fun H => SqL K H a us, fun i H v H' => ∃ T x, v = .ref T ∧ H T = none ∧ H' = upd H T (.tup [.int (i : Nat), x]) ∧ us[i]? = some x, ⟨fun i H hi q => ?_, fun H q => ?_, fun i H x H' hi q y => ?_⟩, fun H e => (h1.mono e).sq, fun i H x H' d _ e y => ?_⟩
  · rw [enumD_length, ← h2.length] at hi
    exact ⟨us, us[i]'hi, q, by simp [hi]⟩
  · exact ⟨us, q, by rw [enumD_length, ← h2.length]; exact Nat.le_refl _⟩
  · obtain ⟨T, u, z1, z2, z3, z4⟩ := y
    exact ⟨T, u, z1, z2, z3, z4 us q⟩
  · obtain ⟨T, u, z1, z2, z3, z4⟩ := y
    obtain ⟨dx, e1, rfl⟩ := enumD_get e
    obtain ⟨u', y1, y2⟩ := h2.get e1
    rw [z4] at y1
    cases y1
    refine .inr ⟨rfl, T, _, _, z1, z2, z3, rfl, .cons ?_ (.one y2)⟩
    rw [Nat.zero_add]
    exact .int _
theorem walkD_enumT {F : Hp} {a : Addr} {us : List V} {xs : List PyData} (h1 : SqT K F a us) (h2 : DRs K F us xs) : WalkD K true F (IteT K a) (enumD 0 xs) := by
  refine ⟨fun H => SqT K H a us, fun i H v H' => ∃ T x, v = .ref T ∧ H T = none ∧ H' = upd H T (.tup [.int (i : Nat), x]) ∧ us[i]? = some x, ⟨fun i H hi q => ?_, fun H q => ?_, fun i H x H' hi q y => ?_⟩, fun H e => Evl.ex_t e h1, fun i H x H' d _ e y => ?_⟩
  · rw [enumD_length, ← h2.length] at hi
    exact ⟨us, us[i]'hi, q, by simp [hi]⟩
  · exact ⟨us, q, by rw [enumD_length, ← h2.length]; exact Nat.le_refl _⟩
  · obtain ⟨T, u, z1, z2, z3, z4⟩ := y
    exact ⟨T, u, z1, z2, z3, z4 us q⟩
  · obtain ⟨T, u, z1, z2, z3, z4⟩ := y
    obtain ⟨dx, e1, rfl⟩ := enumD_get e
    obtain ⟨u', y1, y2⟩ := h2.get e1
    rw [z4] at y1
    cases y1
    refine .inr ⟨rfl, T, _, _, z1, z2, z3, rfl, .cons ?_ (.one y2)⟩
    rw [Nat.zero_add]
    exact .int _
theorem ienum {elts : List Expr} {kk : Nat} {tpos : Pos} (hm : X.mg "enumerate" = none) (ha : PA X [a] (liftA X.K Z was)) (hg : Gl X "enumerate" := by rfl) (hs : starEach [a] X.env = [(false, eval a X.env)] := by rfl) :
    PI X (.Tuple elts kk tpos) (.Call (.Name "enumerate" p) [a] [] pos) (liftI X.K Z true (dIt enumQ was)) :=
  PI.of (pi_enumA hg hm ha hs) fun σ H R ⟨g, F, env, P, k, w, q⟩ => ⟨g, F, env, _, k, w, fun ds env1 vs F1 H1 p e1 k1 r1 => by
    unfold enumQ at p
    split at p
    · obtain ⟨v, rfl, r2⟩ := r1.inv1
      obtain ⟨a, us, rfl, h1, h2⟩ := r2.inv_lst
      exact ⟨a, us, rfl, .inl ⟨(h1.mono k1.fh).sq, q _ env1 _ F1 H1 p.out e1 k1 (walkD_enumL h1 h2)⟩⟩
    · obtain ⟨v, rfl, r2⟩ := r1.inv1
      obtain ⟨a, us, rfl, h1, h2⟩ := r2.inv_tup
      exact ⟨a, us, rfl, .inr ⟨Evl.ex_t k1.fh h1, q _ env1 _ F1 H1 p.out e1 k1 (walkD_enumT h1 h2)⟩⟩
    · exact p.elim⟩
end
end DL

namespace DL
variable {T : List (PySem.Addr × PySem.Str)} {Z : Zx T}
open PySem PySem.Spec PyProof.Rows L2
open Evl (Ex)
section
variable {X : Cx} {a b e : Expr} {es : List Expr} {pos p : Pos} {was : DA} {wa wb we : DE} {K : PySem.W.Frag}
@[irreducible] def memD (x : PyData) (ds : List PyData) : Bool := ds.any fun z => PyData.eqv z x
theorem memD_raw {x : PyData} {ds : List PyData} : memD x ds = ds.any fun z => PyData.eqv z x := by
  unfold memD
  rfl
/-- a text within a text -/
@[irreducible] def inStr (a z : Str) : Bool := !(Builtin.Str.occurrences z a 0 z.length 1).isEmpty
def rIn2 (K : PySem.W.Frag) (n : Bool) : R2 := fun x y H Q => (∃ d ds, Dp K H x d ∧ (Dp K H y (.list ds) ∨ Dp K H y (.tuple ds)) ∧ SeqAt.shaped d = true ∧ SeqAt.shaped (.list ds) = true ∧ Q (.bl (memD d ds != n)) H)
theorem op_in2 (hu : X.A.units + 65 < cLine) : OpR X (compareOp .In) (rIn2 X.K false) := by
  intro pins s σ H x y v u Q I rx ry h
  obtain ⟨d, ds, hd, he, sd, se, q⟩ := h
  obtain ⟨as, r1⟩ := Dp.reads I d x v hd rx
  rw [memD_raw, show ∀ b : Bool, (b != false) = b by decide] at q
  rcases he with he | he
  · obtain ⟨bs, r2⟩ := Dp.reads I (.list ds) y u he ry
    exact SeqAt.in_list_reads r2 r1 (SeqAt.canLay_of_shaped se) (SeqAt.canLay_of_shaped sd) (room_in_shaped sd hu) ⟨.bl _, H, I, rfl, q⟩
  · obtain ⟨bs, r2⟩ := Dp.reads I (.tuple ds) y u he ry
    exact SeqAt.in_tuple_reads r2 r1 (SeqAt.canLay_of_shaped se) (SeqAt.canLay_of_shaped sd) (room_in_shaped sd hu) ⟨.bl _, H, I, rfl, q⟩
theorem op_nin2 (hu : X.A.units + 65 < cLine) : OpR X (compareOp .NotIn) (rIn2 X.K true) := by
  intro pins s σ H x y v u Q I rx ry h
  obtain ⟨d, ds, hd, he, sd, se, q⟩ := h
  obtain ⟨as, r1⟩ := Dp.reads I d x v hd rx
  rw [memD_raw, show ∀ b : Bool, (b != true) = !b by decide] at q
  rcases he with he | he
  · obtain ⟨bs, r2⟩ := Dp.reads I (.list ds) y u he ry
    exact SeqAt.notIn_list_reads r2 r1 (SeqAt.canLay_of_shaped se) (SeqAt.canLay_of_shaped sd) (room_in_shaped sd hu) ⟨.bl _, H, I, rfl, q⟩
  · obtain ⟨bs, r2⟩ := Dp.reads I (.tuple ds) y u he ry
    exact SeqAt.notIn_tuple_reads r2 r1 (SeqAt.canLay_of_shaped se) (SeqAt.canLay_of_shaped sd) (room_in_shaped sd hu) ⟨.bl _, H, I, rfl, q⟩
def rInA (K : PySem.W.Frag) : R2 := fun x y H Q => rIn2 K false x y H Q ∨ ∃ i j, x = .str i ∧ y = .str j ∧ Q (.bl (!(Builtin.Str.occurrences j i 0 j.length 1).isEmpty)) H
def rNinA (K : PySem.W.Frag) : R2 := fun x y H Q => rIn2 K true x y H Q ∨ ∃ i j, x = .str i ∧ y = .str j ∧ Q (.bl (!(!(Builtin.Str.occurrences j i 0 j.length 1).isEmpty))) H
theorem op_inA (hu : X.A.units + 65 < cLine) : OpR X (compareOp .In) (rInA X.K) := OpR.or (op_in2 hu) op_in_str
theorem op_ninA (hu : X.A.units + 65 < cLine) : OpR X (compareOp .NotIn) (rNinA X.K) := OpR.or (op_nin2 hu) op_notIn_str
/-- may be looked for -/
def shp (x : PyData) (ds : List PyData) : Prop := SeqAt.shaped x = true ∧ SeqAt.shaped (.list ds) = true
def oMem (n : Bool) (x y : PyData) (P : PyData → Prop) : Prop := match y with
  | .list ds => shp x ds ∧ P (.bool (memD x ds != n))
  | .tuple ds => shp x ds ∧ P (.bool (memD x ds != n))
  | .str z => (match x with
    | .str a => P (.bool (inStr a z != n))
    | _ => False)
  | _ => False
def oIn (x y : PyData) (P : PyData → Prop) : Prop := oMem false x y P
def oNin (x y : PyData) (P : PyData → Prop) : Prop := oMem true x y P
theorem q_inL {x : PyData} {ds : List PyData} {P : PyData → Prop} : oIn x (.list ds) P = (shp x ds ∧ P (.bool (memD x ds != false))) := rfl
theorem q_inT {x : PyData} {ds : List PyData} {P : PyData → Prop} : oIn x (.tuple ds) P = (shp x ds ∧ P (.bool (memD x ds != false))) := rfl
theorem q_inS {a z : Str} {P : PyData → Prop} : oIn (.str a) (.str z) P = P (.bool (inStr a z != false)) := rfl
theorem q_ninL {x : PyData} {ds : List PyData} {P : PyData → Prop} : oNin x (.list ds) P = (shp x ds ∧ P (.bool (memD x ds != true))) := rfl
theorem q_ninT {x : PyData} {ds : List PyData} {P : PyData → Prop} : oNin x (.tuple ds) P = (shp x ds ∧ P (.bool (memD x ds != true))) := rfl
theorem q_ninS {a z : Str} {P : PyData → Prop} : oNin (.str a) (.str z) P = P (.bool (inStr a z != true)) := rfl
theorem mem_reads {g : Gx Z} {F : Hp} {env : List SD} {σ : L2.St} {H : Hp} (k : Ok K g F env σ H) {vx vy : V} {x : PyData} {ds : List PyData} {n : Bool} {Q : VK} (rx : DR K F vx x) (ry : DR K F vy (.list ds) ∨ DR K F vy (.tuple ds)) (h : shp x ds) (q : Q (.bl (memD x ds != n)) H) :
    rIn2 K n vx vy H Q := by
  refine ⟨x, ds, DR.dp (drH k rx) (dict_of_shaped h.1), ?_, h.1, h.2, q⟩
  have z : PyData.hasDictAll ds = false := by simpa [PyData.hasDict] using dict_of_shaped h.2
  rcases ry with ry | ry
  · exact .inl (DR.dp (drH k ry) (by simpa [PyData.hasDict] using z))
  · exact .inr (DR.dp (drH k ry) (by simpa [PyData.hasDict] using z))
theorem opd_in : OpD K (rInA K) oIn := by
  intro _ _ g F env σ H vx vy dx dy P Q k rx ry p q
  unfold oIn oMem at p
  split at p
  · exact .inl (mem_reads k rx (.inl ry) p.1 (q _ _ F H p.2 (Ex.refl F) k (.bl _)))
  · exact .inl (mem_reads k rx (.inr ry) p.1 (q _ _ F H p.2 (Ex.refl F) k (.bl _)))
  · split at p
    · rename_i a
      cases rx.inv_str
      cases ry.inv_str
      refine .inr ⟨_, _, rfl, rfl, q _ _ F H p (Ex.refl F) k ?_⟩
      unfold inStr
      rw [show ∀ b : Bool, (b != false) = b by decide]
      exact .bl _
    · exact p.elim
  · exact p.elim
theorem opd_nin : OpD K (rNinA K) oNin := by
  intro _ _ g F env σ H vx vy dx dy P Q k rx ry p q
  unfold oNin oMem at p
  split at p
  · exact .inl (mem_reads k rx (.inl ry) p.1 (q _ _ F H p.2 (Ex.refl F) k (.bl _)))
  · exact .inl (mem_reads k rx (.inr ry) p.1 (q _ _ F H p.2 (Ex.refl F) k (.bl _)))
  · split at p
    · rename_i a
      cases rx.inv_str
      cases ry.inv_str
      refine .inr ⟨_, _, rfl, rfl, q _ _ F H p (Ex.refl F) k ?_⟩
      unfold inStr
      rw [show ∀ b : Bool, (b != true) = !b by decide]
      exact .bl _
    · exact p.elim
  · exact p.elim
theorem _root_.L2.Room.u65 {k : Nat} {A : Around} (r : Room k A) : A.units + 65 < cLine := by have := r.un; omega
theorem din {k : Nat} (hr : Room k X.A) (ha : PE X a (liftE X.K Z wa)) (hb : PE X b (liftE X.K Z wb)) (hm : behindInMarks .In b = false := by rfl) : PE X (.Compare a [.In] [b] pos) (liftE X.K Z (dOp oIn wa wb)) := dcmp (op_inA hr.u65) opd_in ha hb hm
theorem tnin {k : Nat} (hr : Room k X.A) (ha : PE X a (liftE X.K Z wa)) (hb : PE X b (liftE X.K Z wb)) (hm : behindInMarks .NotIn b = false := by rfl) : PT X (.Compare a [.NotIn] [b] pos) (liftT X.K Z (dTest (dOp oNin wa wb))) := dcmpT (op_ninA hr.u65) opd_nin ha hb hm
end
end DL

namespace DL
variable {T : List (PySem.Addr × PySem.Str)} {Z : Zx T}
open PySem PySem.Spec PyProof.Rows L2
structure Sm (b k : Nat) (d : PyData) : Prop where
  rp : rp d = true
  bulk : d.bulk ≤ b
  depth : d.depth ≤ k
theorem Sm.mono {b k b' k' : Nat} {d : PyData} (h : Sm b k d) (hb : b ≤ b' := by omega) (hk : k ≤ k' := by omega) : Sm b' k' d := ⟨h.rp, Nat.le_trans h.bulk hb, Nat.le_trans h.depth hk⟩
theorem sm_all {b k : Nat} : ∀ {xs : List PyData}, (∀ x ∈ xs, Sm b k x) → rpAll xs = true ∧ PyData.bulkAll xs ≤ xs.length * (b + 1) ∧ PyData.depthAll xs ≤ k
  | [], _ => ⟨by simp [rpAll], by simp [PyData.bulkAll], by simp [PyData.depthAll]⟩
  | x :: xs, h => by
    obtain ⟨h1, h2, h3⟩ := sm_all (xs := xs) fun y hy => h y (List.mem_cons_of_mem _ hy)
    have hx := h x List.mem_cons_self
    refine ⟨?_, ?_, ?_⟩
    · rw [rpAll, hx.rp, h1]; rfl
    · rw [PyData.bulkAll, List.length_cons, Nat.add_mul]
      have := hx.bulk
      omega
    · rw [PyData.depthAll]
      have := hx.depth
      omega
theorem Sm.tup {n b k : Nat} {xs : List PyData} (hl : xs.length ≤ n) (h : ∀ x ∈ xs, Sm b k x) : Sm (n * (b + 1)) (k + 1) (.tuple xs) := by
  obtain ⟨h1, h2, h3⟩ := sm_all h
  refine ⟨by simpa only [DL.rp] using h1, ?_, ?_⟩
  · rw [PyData.bulk]
    exact Nat.le_trans h2 (Nat.mul_le_mul_right _ hl)
  · rw [PyData.depth]
    omega
theorem Sm.lst {n b k : Nat} {xs : List PyData} (hl : xs.length ≤ n) (h : ∀ x ∈ xs, Sm b k x) : Sm (n * (b + 1)) (k + 1) (.list xs) := by
  obtain ⟨h1, h2, h3⟩ := sm_all h
  refine ⟨by simpa only [DL.rp] using h1, ?_, ?_⟩
  · rw [PyData.bulk]
    exact Nat.le_trans h2 (Nat.mul_le_mul_right _ hl)
  · rw [PyData.depth]
    omega
theorem Sm.int {i : Int} (h : i.natAbs < 10 ^ 250) (b k : Nat) : Sm b k (.int i) := ⟨by simpa only [DL.rp, decide_eq_true_eq] using h, by rw [PyData.bulk]; omega, by rw [PyData.depth]; omega⟩
theorem Sm.int' {i : Int} {b k : Nat} (h0 : -(10 ^ 100) ≤ i) (h1 : i ≤ 10 ^ 100) : Sm b k (.int i) := Sm.int (lt_of h0 h1) b k
theorem Sm.bool {t : Bool} (b k : Nat) : Sm b k (.bool t) := ⟨rfl, by rw [PyData.bulk]; omega, by rw [PyData.depth]; omega⟩
theorem Sm.none (b k : Nat) : Sm b k .none := ⟨rfl, by rw [PyData.bulk]; omega, by rw [PyData.depth]; omega⟩
theorem rp_mem : ∀ {xs : List PyData}, rpAll xs = true → ∀ x ∈ xs, rp x = true
  | [], _, x, h => by simp at h
  | y :: ys, e, x, h => by
    simp only [rpAll, Bool.and_eq_true] at e
    rcases List.mem_cons.mp h with rfl | h
    · exact e.1
    · exact rp_mem e.2 x h
theorem bulk_mem : ∀ {xs : List PyData}, ∀ x ∈ xs, x.bulk ≤ PyData.bulkAll xs ∧ x.depth ≤ PyData.depthAll xs
  | [], x, h => by simp at h
  | y :: ys, x, h => by
    rw [PyData.bulkAll, PyData.depthAll]
    rcases List.mem_cons.mp h with rfl | h
    · omega
    · have := bulk_mem x h
      omega
/-- items of small data -/
theorem Sm.inT {b k : Nat} {xs : List PyData} (h : Sm b k (.tuple xs)) : ∀ x ∈ xs, Sm b k x := fun x hx => by
  have h1 := h.rp
  have h2 := h.bulk
  have h3 := h.depth
  rw [PyData.bulk] at h2
  rw [PyData.depth] at h3
  obtain ⟨z1, z2⟩ := bulk_mem x hx
  exact ⟨rp_mem (by simpa only [DL.rp] using h1) x hx, by omega, by omega⟩
theorem cut_mem {xs : List PyData} {lo hi : Option Int} {x : PyData} (h : x ∈ DL.cutD xs lo hi) : x ∈ xs := by
  unfold DL.cutD at h
  exact List.mem_of_mem_drop (List.mem_of_mem_take h)
end DL

namespace DL
variable {T : List (PySem.Addr × PySem.Str)} {Z : Zx T}
open PySem PySem.Spec PyProof.Rows L2
open Evl (Ex)

/-- a list that a def made and may still change -/
abbrev rowD (ds : List PyData) : PyData := .dict [(.none, .list ds)]
section
variable {K : PySem.W.Frag} {F H : Hp} {b : Addr} {us us' : List V}
end
section
variable {X : Cx} {e b b2 : Expr} {we wb wb2 : DE} {wx : DX} {m : Nat} {pos : Pos}
end
section
variable {K : PySem.W.Frag} {F H : Hp} {vs : List V} {as : List SD}
def atB : PyData → Bool
  | .none => true
  | .bool _ => true
  | .int _ => true
  | .str _ => true
  | _ => false
def atoms : List SD → Bool
  | [] => true
  | .un :: r => atoms r
  | .dat d :: r => atB d && atoms r
  | .cel _ xs :: r => xs.all atB && atoms r
  | .dic _ :: _ => false
theorem atoms_get : ∀ {env : List SD} {j : Nat} {s : SD}, atoms env = true → env[j]? = some s → match s with | .un => True | .dat d => atB d = true | .cel _ xs => xs.all atB = true | .dic _ => False
  | [], j, s, _, e => by simp at e
  | .un :: r, 0, s, h, e => by simp at e; subst e; trivial
  | .dat d :: r, 0, s, h, e => by simp only [atoms, Bool.and_eq_true] at h; simp at e; subst e; exact h.1
  | .cel p xs :: r, 0, s, h, e => by simp only [atoms, Bool.and_eq_true] at h; simp at e; subst e; exact h.1
  | .dic _ :: r, _, s, h, e => by simp [atoms] at h
  | .un :: r, j + 1, s, h, e => atoms_get (env := r) (j := j) h (by simpa using e)
  | .dat d :: r, j + 1, s, h, e => by simp only [atoms, Bool.and_eq_true] at h; exact atoms_get (env := r) (j := j) h.2 (by simpa using e)
  | .cel p xs :: r, j + 1, s, h, e => by simp only [atoms, Bool.and_eq_true] at h; exact atoms_get (env := r) (j := j) h.2 (by simpa using e)
theorem at_any {F' : Hp} {v : V} {d : PyData} (h : atB d = true) (r : DR K F v d) : DR K F' v d := by
  cases r with
  | non => exact .non
  | bl b => exact .bl b
  | int i => exact .int i
  | str x => exact .str x
  | lst _ _ => cases h
  | tup _ _ => cases h
  | dct _ _ => cases h
  | row _ _ => cases h
  | exc _ _ => cases h
theorem ats_any {F' : Hp} : ∀ {vs : List V} {ds : List PyData}, ds.all atB = true → DRs K F vs ds → DRs K F' vs ds
  | _, _, _, .nil => .nil
  | _, _, h, .cons x y => by
    simp only [List.all_cons, Bool.and_eq_true] at h
    exact .cons (at_any h.1 x) (ats_any h.2 y)
abbrev noH : Hp := fun _ => none
theorem ArgsOk.bare (ha : ArgsOk T K F H vs as) (h : atoms as = true) : ArgsOk T K noH H vs as where
  len := ha.len
  fh := fun a o e => by cases e
  dat := fun i d e => by
    obtain ⟨v, h1, h2⟩ := ha.dat i d e
    exact ⟨v, h1, at_any (atoms_get h e) h2⟩
  cel := fun i p xs e => by
    obtain ⟨rfl, a, us, h1, h2, h3, h4⟩ := ha.cel i p xs e
    exact ⟨rfl, a, us, h1, rfl, h3, ats_any (atoms_get h e) h4⟩
  sep := ha.sep
  nod := ha.nod
  tab := ha.tab
  nt := fun _ _ e => by cases e
/-- both -/
def joinH (F F' : Hp) : Hp := fun a => match F' a with
  | some o => some o
  | none => F a
theorem PostOk.back {F' H' : Hp} {as' : List SD} {v : V} {r : SD} (ha : ArgsOk T K F H vs as) (p : PostOk T K noH H vs as F' H' as' v r) : PostOk T K F H vs as (joinH F F') H' as' v r := by
  have e1 : Ex F (joinH F F') := fun a o e => by
    unfold joinH
    split
    · rename_i u z
      rcases p.newF a u z with y | y
      · cases y
      · have := ha.fh a o e
        rw [y] at this
        cases this
    · exact e
  have e2 : Ex F' (joinH F F') := fun a o e => by
    unfold joinH
    rw [e]
  have nn : ∀ {a : Addr}, F a = none → F' a = none → joinH F F' a = none := fun {a} h1 h2 => by
    unfold joinH
    rw [h2]
    exact h1
  have fr : ∀ (a : Addr) (o : HO), F a = some o → F' a = none → H' a = some o := fun a o e n => (p.frame.stay a o (ha.fh a o e) fun i q xs z y => by
    obtain ⟨_, b, us, y1, y2, _⟩ := ha.cel i q xs z
    rw [y] at y1
    cases y1
    rw [e] at y2
    cases y2).same fun ps z => ha.nt a ps (by rw [e, z])
  refine ⟨e1, fun a ps e => ?_, fun a o e => ?_, fun a o e => ?_, p.frame, fun i q xs a z y => ?_, ?_⟩
  · unfold joinH at e
    split at e
    · rename_i u z
      cases e
      exact p.nt a _ z
    · exact ha.nt a ps e
  · unfold joinH at e
    split at e
    · rename_i u z
      cases e
      exact p.fh a _ z
    · exact fr a o e ‹_›
  · unfold joinH at e
    split at e
    · rename_i u z
      exact .inr ((p.newF a u z).elim (fun w => by cases w) id)
    · exact .inl e
  · obtain ⟨ys, us, c1, c2, c3, c4⟩ := p.cel i q xs a z y
    obtain ⟨_, b, us0, y1, y2, _⟩ := ha.cel i q xs z
    rw [y] at y1
    cases y1
    exact ⟨ys, us, c1, nn y2 c2, c3, c4.mono e2⟩
  · have := p.res
    cases r with
    | un => exact this
    | dat d => exact DR.mono e2 this
    | dic _ => exact this.elim
    | cel b xs =>
      obtain ⟨a, us, h1, h2, h3, h4, h5⟩ := this
      refine ⟨a, us, h1, nn ?_ h2, h3, h4.mono e2, h5⟩
      cases z : F a with
      | none => rfl
      | some o =>
        have := ha.fh a o z
        rw [h5] at this
        cases this
end
section
variable {P : Program} {w : World} {K : PySem.W.Frag} {mg : Str → Option Value} {base : Heap}
end
end DL

namespace DL
variable {T : List (PySem.Addr × PySem.Str)} {Z : Zx T}
open PySem PySem.Spec PyProof.Rows L2
open Evl (Ex)
section
variable {X : Cx} {e : Expr} {wx : DX} {m : Nat} {pos : Pos}
def exQ (xs ys : List PyData) (K : List PyData → Prop) : Prop := xs.length + ys.length ≤ 100000 ∧ K (xs ++ ys)
theorem q_ex {xs ys : List PyData} {K : List PyData → Prop} : exQ xs ys K = (xs.length + ys.length ≤ 100000 ∧ K (xs ++ ys)) := rfl
abbrev dExt (i : Nat) (wx : DX) (E : DEnds) (env : List SD) : Prop := match env[i]? with
  | some (.cel _ _) => wx env fun r env1 => match r, env1[i]? with
    | .cel _ ys, some (.cel p xs) => exQ xs ys fun xs' => E.nx (env1.set i (.cel p xs'))
    | _, _ => False
  | _ => False
theorem sext (i : Nat) {x : Str} {p0 apos cpos : Pos} (he : PE X e (liftX X.K Z wx)) (hN : X.N[i]? = some x := by rfl) (hv : Vis X.env.scope x := by first | exact Or.inl rfl | exact Or.inr (Or.inl rfl) | exact Or.inr (Or.inr rfl)) (hd : (x == ("__debug__" : Str)) = false := by decide)
    (hcd : (x == ("__classdict__" : Str)) = false := by decide)
    (h1 : attributeBase (.Name x p0) "extend" X.env (eval (.Name x p0) X.env) = eval (.Name x p0) X.env := by rfl)
    (h2 : ((backTo cpos (starEach [e] X.env)).all (!·.1) && (backToKw cpos (keywordEach [] X.env)).all (·.1.isSome) && decide ([e].length + ([] : List Keyword).length + (if ([] : List Keyword).isEmpty then 0 else 1) < 30)) = true := by rfl)
    (h3 : (apos.endLine == cpos.line) = true := by rfl)
    (h4 : starEach [e] X.env = (false, eval e X.env) :: starEach [] X.env := by rfl) (h5 : (backTo cpos (starEach [] X.env)).any (·.1) = false := by rfl)
    (hs : swapsWith (.Call (.Attribute (.Name x p0) "extend" apos) [e] [] cpos) none pos.line X.env = pure false := by rfl) :
    PS X (.Expr (.Call (.Attribute (.Name x p0) "extend" apos) [e] [] cpos) pos) (liftS X.K Z m (dExt i wx)) :=
  PS.of (ps_expr (pe_bm PySem.F.plainAttrs_list PySem.F.slot_list_extend PySem.F.type_list_extend mt_extend (pe_var hN hv hd hcd) (pa_cons he pa_nil h4) h1 h2 h3 h4 h5) hs) fun D σ H ⟨g, F, env, P, k, w, q⟩ => by
    unfold dExt at w
    split at w
    · rename_i p' xs' ex
      obtain ⟨a0, us0, b1, _, b3, _⟩ := k.cel i p' xs' ex
      refine ⟨_, b1, .inl ⟨rfl, us0, SqL.of b3⟩, g, F, env, _, k, w, fun r env1 v F1 H1 p e1 k1 r1 => ?_⟩
      split at p
      · rename_i b2 ys p3 xs ex2
        obtain ⟨a1, us1, c1, c2, c3, c4, _⟩ := k1.cel i p3 xs ex2
        rw [b1] at c1
        cases c1
        obtain ⟨b, vs, rfl, hF, hH, r, h0, hpr, nw⟩ := r1
        exact ⟨a0, b, us1, vs, rfl, rfl, c3, hH, by rw [c4.length, r.length]; exact Evl.sz_of p.1, q.nx _ σ F1 _ p.2 e1 (k1.write ex2 b1 (c4.append r))⟩
      · exact p.elim
    · exact w.elim
end
end DL

namespace DL
variable {T : List (PySem.Addr × PySem.Str)} {Z : Zx T}
open PySem PySem.Spec PyProof.Rows L2
open Evl (Ex)
inductive Fx where
  | tup (x : Str) (ns : List Int)
  | exc (c : Str)
  | txt (x z : Str)
def intsB : List Value → List Int → Bool
  | [], [] => true
  | .int i _ :: r, n :: ns => decide (i = n) && intsB r ns
  | _, _ => false
def tupB (K : PySem.W.Frag) (a : Addr) (ns : List Int) : Bool := match K.lookup a with
  | some ⟨c, none, .seq its _, _⟩ => decide (c = .type "tuple") && (decide (its.size ≤ 1000) && intsB its.toList ns)
  | _ => false
def Fx.ok (K : PySem.W.Frag) : Fx → Bool
  | .tup x ns => He.eqO (PySem.W.nsIn K mainGlobals x) (some (some (.ref (He.ga K x)))) && tupB K (He.ga K x) ns
  | .exc c => He.eqO (PySem.W.nsIn K mainGlobals c) (some (some (.ref (He.ga K c)))) && xcB K c
  | .txt x z => (He.Fa.str x z).ok K
def FxSays (fx : List Fx) (K : PySem.W.Frag) : Prop := fx.all (fun f => f.ok K) = true
def fxG (n : Nat) (fx : List Fx) (g : Addr → Option Obj) : Bool := match fx with
  | [] => true
  | f :: r => (f :: r).all fun f => f.ok (He.frG g (He.asG g n))
theorem fxG_all {n : Nat} {fx : List Fx} {g : Addr → Option Obj} (h : fxG n fx g = true) : FxSays fx (He.frG g (He.asG g n)) := by
  cases fx with
  | nil => rfl
  | cons f r => exact h
def hookX (n : Nat) (fa : List He.Fa) (fn : List He.FnD) (fx : List Fx) : PySem.W.Hook where
  α := He.Al × Bool × Bool
  obs := fun s => (He.obsG n fa fn s.heap.get?, sysB s.heap.get?, fxG n fx s.heap.get?)
  val := fun _ => (He.valE fn, true, true)
  says := fun _ h => (∃ K : PySem.W.Frag, K.In h ∧ He.SaysE fa fn K ∧ FxSays fx K) ∧ SysD h
  of := fun w s e => ⟨⟨He.frG s.heap.get? (He.asG s.heap.get? n), He.frG_in, congrArg Prod.fst e, fxG_all (congrArg (fun z => z.2.2) e)⟩, sysB_of (congrArg (fun z => z.2.1) e)⟩
  keeps := fun w h h' ⟨⟨K, hK, c⟩, o, es, ep, e, d⟩ k => ⟨⟨K, PySem.W.Frag.In.keeps hK k, c⟩, o, es, ep, k _ _ e, d⟩
theorem obsX_eq {n : Nat} {fa : List He.Fa} {fn : List He.FnD} {fx : List Fx} {g : Addr → Option Obj} {s : Shared} (h : ∀ a, g a = s.heap.get? a) : (He.obsG n fa fn g, sysB g, fxG n fx g) = (hookX n fa fn fx).obs s := by
  have e : g = s.heap.get? := funext h
  rw [e] <;> rfl
structure TopX (fa : List He.Fa) (fn : List He.FnD) (fx : List Fx) (K : PySem.W.Frag) (mg : Str → Option Value) : Prop extends Top fa fn K mg where
  more : FxSays fx K
theorem TopX.fact {fa : List He.Fa} {fn : List He.FnD} {fx : List Fx} {K : PySem.W.Frag} {mg : Str → Option Value} (T : TopX fa fn fx K mg) (i : Nat) {f : Fx} (h : fx[i]? = some f := by rfl) : f.ok K = true := List.all_eq_true.mp T.more f (List.mem_of_getElem? h)
/-- a tuple of whole numbers at the module's top -/
def CtT (K : PySem.W.Frag) (mg : Str → Option Value) (x : Str) (ns : List Int) : Prop := ∃ a, mg x = some (.ref a) ∧ tupB K a ns = true
theorem TopX.tup {fa : List He.Fa} {fn : List He.FnD} {fx : List Fx} {K : PySem.W.Frag} {mg : Str → Option Value} (T : TopX fa fn fx K mg) (x : Str) (ns : List Int) (i : Nat) (h : fx[i]? = some (.tup x ns) := by rfl) : CtT K mg x ns := by
  obtain ⟨hp, h1, h2⟩ := T.ns
  obtain ⟨c1, c2⟩ := He.ba (show (He.eqO (PySem.W.nsIn K mainGlobals x) (some (some (.ref (He.ga K x)))) && tupB K (He.ga K x) ns) = true from T.fact i h)
  exact ⟨_, PySem.W.mg_of h1 h2 (He.eqO_ok c1), c2⟩
/-- a class of refusals of the module -/
def CtE (K : PySem.W.Frag) (mg : Str → Option Value) (x : Str) : Prop := mg x = some (.ref (He.ga K x)) ∧ XcF K x
theorem TopX.exc {fa : List He.Fa} {fn : List He.FnD} {fx : List Fx} {K : PySem.W.Frag} {mg : Str → Option Value} (T : TopX fa fn fx K mg) (c : Str) (i : Nat) (h : fx[i]? = some (.exc c) := by rfl) : CtE K mg c := by
  obtain ⟨hp, h1, h2⟩ := T.ns
  obtain ⟨c1, c2⟩ := He.ba (show (He.eqO (PySem.W.nsIn K mainGlobals c) (some (some (.ref (He.ga K c)))) && xcB K c) = true from T.fact i h)
  exact ⟨PySem.W.mg_of h1 h2 (He.eqO_ok c1), xcB_ok c2⟩
/-- a text at the module's top -/
theorem TopX.txt {fa : List He.Fa} {fn : List He.FnD} {fx : List Fx} {K : PySem.W.Frag} {mg : Str → Option Value} (T : TopX fa fn fx K mg) (x z : Str) (i : Nat) (h : fx[i]? = some (.txt x z) := by rfl) : ∃ t, mg x = some (.str z t) := by
  obtain ⟨hp, h1, h2⟩ := T.ns
  exact He.str_ok h1 h2 (T.fact i h)
section
variable {X : Cx} {a b e : Expr} {we wa wb : DE} {pos : Pos}
theorem dtxt {x z : Str} (hm : ∃ t, X.mg x = some (.str z t)) (hg : Gl X x := by rfl) (hdb : (x == ("__debug__" : Str)) = false := by decide) : PE X (.Name x pos) (liftE X.K Z (dC (.str z))) := by
  obtain ⟨t, h⟩ := hm
  exact dglob (v := .str z) h ⟨t, rfl⟩ (fun _ => .str z) hg hdb
def popQ (xs : List PyData) (y : PyData) (K : PyData → List PyData → Prop) : Prop := match y with
  | .int k => match ixN xs.length k with
    | some j => match xs[j]? with
      | some d => xs.length ≤ 100000 ∧ K d (xs.eraseIdx j)
      | none => False
    | none => False
  | _ => False
abbrev dPop (i : Nat) (we : DE) (env : List SD) (P : PyData → List SD → Prop) : Prop := match env[i]? with
  | some (.cel _ _) => we env fun y env1 => match env1[i]? with
    | some (.cel p xs) => popQ xs y fun d xs' => P d (env1.set i (.cel p xs'))
    | _ => False
  | _ => False
theorem DRs.erase {K : PySem.W.Frag} {F : Hp} : ∀ {vs : List V} {ds : List PyData} (n : Nat), DRs K F vs ds → DRs K F (vs.eraseIdx n) (ds.eraseIdx n)
  | _, _, _, .nil => .nil
  | _, _, 0, .cons a b => b
  | _, _, n + 1, .cons a b => .cons a (b.erase n)
theorem ix_seq {n j : Nat} {k : Int} (hn : n ≤ 100000) (h : ixN n k = some j) : -(2 ^ 63) ≤ k ∧ k < 2 ^ 63 ∧ seqIndex? k n = some j := by
  unfold ixN at h
  split at h
  · rename_i h0
    split at h
    · rename_i h1
      cases h
      refine ⟨by omega, by omega, ?_⟩
      exact seqIndex_of h0 h1
    · cases h
  · rename_i h0
    split at h
    · rename_i h1
      cases h
      refine ⟨by omega, by omega, ?_⟩
      rw [seqIndex_neg (by omega) (by omega)]
    · cases h
theorem dpop (i : Nat) {x : Str} {p0 apos cpos : Pos} (he : PE X e (liftE X.K Z we)) (hN : X.N[i]? = some x := by rfl) (hv : Vis X.env.scope x := by first | exact Or.inl rfl | exact Or.inr (Or.inl rfl) | exact Or.inr (Or.inr rfl)) (hd : (x == ("__debug__" : Str)) = false := by decide)
    (hcd : (x == ("__classdict__" : Str)) = false := by decide)
    (h1 : attributeBase (.Name x p0) "pop" X.env (eval (.Name x p0) X.env) = eval (.Name x p0) X.env := by rfl)
    (h2 : ((backTo cpos (starEach [e] X.env)).all (!·.1) && (backToKw cpos (keywordEach [] X.env)).all (·.1.isSome) && decide ([e].length + ([] : List Keyword).length + (if ([] : List Keyword).isEmpty then 0 else 1) < 30)) = true := by rfl)
    (h3 : (apos.endLine == cpos.line) = true := by rfl)
    (h4 : starEach [e] X.env = (false, eval e X.env) :: starEach [] X.env := by rfl) (h5 : (backTo cpos (starEach [] X.env)).any (·.1) = false := by rfl) :
    PE X (.Call (.Attribute (.Name x p0) "pop" apos) [e] [] cpos) (liftE X.K Z (dPop i we)) :=
  PE.of (pe_bm PySem.F.plainAttrs_list PySem.F.slot_list_pop PySem.F.type_list_pop mt_popAt (pe_var hN hv hd hcd) (pa_cons he pa_nil h4) h1 h2 h3 h4 h5) fun σ H Q ⟨g, F, env, P, k, w, q⟩ => by
    unfold dPop at w
    split at w
    · rename_i p' xs' ex
      obtain ⟨a0, us0, b1, _, b3, _⟩ := k.cel i p' xs' ex
      refine ⟨_, b1, .inl ⟨rfl, us0, SqL.of b3⟩, g, F, env, _, k, w, fun y env1 v F1 H1 p e1 k1 r1 => ?_⟩
      split at p
      · rename_i p3 xs ex2
        obtain ⟨a1, us1, c1, c2, c3, c4, _⟩ := k1.cel i p3 xs ex2
        rw [b1] at c1
        cases c1
        unfold popQ at p
        split at p
        · rename_i n
          cases r1.inv_int
          split at p
          · rename_i j ej
            split at p
            · rename_i d ed
              obtain ⟨u, hu, ru⟩ := c4.get ed
              obtain ⟨z1, z2, z3⟩ := ix_seq p.1 ej
              exact ⟨a0, us1, n, j, u, rfl, rfl, c3, z1, z2, by rw [c4.length]; exact z3, hu, q _ _ _ F1 _ p.2 e1 (k1.write ex2 b1 (c4.erase j)) ru⟩
            · exact p.elim
          · exact p.elim
        · exact p.elim
      · exact p.elim
    · exact w.elim
end
end DL

namespace DL
variable {T : List (PySem.Addr × PySem.Str)} {Z : Zx T}
open PySem PySem.Spec PyProof.Rows L2
open Evl (Ex)
section
variable {X : Cx} {a b e : Expr} {we wa wb : DE} {pos : Pos}
end
end DL

namespace DL
variable {T : List (PySem.Addr × PySem.Str)} {Z : Zx T}
open PySem PySem.Spec PyProof.Rows L2
open Evl (Ex)
/-- set() as it is laid -/
def nset (w : World) : Obj := { cls := .type "set", dict := none, data := .set #[] 0 (.fresh 0 0 (!w.params.followText "set-order")) }
section
variable {P : Program} {w : World} {A : Around} {E : Value → Shared → Prop} {s : Shared}
/-- what is left of set.__init__: from an empty set at S on -/
theorem set_fill {S l : Addr} {its : List Value} {ns : List Int} {R : Value → Shared → Prop} (hh : A.handled = none) (hS : s.heap.get? S = some (nset w)) (hl : s.heap.IsList l its.toArray) (hi : IntsAre its ns) (hb : ns.length + 1 < scanBound) (hne : l ≠ S)
    (h : ∀ (h' : Heap) (tk c : Nat), SetR w h' S (fun j => decide (j ∈ ns)) c → c ≤ ns.length → (∀ b o, b ≠ S → s.heap.get? b = some o → h'.get? b = some o) → R .none { s with heap := h', toks := tk }) :
    codeAny (model P w) A (.call (.builtin "set.__init__") ⟨[.ref S, .ref l], []⟩) (wants R E) s := by
  have ty : s.TypeIs (.ref S) "set" := ⟨_, hS, rfl⟩
  have lenI : its.length = ns.length := IntsAre.length hi
  have ltS : S < s.heap.objs.size := Heap.lt_size hS
  refine codeAny_call_builtin F.called_set.init.plain F.entry_set_init (check_set_init_1 ty ?_)
  obtain ⟨lo, elo, elc, ln, eld⟩ := id hl
  have ltl : l < s.heap.objs.size := Heap.lt_size elo
  obtain ⟨c0, d0, dt0, sl0⟩ := lo
  dsimp only at elc eld
  subst elc eld
  have n1 := F.sub_list_set
  have n2 := F.sub_list_frozenset
  have n3 : (Value.type "list" == Value.type "dict") = false := by decide
  unfold Builtin.«set.__init__» noKeywords Builtin.Frozenset.updateFrom
  generalize eP : pyIter = PI
  wp_walk
  subst eP
  refine wpAny_pyIter_list hl (wpAny_bind (wpAny_runValue ?_))
  have h3 : A.in1.in1.handled = none := by simp [hh]
  have nI : l ≠ s.heap.objs.size := Nat.ne_of_lt ltl
  have nf : S ∉ [s.heap.objs.size, l] := by
    simp only [List.mem_cons, List.not_mem_nil, or_false, not_or]
    exact ⟨Nat.ne_of_lt ltS, Ne.symm hne⟩
  have vals : ∀ (i : Nat) (v : Value), its.toArray[i]? = some v → ∃ k t, ns[i]? = some k ∧ v = .int k t := fun i v hv => by
    have hv2 : its[i]? = some v := by simpa using hv
    obtain ⟨t, e⟩ := PyProof.Rows.IntsAre.int_at hi i v hv2
    have hil : i < ns.length := by rw [← lenI]; exact (List.getElem?_eq_some_iff.mp hv2).1
    exact ⟨ns[i], t, List.getElem?_eq_getElem hil, by rw [e, List.getD_eq_getElem?_getD, List.getElem?_eq_getElem hil] <;> rfl⟩
  refine set_update_ints ((Walks.list h3 _ l nI its.toArray).toS) S nf ns (by simpa using lenI) hb vals (its.toArray.size - 0) 0 _ (by omega) (Nat.zero_le _) ⟨⟨_, Heap.get?_push_size _ rfl, rfl, rfl⟩, (hl.push _)⟩ ⟨0, Nat.le_refl 0, ?_⟩ ?_
  · exact setR_new_at (Heap.get?_push_of_some _ hS)
  · intro s' c hm hc hR
    obtain ⟨h', g2, d', tk', os'⟩ := s'
    have e1 : g2 = s.gens := hm.gens
    have e2 : d' = s.drawn := hm.drawn
    have e3 : os' = s.os := hm.os
    subst e1 e2 e3
    refine wpAny_pure (wpAny_pure ?_)
    refine h h' tk' c hR (by simpa [lenI] using hc) fun b o nb e => ?_
    exact hm.heap b o (by simp only [List.mem_cons, List.not_mem_nil, or_false, not_or]; exact ⟨nb, Nat.ne_of_lt (Heap.lt_size e)⟩) (Heap.get?_push_of_some _ e)
/-- set(xs) -/
theorem call_set_ints {l : Addr} {its : List Value} {ns : List Int} {Q : Value → Shared → Prop} (hh : A.handled = none) (hl : s.heap.IsList l its.toArray) (hi : IntsAre its ns) (hb : ns.length + 1 < scanBound)
    (h : ∀ (h' : Heap) (tk c : Nat), SetR w h' s.heap.objs.size (fun j => decide (j ∈ ns)) c → c ≤ ns.length → (∀ b o, s.heap.get? b = some o → h'.get? b = some o) → Q (.ref s.heap.objs.size) { s with heap := h', toks := tk }) :
    wpAny (model P w) A (call (.type "set") [.ref l]) Q E s := by
  have ll : l < s.heap.objs.size := by obtain ⟨_, e, _⟩ := id hl; exact Heap.lt_size e
  obtain ⟨mc, mt, q1⟩ := F.called_set.mro
  have q2 := F.called_set.made
  have q3 := F.called_set.sub
  have q4 := F.called_set.notType
  have q5 := F.called_set.canCreate
  have q6 := F.typeCall_set_1 (.ref l)
  apply wpAny_call
  apply codeAny_of_tree
  show wpAny _ _ (callAny (.type "set") _) _ _ _
  apply wpAny_pure
  refine ⟨Code.quiet_builtin _ (by decide +kernel), codeAny_builtin F.entry_type_call ?_⟩
  rw [show A.under _ = _ from Around.under_plain (weight_type_call_type "set" [.ref l] []) rfl]
  repeat any_goals first | assumption | wp_step
  refine codeAny_mono (code_set_led1 (.ref l) (E := E) (Q₁ := fun o z => o = .ref s.heap.objs.size ∧ z = { s with heap := s.heap.push (nset w) }) ⟨rfl, rfl⟩) fun r z hr => ?_
  match r, hr with
  | .error e, hr => exact hr
  | .ok (.ret o), hr =>
    obtain ⟨rfl, rfl⟩ := hr
    have w1 := F.called_set.init.lookup
    have w2 := F.called_set.init.bind (.ref s.heap.objs.size)
    have w3 : Shared.TypeIs { s with heap := s.heap.push (nset w) } (.ref s.heap.objs.size) "set" := ⟨_, Heap.get?_push_size _ rfl, rfl⟩
    repeat any_goals first | assumption | wp_step
    refine codeAny_mono (set_fill (E := E) (R := fun r z => r = .none ∧ ∃ h' tk c, z = { s with heap := h', toks := tk } ∧ SetR w h' s.heap.objs.size (fun j => decide (j ∈ ns)) c ∧ c ≤ ns.length ∧ ∀ b o, s.heap.get? b = some o → h'.get? b = some o) (by simp [hh]) (Heap.get?_push_size _ rfl) (hl.push _) hi hb (Nat.ne_of_lt ll) fun h' tk c a1 a2 a3 => ⟨rfl, h', tk, c, rfl, a1, a2, fun b o e => a3 b o (Nat.ne_of_lt (Heap.lt_size e)) (Heap.get?_push_of_some _ e)⟩) fun r2 z2 hz => ?_
    match r2, hz with
    | .error e, hz => exact hz
    | .ok (.ret u), hz =>
      obtain ⟨rfl, h', tk, c, rfl, a1, a2, a3⟩ := hz
      repeat any_goals first | assumption | wp_step
      exact h _ _ _ a1 a2 a3
    | .ok .next, hz => exact hz.elim
    | .ok .brk, hz => exact hz.elim
    | .ok .cont, hz => exact hz.elim
  | .ok .next, hr => exact hr.elim
  | .ok .brk, hr => exact hr.elim
  | .ok .cont, hr => exact hr.elim
end
def rSetI (w : World) (K : PySem.W.Frag) : List V → Hp → VK → Prop := fun xs H Q => ∃ (l : Addr) (ns : List Int), xs = [V.ref l] ∧ SqL K H l (ns.map V.int) ∧ ns.length + 1 < scanBound ∧ ∀ p c, H p = none → c ≤ ns.length → Q (.ref p) (upd H p (SetO w p (fun j => decide (j ∈ ns)) c))
theorem call_setI {X : Cx} (hc : X.calm = true) : CallR X (.type "set") (rSetI X.w X.K) := by
  intro pins s σ H xs us Q I r h
  obtain ⟨l, ns, rfl, hl, hb, q⟩ := h
  rw [Vals.ref1 r]
  obtain ⟨its, rv, pl, hz⟩ := I.list hl
  refine call_set_ints (I.ok.hd hc) pl.isList (ints_of_vals rv) hb fun h' tk c R hcn k => ?_
  exact ⟨.ref s.heap.objs.size, upd H s.heap.objs.size (SetO X.w s.heap.objs.size (fun j => decide (j ∈ ns)) c), I.laid (t' := tk) k (Nat.le_refl _) (setO_new R), rfl, q _ _ (I.hok.fresh (Nat.le_refl _)) hcn⟩
end DL

namespace DL
variable {T : List (PySem.Addr × PySem.Str)} {Z : Zx T}
open PySem PySem.Spec PyProof.Rows L2
open Evl (Ex)
/-- the members once each, rising -/
def sortSetQ (d : PyData) (K : List PyData → Prop) : Prop := match d with
  | .list ds => match intsD ds with
    | some ns => ns.length < 63 ∧ ∀ ms : List Int, ms.Pairwise (· < ·) → (∀ k, k ∈ ms ↔ k ∈ ns) → K (ms.map .int)
    | none => False
  | _ => False
section
variable {X : Cx} {a : Expr} {wa : DE} {p p2 pos pos2 : Pos}
end
end DL

namespace DL
variable {T : List (PySem.Addr × PySem.Str)} {Z : Zx T}
open PySem PySem.Spec PyProof.Rows L2
open Evl (Ex)
/-- what is told of a refusal: its class and the names' data -/
abbrev RD := Str → List SD → Prop
abbrev DSpX := List SD → (SD → List SD → Prop) → (Str → Prop) → Prop
abbrev XWish := Value → Option Addr → Hp → Prop
def spDX (T : List (Addr × Str)) (K : PySem.W.Frag) (S : DSpX) (vs : List V) (H : Hp) (Q : VK) (E : XWish) : Prop := ∃ (F : Hp) (as : List SD) (P : SD → List SD → Prop) (Ec : Str → Prop), ArgsOk T K F H vs as ∧ S as P Ec ∧
  (∀ r as' v F' H', P r as' → PostOk T K F H vs as F' H' as' v r → Q v H') ∧ ∀ c F' H', Ec c → XcF K c → PostOk T K F H vs as F' H' [] .non (.dat .none) → E (.ref (He.ga K c)) none H'
/-- no cell is handed in -/
def NoCel (as : List SD) : Prop := ∀ (i : Nat) (p : Bool) (xs : List PyData), as[i]? ≠ some (.cel p xs)
/-- as FnG, for a def that may refuse -/
structure FnX (P : Program) (w : World) (K : PySem.W.Frag) (mg : Str → Option Value) (base : Heap) (T : List (Addr × Str)) (k : Nat) (f : Addr) (fd : FuncData) (ps : List Str) (S : DSpX) : Prop where
  len : ∀ as Q E, S as Q E → as.length = ps.length
  nc : ∀ as Q E, S as Q E → NoCel as
  go : ∀ (A : Around) (outer : List Env) (s : Shared) (H : Hp) (args : Args) (us : List Value) (vs : List V) (Q : VK) (E : XWish), Room k A → A.guards = some [] → Env0 P w K mg base A outer s H →
    BindsTo s fd args (ps.zip us) → Vals vs us → spDX T K S vs H Q E → codeAny (model P w) A (.call (.ref f) args) (CR (L2.CX P w) outer P w H s Q E) s
structure DnX (P : Program) (w : World) (K : PySem.W.Frag) (mg : Str → Option Value) (base : Heap) (T : List (Addr × Str)) (x : Str) (k : Nat) (ps : List Str) (S : DSpX) : Prop where
  ex : ∃ fd, FnX P w K mg base T k (He.ga K x) fd ps S ∧ Binds K fd ps []
  glo : mg x = some (.ref (He.ga K x))
  kp : PySem.W.keepIn K (.ref (He.ga K x)) = true
section
variable {X : Cx} {k : Nat} {f : Addr} {fd : FuncData} {ps : List Str} {S : DSpX} {x : Str} {p pos : Pos} {e : Expr} {es : List Expr} {was : DA} {Ed : RD}
end
section
variable {X : Cx} {m : Nat} {pos : Pos} {Ed : RD}
end
section
variable {X : Cx} {pins : List (Addr × Obj)} {σ : L2.St} {H : Hp} {s : Shared} {a C : Addr} {oe : Obj} {vs : Array Value}
theorem excAt_new (e : s.heap.get? a = some oe) (hz : Zc (.ref C) none oe) (hd : oe.data = .fields vs) {P : Program} {w : World} {H : Hp} : ObjOk P w H s.heap a (.ext (ExcAt C a)) :=
  ⟨⟨oe, vs, e, hz.1, hz.2, hd⟩, ⟨oe, e⟩, fun h1 h2 ⟨o, us, q1, q2, q3, q4⟩ kp => ⟨o, us, kp o q1, q2, q3, q4⟩⟩
theorem Inv.caught (I : Inv X pins σ H s) (hex : X.ex = []) (h0 : X.s_0.heap.get? a = none) (hp : ∀ q ∈ X.pn ++ pins, q.1 ≠ a) (e : s.heap.get? a = some oe) (hz : Zc (.ref C) none oe) (hd : oe.data = .fields vs) (na : H a = none)
    (nL : a ≠ X.env.locals) : Inv (X.suite a (X.pn ++ pins)) [] σ (upd H a (.ext (ExcAt C a))) s where
  ok := I.ok.suite _ _
  os := I.os
  bare := I.bare
  base := by
    have hxx : ∀ b : Addr, b ∉ X.ex := fun b hb => by rw [hex] at hb; cases hb
    refine ⟨I.base.keep, I.base.slot, fun b o q n z => ?_, I.base.there, fun b xs q => ?_, fun b o u q => ?_, fun b ps q => ?_⟩
    · have ne : b ≠ a := fun y => by
        subst y
        have q' : X.s_0.heap.get? b = some o := q
        rw [h0] at q'
        cases q'
      rw [upd_ne ne]
      exact I.base.free b o q n z
    · have r := I.base.tups b xs q
      rw [upd_ne (ne_of_none r na)]
      exact r
    · have r := I.base.frzs b o u q
      rw [upd_ne (ne_of_none r na)]
      exact r
    · obtain ⟨more, r⟩ := I.base.tbls b ps q
      exact ⟨more, by rw [upd_ne (ne_of_none r na)]; exact r⟩
  loc := I.loc
  cell := I.cell
  free := by
    show upd H a (.ext (ExcAt C a)) X.env.locals = none
    rw [upd_ne (Ne.symm nL)]
    exact I.free
  freeC := fun x c q => by
    obtain ⟨v, hv⟩ := I.cell x c q
    have ne : c ≠ a := fun y => by
      subst y
      obtain ⟨o, h1, h2⟩ := hv
      rw [e] at h1
      cases h1
      rw [hd] at h2
      cases h2
    rw [upd_ne ne]
    exact I.freeC x c q
  pin := fun q hq => by
    rw [List.append_nil] at hq
    obtain ⟨z1, z2, z3, z4, z5⟩ := I.pin q hq
    exact ⟨z1, by rw [upd_ne (hp q hq)]; exact z2, z3, z4, z5⟩
  hok := fun b o q => by
    by_cases hb : b = a
    · subst hb
      rw [upd_same] at q
      cases q
      exact excAt_new e hz hd
    · rw [upd_ne hb] at q
      exact (I.hok b o q).stay (fun c u _ z => z) (fun c z => by rw [upd_ne (ne_of_none z na)]; exact z) fun c xs z => by rw [upd_ne (ne_of_none z na)]; exact z
  len := I.len
end
end DL

namespace DL
variable {T : List (PySem.Addr × PySem.Str)} {Z : Zx T}
open PySem PySem.Spec PyProof.Rows L2
open Evl (Ex)
/-- the suite's ends: the clause's name goes -/
def goneEnds (i : Nat) (E : DEnds) : DEnds :=
  { nx := fun e => bIf (noPar e i) (E.nx (e.set i .un)) False, rt := E.rt, bk := fun e => bIf (noPar e i) (E.bk (e.set i .un)) False, ct := fun e => bIf (noPar e i) (E.ct (e.set i .un)) False, nol := false }
section
variable {K : PySem.W.Frag} {g : Gx Z} {F : Hp} {env : List SD} {σ : L2.St} {H : Hp}
/-- the slot i holds nothing any more -/
def goneD (i : Nat) (D : Ends) : Ends := { nx := fun σ' H' => D.nx (σ'.set i none) H', rt := D.rt, bk := fun σ' H' => D.bk (σ'.set i none) H', ct := fun σ' H' => D.ct (σ'.set i none) H' }
theorem Ends4.gone {m i : Nat} {P : DEnds} {D : Ends} (q : Ends4 K m g F P D) : Ends4 K m g F (goneEnds i P) (goneD i D) where
  nx := fun env' σ' F' H' p e k => q.nx _ _ F' H' (bIf_and p).2 e (k.setU (noPar_of (bIf_and p).1))
  bk := fun env' σ' F' H' p e k => q.bk _ _ F' H' (bIf_and p).2 e (k.setU (noPar_of (bIf_and p).1))
  ct := fun env' σ' F' H' p e k => q.ct _ _ F' H' (bIf_and p).2 e (k.setU (noPar_of (bIf_and p).1))
  rt := q.rt
end
section
variable {X : Cx} {m i : Nat} {pos pos' np : Pos} {n : Str} {body suite : List Stmt} {b₀ : Stmt} {wb : RD → DS} {ws : DS}
end
end DL

namespace DL
variable {T : List (PySem.Addr × PySem.Str)} {Z : Zx T}
open PySem PySem.Spec PyProof.Rows L2
open Evl (Ex)
section
variable {P : Program} {w : World} {K : PySem.W.Frag} {mg : Str → Option Value} {base : Heap}
end
/-- where nothing is refused, such a def is a plain one -/
theorem DnX.calm {P : Program} {w : World} {K : PySem.W.Frag} {mg : Str → Option Value} {base : Heap} {x : Str} {k : Nat} {ps : List Str} {S : DSpX} (D : DnX P w K mg base T x k ps S) : Dn P w K mg base T x k ps (fun as Q => S as Q fun _ => False) := by
  obtain ⟨⟨fd, G, hb⟩, h1, h2⟩ := D
  refine ⟨⟨fd, ⟨fun as Q h => G.len as Q _ h, fun A outer s H args us vs Q hr hA e0 bt rv ⟨F, as, P, a1, a2, a3⟩ => ?_⟩, hb⟩, h1, h2⟩
  refine codeAny_mono (G.go A outer s H args us vs Q (fun _ _ _ => False) hr hA e0 bt rv ⟨F, as, P, _, a1, a2, a3, fun _ _ _ z _ _ => z⟩) fun r s' h => ?_
  match r, h with
  | .error e, h =>
    obtain ⟨_, _, _, _, _, _, _, _, _, _, _, _, z⟩ := h
    exact z.elim
  | .ok (.ret u), h => exact h
  | .ok .next, h => exact h
  | .ok .brk, h => exact h
  | .ok .cont, h => exact h
theorem DnX.imp {P : Program} {w : World} {K : PySem.W.Frag} {mg : Str → Option Value} {base : Heap} {x : Str} {k : Nat} {ps : List Str} {S S' : DSpX} (D : DnX P w K mg base T x k ps S) (h : ∀ as Q E, S' as Q E → S as Q E) : DnX P w K mg base T x k ps S' := by
  obtain ⟨⟨fd, G, hb⟩, h1, h2⟩ := D
  exact ⟨⟨fd, ⟨fun as Q E q => G.len as Q E (h _ _ _ q), fun as Q E q => G.nc as Q E (h _ _ _ q), fun A outer s H args us vs Q E hr hA e0 bt rv ⟨F, as, P, Ec, a1, a2, a3⟩ => G.go A outer s H args us vs Q E hr hA e0 bt rv ⟨F, as, P, Ec, a1, h _ _ _ a2, a3⟩⟩, hb⟩, h1, h2⟩
section
variable {X : Cx} {a : Expr} {wa : DE} {p q2 pos : Pos} {es : List Expr} {ds : List Str}
end
end DL

namespace DL
variable {T : List (PySem.Addr × PySem.Str)} {Z : Zx T}
open PySem PySem.Spec PyProof.Rows L2
open Evl (Ex)
section
variable {K : PySem.W.Frag} {g : Gx Z} {F : Hp} {env : List SD} {σ : L2.St} {H : Hp}
def Gx.hidO (g : Gx Z) (D : Addr) (o : HO) (ho : ∀ ps, o ≠ .tbl ps) (h : g.Pr D = none) : Gx Z := ⟨upd g.Pr D o, fun a u e => by
  have q := g.px a u e
  have ne : a ≠ D := fun z => by rw [z, h] at q; cases q
  rw [upd_ne ne]
  exact q, fun a u e => by
  by_cases z : a = D
  · subst z
    rw [upd_same] at e
    cases e
    exact ho
  · rw [upd_ne z] at e
    exact g.pl a u e⟩
/-- no name's cell is at D -/
def NoNm (env : List SD) (σ : L2.St) (D : Addr) : Prop := ∀ (j : Nat) (p : Bool) (ys : List PyData), env[j]? = some (.cel p ys) → σ[j]? ≠ some (some (.ref D))
theorem Ok.hideO (k : Ok K g F env σ H) {D : Addr} {o : HO} (hn : ∀ φ, o ≠ .ext φ) (hF : F D = none) (hH : H D = some o) (nw : NoNm env σ D) (hp : g.Pr D = none) (ho : ∀ ps, o ≠ .tbl ps := by intro _ z; cases z) : Ok K (g.hidO D o ho hp) F env σ H :=
  ⟨k.len, k.fh, k.dat, k.cel, k.sep, k.pin, k.frame, k.newF, k.oldF, fun a u e => by
    have e' : upd g.Pr D o a = some u := e
    by_cases z : a = D
    · subst z
      rw [upd_same] at e'
      cases e'
      exact ⟨hH, hF, nw⟩
    · rw [upd_ne z] at e'
      exact k.prot a u e', k.dic.keep (Ex.refl F) (fun a xs e n => by
      have ne : a ≠ D := fun z => by
        subst z
        rw [hH] at e
        exact hn xs (Option.some.inj e)
      show upd g.Pr D o a = none
      rw [upd_ne ne]
      exact n) fun a xs _ n => ⟨n, rfl⟩⟩
theorem Ok.bareO {D : Addr} {o : HO} (hn : ∀ φ, o ≠ .ext φ) {ho : ∀ ps, o ≠ .tbl ps} (hp : g.Pr D = none) (k : Ok K (g.hidO D o ho hp) F env σ H) : Ok K g F env σ H ∧ F D = none ∧ H D = some o ∧ NoNm env σ D := by
  obtain ⟨z1, z2, z3⟩ := k.prot D o (show upd g.Pr D o D = some o from upd_same)
  refine ⟨⟨k.len, k.fh, k.dat, k.cel, k.sep, k.pin, k.frame, k.newF, k.oldF, fun a u e => ?_, (k.dic.keep (Ex.refl F) (fun a xs e n => ?_) fun a xs _ n => ⟨n, rfl⟩)⟩, z2, z1, z3⟩
  · have ne : a ≠ D := fun z => by rw [z, hp] at e; cases e
    exact k.prot a u (show upd g.Pr D o a = some u by rw [upd_ne ne]; exact e)
  · have ne : a ≠ D := fun z => by
      subst z
      rw [z1] at e
      exact hn xs (Option.some.inj e)
    have n : upd g.Pr D o a = none := n
    rw [upd_ne ne] at n
    exact n
/-- a new thing of no name -/
theorem Ok.newO (k : Ok K g F env σ H) {D : Addr} {o : HO} (h : H D = none) : Ok K g F env σ (upd H D o) ∧ F D = none ∧ g.Pr D = none ∧ g.H0 D = none ∧ NoNm env σ D := by
  refine ⟨k.extra h, fnone k.fh h, ?_, k.fresh0 h, fun j p ys e z => ?_⟩
  · cases e : g.Pr D with
    | none => rfl
    | some u =>
      have z := (k.prot D u e).1
      rw [h] at z
      cases z
  · obtain ⟨a, vs, z1, _, z3, _⟩ := k.cel j p ys e
    rw [z] at z1
    cases z1
    rw [h] at z3
    cases z3
end
abbrev KB := List (Key × V)
def KeysAre (kvs : KB) (ks : List Int) : Prop := kvs.map (·.1) = ks.map Sum.inl ∧ ks.Nodup
def intQ (d : PyData) (P : Prop) : Prop := match d with
  | .int _ => P
  | _ => False
def dsetN {I : Type} (f : I → PyData → (I → PyData → Prop) → (I → Prop) → Prop) (i : I) : List PyData → List PyData → (List PyData → Prop) → Prop
  | [], acc, K => sortSetQ (.list acc) K
  | d :: r, acc, K => f i d (fun i' k => i' = i ∧ intQ k (acc.length ≤ 1000 ∧ dsetN f i r (acc ++ [k]) K)) fun i' => i' = i ∧ dsetN f i r acc K
/-- sealed: the items aren't walked by the kernel -/
inductive dsetQ {I : Type} (f : I → PyData → (I → PyData → Prop) → (I → Prop) → Prop) (i : I) (items acc : List PyData) (K : List PyData → Prop) : Prop
  | mk : dsetN f i items acc K → dsetQ f i items acc K
theorem dsetQ.out {I : Type} {f : I → PyData → (I → PyData → Prop) → (I → Prop) → Prop} {i : I} {items acc : List PyData} {K : List PyData → Prop} (h : dsetQ f i items acc K) : dsetN f i items acc K := by
  cases h with
  | mk h => exact h
section
variable {X : Cx} {tg iter test key a b : Expr} {wa wb wk : DE} {wi : DI} {wt : DT} {D r : Str}
/-- what stands of the dict in the course of the walk -/
structure Dst (K : PySem.W.Frag) (g : Gx Z) (F : Hp) (env : List SD) (σ : L2.St) (H : Hp) (iD : Nat) (A : Addr) (acc : List PyData) (kvs : KB) : Prop where
  ok : Ok K g F env σ H
  slot : σ[iD]? = some (some (.ref A))
  hF : F A = none
  hH : H A = some (.dK kvs)
  keys : ∃ (ks ns : List Int), KeysAre kvs ks ∧ acc = ns.map PyData.int ∧ (∀ m, m ∈ ks ↔ m ∈ ns) ∧ ks.length ≤ ns.length
  nw : NoNm env σ A
end
end DL

namespace DL
variable {T : List (PySem.Addr × PySem.Str)} {Z : Zx T}
open PySem PySem.Spec PyProof.Rows L2
open Evl (Ex)
section
variable {X : Cx}
end
section
variable {X : Cx} {a e : Expr} {wa we : DE} {apos cpos : Pos}
end
def strsD : List PyData → Option (List Str)
  | [] => some []
  | .str i :: r => (strsD r).map (i :: ·)
  | _ :: _ => none
theorem strs_rel {K : PySem.W.Frag} {F : Hp} : ∀ {ds : List PyData} {vs : List V} {ns : List Str}, DRs K F vs ds → strsD ds = some ns → vs = ns.map V.str
  | [], _, _, h, e => by cases h; cases e; rfl
  | .str i :: r, _, ns, h, e => by
    cases h with
    | cons a b =>
      cases q : strsD r with
      | none => simp [strsD, q] at e
      | some ms =>
        simp only [strsD, q, Option.map_some, Option.some.injEq] at e
        subst e
        cases a.inv_str
        rw [strs_rel b q]
        rfl
  | .none :: _, _, _, _, e => by simp [strsD] at e
  | .bool _ :: _, _, _, _, e => by simp [strsD] at e
  | .int _ :: _, _, _, _, e => by simp [strsD] at e
  | .list _ :: _, _, _, _, e => by simp [strsD] at e
  | .tuple _ :: _, _, _, _, e => by simp [strsD] at e
  | .dict _ :: _, _, _, _, e => by simp [strsD] at e
def joinOk (a : Str) (ys : List Str) : Prop := (ys.map (·.length)).sum + ys.length * a.length ≤ 16777216
def joinQ (a : Str) (ys : Option (List Str)) (P : PyData → Prop) : Prop := match ys with
  | some ys => joinOk a ys ∧ P (.str (Txt.join a ys))
  | none => False
def nJoin (a : Str) (y : PyData) (P : PyData → Prop) : Prop := match y with
  | .list ds => joinQ a (strsD ds) P
  | .tuple ds => joinQ a (strsD ds) P
  | _ => False
abbrev dJoin (a : Str) (we : DE) (env : List SD) (P : PyData → List SD → Prop) : Prop := we env fun y env1 => nJoin a y fun z => P z env1
section
variable {X : Cx} {e : Expr} {we : DE} {apos pos p0 : Pos} {j0 : Nat}
theorem djoin {a : Str} (he : PE X e (liftE X.K Z we)) (hs : starEach [e] X.env = [(false, eval e X.env)] := by rfl)
    (hbase : attributeBase (.Constant (.str a) j0 p0) "join" X.env (eval (.Constant (.str a) j0 p0) X.env) = eval (.Constant (.str a) j0 p0) X.env := by rfl) (hline : (apos.endLine == pos.line) = true := by rfl) :
    PE X (.Call (.Attribute (.Constant (.str a) j0 p0) "join" apos) [e] [] pos) (liftE X.K Z (dJoin a we)) :=
  PE.of (pe_join (ds (Z := Z)) he hs hbase hline) fun σ H Q ⟨g, F, env, P, k, w, q⟩ => by
    refine ⟨g, F, env, fun d env' => d = .str a ∧ dJoin a we env' P, k, ⟨rfl, w⟩, fun d env1 v F1 H1 ⟨ed, w⟩ e1 k1 r1 => ?_⟩
    subst ed
    cases r1.inv_str
    refine ⟨⟨a, rfl⟩, g, F1, env1, _, k1, w, fun y env2 v2 F2 H2 p2 e2 k2 r2 => ?_⟩
    unfold nJoin at p2
    split at p2
    · obtain ⟨b, xs, rfl, h1, h2⟩ := r2.inv_lst
      unfold joinQ at p2
      split at p2
      · rename_i ys ey
        cases strs_rel h2 ey
        exact ⟨a, b, ys, rfl, rfl, .inl (h1.mono k2.fh).sq, p2.1, q _ env2 _ F2 H2 p2.2 (e1.trans e2) k2 (.str _)⟩
      · exact p2.elim
    · obtain ⟨b, xs, rfl, h1, h2⟩ := r2.inv_tup
      unfold joinQ at p2
      split at p2
      · rename_i ys ey
        cases strs_rel h2 ey
        exact ⟨a, b, ys, rfl, rfl, .inr (Evl.ex_t k2.fh h1), p2.1, q _ env2 _ F2 H2 p2.2 (e1.trans e2) k2 (.str _)⟩
      · exact p2.elim
    · exact p2.elim
end
end DL

namespace DL
variable {T : List (PySem.Addr × PySem.Str)} {Z : Zx T}
open PySem PySem.Spec PyProof.Rows L2
open Evl (Ex)
theorem _root_.L2H.RoomH.units {k : Nat} {A : Around} (r : L2H.RoomH k A) : A.units + 64 < cLine := by have := r.un; omega
theorem _root_.L2H.RoomH.u65 {k : Nat} {A : Around} (r : L2H.RoomH k A) : A.units + 65 < cLine := by have := r.un; omega
/-- as FnG, whatever is handled -/
structure FnB (P : Program) (w : World) (K : PySem.W.Frag) (mg : Str → Option Value) (base : Heap) (T : List (Addr × Str)) (k : Nat) (f : Addr) (fd : FuncData) (ps : List Str) (S : DSp) : Prop where
  len : ∀ as Q, S as Q → as.length = ps.length
  go : ∀ (A : Around) (outer : List Env) (s : Shared) (H : Hp) (args : Args) (us : List Value) (vs : List V) (Q : VK), L2H.RoomH k A → A.guards = some [] → Env0 P w K mg base A outer s H →
    BindsTo s fd args (ps.zip us) → Vals vs us → spD T K S vs H Q → codeAny (model P w) A (.call (.ref f) args) (CR CX0 outer P w H s Q E0) s
structure DnB (P : Program) (w : World) (K : PySem.W.Frag) (mg : Str → Option Value) (base : Heap) (T : List (Addr × Str)) (x : Str) (k : Nat) (ps : List Str) (S : DSp) : Prop where
  ex : ∃ fd, FnB P w K mg base T k (He.ga K x) fd ps S ∧ Binds K fd ps []
  glo : mg x = some (.ref (He.ga K x))
  kp : PySem.W.keepIn K (.ref (He.ga K x)) = true
section
variable {P : Program} {w : World} {K : PySem.W.Frag} {mg : Str → Option Value} {base : Heap}
end
section
variable {X : Cx} {k : Nat} {f : Addr} {fd : FuncData} {ps : List Str} {S : DSp} {x : Str} {p pos : Pos} {e : Expr} {es : List Expr} {was : DA}
end
end DL

namespace DL
variable {T : List (PySem.Addr × PySem.Str)} {Z : Zx T}
open PySem PySem.Spec PyProof.Rows L2
open Evl (Ex)
def keyS (e : Int × Value) : Str := match e.2 with | .str k _ => k | _ => Str.empty
def GoodS (w : World) (e : Int × Value) : Prop := ∃ k t, e.2 = Value.str k t ∧ e.1 = hashStr w k
/-- a set of the texts ys, each once -/
def SetS (w : World) (h : Heap) (a : Addr) (ys : List Str) : Prop :=
  ∃ ob es ep tb, h.get? a = some ob ∧ ob.ExactSet ∧ ob.data = .set es ep tb ∧ (∀ e ∈ es.toList, GoodS w e) ∧ (es.toList.map keyS).Perm ys ∧ ys.Nodup ∧
    es.size < scanBound ∧ tb.fits es.size = true ∧ Ris tb.place.toList ∧ (w.params.followText "set-order" = true ∨ tb.led = true)
section
variable {P : Program} {w : World} {h h' : Heap} {a : Addr} {ys : List Str}
theorem SetS.at (R : SetS w h a ys) (k : ∀ o, h.get? a = some o → h'.get? a = some o) : SetS w h' a ys := by
  obtain ⟨ob, es, ep, tb, ho, r⟩ := R
  exact ⟨ob, es, ep, tb, k ob ho, r⟩
theorem SetS.size (R : SetS w h a ys) : ys.length < scanBound := by
  obtain ⟨ob, es, ep, tb, _, _, _, _, pm, _, hb, _⟩ := R
  rw [← pm.length_eq, List.length_map, Array.length_toList]
  exact hb
end
section
variable {P : Program} {w : World} {A : Around} {E : Value → Shared → Prop} {s : Shared} {a : Addr} {ys : List Str}
end
end DL

namespace DL
variable {T : List (PySem.Addr × PySem.Str)} {Z : Zx T}
open PySem PySem.Spec PyProof.Rows L2
open Evl (Ex)
/-- each once -/
def dd : List Str → List Str → List Str
  | acc, [] => acc
  | acc, k :: r => dd (if k ∈ acc then acc else k :: acc) r
section
variable {P : Program} {w : World} {A : Around} {E : Value → Shared → Prop} {s : Shared}
end
end DL

namespace DL
variable {T : List (PySem.Addr × PySem.Str)} {Z : Zx T}
open PySem PySem.Spec PyProof.Rows L2
open Evl (Ex)
theorem strLt_eq {a b : Str} : strLt a b = decide (a.cps.toList < b.cps.toList) := by unfold strLt; rfl
theorem str_ext {a b : Str} (h : a.cps.toList = b.cps.toList) : a = b := by
  cases a with
  | mk u =>
    cases b with
    | mk v =>
      congr
      exact Array.toList_inj.mp h
theorem strLt_or {a b : Str} (h : strLt b a = false) (ne : a ≠ b) : strLt a b = true := by
  rw [strLt_eq, decide_eq_false_iff_not] at h
  rw [strLt_eq, decide_eq_true_eq]
  rcases List.le_iff_lt_or_eq.mp (List.not_lt.mp h) with z | z
  · exact z
  · exact absurd (str_ext z) ne
section
variable {X : Cx}
end
theorem strs_map : ∀ ns : List Str, strsD (ns.map .str) = some ns
  | [] => rfl
  | n :: ns => by simp [strsD, strs_map ns]
section
variable {X : Cx} {a : Expr} {wa : DE} {p p2 pos pos2 : Pos}
end
end DL

namespace DL
variable {T : List (PySem.Addr × PySem.Str)} {Z : Zx T}
open PySem PySem.Spec PyProof.Rows L2
open Evl (Ex)
section
variable {X : Cx} {a b e : Expr} {we wa wb : DE} {pos : Pos}
end
end DL

namespace DL
variable {T : List (PySem.Addr × PySem.Str)} {Z : Zx T}
open PySem PySem.Spec PyProof.Rows L2
open Evl (Ex)
section
variable {X : Cx} {a b e : Expr} {we wa wb : DE} {pos p p2 pos2 : Pos}
end
end DL

namespace DL
variable {T : List (PySem.Addr × PySem.Str)} {Z : Zx T}
open PySem PySem.Spec PyProof.Rows L2
open Evl (Ex)
section
variable {X : Cx}
/-- sorted(xs): the items by their data, like ones in their order -/
def rSortDD (K : PySem.W.Frag) : List V → Hp → VK → Prop := fun vs H Q => ∃ (a : Addr) (xs : List V) (ds : List PyData), vs = [V.ref a] ∧ SqL K H a xs ∧ DpAll K H xs ds ∧ PySem.W.AllAlike ds ∧ PySem.W.Sortable ds ∧ (∀ d ∈ ds, d.depth ≤ 60) ∧
  ∀ (zs : List (V × PyData)) (p : Addr), zs = (xs.zip ds).mergeSort (PySem.W.dataLe false Prod.snd) → H p = none → Q (.ref p) (upd H p (.lst (zs.map Prod.fst)))
theorem zip_snd : ∀ {xs : List V} {ds : List PyData}, xs.length = ds.length → (xs.zip ds).map Prod.snd = ds
  | [], [], _ => rfl
  | x :: xs, d :: ds, h => by
    rw [List.zip_cons_cons, List.map_cons, zip_snd (by simpa using h)]
theorem DpAll.len {K : PySem.W.Frag} {H : Hp} : ∀ {xs : List V} {ds : List PyData}, DpAll K H xs ds → xs.length = ds.length
  | [], [], _ => rfl
  | _ :: _, _ :: _, .cons _ t => by rw [List.length_cons, List.length_cons, DpAll.len t]
theorem each_zip {R : Value → V × PyData → Prop} {h : Heap} : ∀ {its : List Value} {xs : List V} {ds : List PyData} {as : List Addr}, Vals xs its → ReadsAll h its ds as → PySem.W.EachIs (fun v (p : V × PyData) => RelV p.1 v ∧ ∃ as, Reads h v p.2 as) its (xs.zip ds)
  | _, [], ds, _, r, t => by
    cases r
    exact .nil
  | _, x :: xs, [], _, r, t => by
    cases t
    cases r
  | _, x :: xs, d :: ds, _, r, t => by
    cases r with
    | cons r1 r2 =>
      cases t with
      | cons t1 t2 => exact .cons ⟨r1, _, t1⟩ (each_zip (R := R) r2 t2)
theorem vals_each {R : Value → V × PyData → Prop} : ∀ {out : List Value} {zs : List (V × PyData)}, PySem.W.EachIs (fun v (p : V × PyData) => RelV p.1 v) out zs → Vals (zs.map Prod.fst) out
  | _, _, .nil => .nil
  | _, _, .cons a t => .cons a (vals_each (R := R) t)
theorem cr_sortedDD (hu : X.A.units + 65 < cLine) : CallR X (.builtin "sorted") (rSortDD X.K) := by
  intro pins s σ H vs us Q I r h
  obtain ⟨a, xs, ds, rfl, hs, hd, hal, hk, hdep, q⟩ := h
  rw [Vals.ref1 r]
  obtain ⟨its, rv, pl, hz⟩ := I.list hs
  obtain ⟨as, h4⟩ := Dp.readsAll I ds _ its hd rv
  have hlen := DpAll.len hd
  have e := each_zip (R := fun _ _ => True) rv h4
  have es : (xs.zip ds).map Prod.snd = ds := zip_snd hlen
  have lz : (xs.zip ds).length = xs.length := by rw [List.length_zip, hlen, Nat.min_self]
  refine PySem.W.sorted_data (R := fun v (p : V × PyData) => RelV p.1 v) (enc := Prod.snd) (bs := xs.zip ds) pl.isList (e.mono fun _ _ z => z.1) (e.mono fun _ _ z => z.2) (by rw [es]; exact hal) (by rw [es]; exact hk) (by rw [lz]; exact hz) (fun p hp => ?_) fun out hol ho => ?_
  · have : p.2 ∈ ds := by rw [← es]; exact List.mem_map.mpr ⟨p, hp, rfl⟩
    have := hdep _ this
    omega
  · obtain ⟨c, hc⟩ := sortedAll_at s.heap its (List.toArray out)
    have hn := I.hok.fresh (Nat.le_succ s.heap.objs.size)
    refine ⟨.ref (s.heap.objs.size + 1), upd H (s.heap.objs.size + 1) (.lst (((xs.zip ds).mergeSort (PySem.W.dataLe false Prod.snd)).map Prod.fst)), I.laid (t' := s.toks) (fun b u hb => sortedAll_old hb) (Nat.le_succ _) ⟨?_, out, c, vals_each (R := fun _ _ => True) ho, hc⟩, rfl, q _ _ rfl hn⟩
    rw [List.length_map, List.length_mergeSort, lz]
    exact hz
end
def sortD (ds : List PyData) : List PyData := ds.mergeSort (PySem.W.dataLe false id)
def sortOk (ds : List PyData) : Prop := PySem.W.AllAlike ds ∧ PySem.W.Sortable ds ∧ (∀ d ∈ ds, d.depth ≤ 60) ∧ PyData.hasDictAll ds = false
def sortedQ (d : PyData) (K : List PyData → Prop) : Prop := match d with
  | .list ds => sortOk ds ∧ K (sortD ds)
  | _ => False
theorem q_sorted {ds : List PyData} {K : List PyData → Prop} : sortedQ (.list ds) K = (sortOk ds ∧ K (sortD ds)) := rfl
theorem sortD_perm (ds : List PyData) : (sortD ds).Perm ds := List.mergeSort_perm _ _
theorem sortD_pair (ds : List PyData) : (sortD ds).Pairwise fun a b => PySem.W.dataLe false id a b = true := PySem.W.sort_pairwise (PySem.W.sortLe_total _ _ _) ds
theorem drs_zip {K : PySem.W.Frag} {F : Hp} : ∀ {xs : List V} {ds : List PyData}, DRs K F xs ds → ∀ p ∈ xs.zip ds, DR K F p.1 p.2
  | [], _, _, p, h => by simp at h
  | x :: xs, [], r, p, h => by simp at h
  | x :: xs, d :: ds, r, p, h => by
    cases r with
    | cons a b =>
      rw [List.zip_cons_cons] at h
      rcases List.mem_cons.mp h with rfl | h
      · exact a
      · exact drs_zip b p h
theorem drs_of {K : PySem.W.Frag} {F : Hp} : ∀ {zs : List (V × PyData)}, (∀ p ∈ zs, DR K F p.1 p.2) → DRs K F (zs.map Prod.fst) (zs.map Prod.snd)
  | [], _ => .nil
  | z :: zs, h => .cons (h z List.mem_cons_self) (drs_of fun p hp => h p (List.mem_cons_of_mem _ hp))
abbrev dSorted (wa : DE) (env : List SD) (P : SD → List SD → Prop) : Prop := wa env fun d env1 => sortedQ d fun xs => P (.cel false xs) env1
section
variable {X : Cx} {a : Expr} {wa : DE} {p pos : Pos}
theorem dsorted {k : Nat} (hr : Room k X.A) (hm : X.mg "sorted" = none) (ha : PE X a (liftE X.K Z wa)) (hg : Gl X "sorted" := by rfl)
    (n1 : starEach [a] X.env = (false, eval a X.env) :: starEach [] X.env := by rfl) :
    PE X (.Call (.Name "sorted" p) [a] [] pos) (liftX X.K Z (dSorted wa)) :=
  PE.of (pe_callB (cr_sortedDD hr.u65) hg hm (by decide +kernel) (pa_cons ha pa_nil n1) (by decide) (by decide) n1 (by rfl)) fun σ H Q ⟨g, F, env, P, k, w, q⟩ =>
    ⟨g, F, env, _, k, w, fun d env1 v F1 H1 p e1 k1 r1 => by
      unfold sortedQ at p
      split at p
      · rename_i ds
        obtain ⟨⟨s1, s2, s3, s4⟩, p⟩ := p
        obtain ⟨l, us, rfl, h1, h2⟩ := r1.inv_lst
        refine ⟨l, us, ds, rfl, (h1.mono k1.fh).sq, DRs.dp (drsH k1 h2) s4, s1, s2, s3, fun zs a2 ez hp2 => ?_⟩
        subst ez
        have hl := h2.length
        have em : ((us.zip ds).mergeSort (PySem.W.dataLe false Prod.snd)).map Prod.snd = sortD ds := by
          have := PySem.W.sort_maps (r := PySem.W.dataLe false (Prod.snd (α := V))) (s := PySem.W.dataLe false id) Prod.snd (l := us.zip ds) (fun _ _ _ _ => rfl)
          rw [this, zip_snd hl]
          rfl
        have dr := drs_of (zs := (us.zip ds).mergeSort (PySem.W.dataLe false Prod.snd)) fun p hp => drs_zip h2 p ((List.mergeSort_perm _ _).mem_iff.mp hp)
        rw [em] at dr
        obtain ⟨k3, r3⟩ := k1.newCell hp2 dr
        exact q _ env1 _ F1 _ p e1 k3 r3
      · exact p.elim⟩
end
end DL

namespace DL
variable {T : List (PySem.Addr × PySem.Str)} {Z : Zx T}
open PySem PySem.Spec PyProof.Rows L2
open Evl (Ex)
section
variable {X : Cx}
variable {e : Expr} {es : List Expr} {was : DA} {pos p : Pos}
end
end DL

namespace DL
variable {T : List (PySem.Addr × PySem.Str)} {Z : Zx T}
open PySem PySem.Spec PyProof.Rows L2
section
variable {fa : List He.Fa} {fn : List He.FnD} {K : PySem.W.Frag} {mg : Str → Option Value}
theorem Top.funA (T : Top fa fn K mg) (x y : Str) (st : Stmt) (i j : Nat) (h : fn[i]? = some ⟨(x, none), y, y, defArgs st, defBody st, defScope st⟩ := by rfl) (hk : fa[j]? = some (.keep x) := by rfl) :
    ∃ kV doc pm an cdv ct, Fun K y y st (He.ga K x) (PySem.W.fnOf y y (defArgs st) (defBody st) (defScope st) .none kV doc pm an cdv ct) := by
  obtain ⟨oc, od, osl, kV, doc, pm, an, cdv, ct, h1, h2⟩ := T.says.def_ i h
  exact ⟨kV, doc, pm, an, cdv, ct, fun_mk h1 h2 (T.keep x j hk)⟩
end
end DL

namespace DL
variable {T : List (PySem.Addr × PySem.Str)} {Z : Zx T}
open PySem PySem.Spec PyProof.Rows L2
open Evl (Ex)
section
variable {X : Cx} {pins : List (Addr × Obj)} {σ : L2.St} {H : Hp} {s : Shared}
theorem TqT.obj (I : Inv X pins σ H s) {a : Addr} {xs : List V} (h : TqT X.K H a xs) : ∃ o, s.heap.get? a = some o ∧ PlT o := by
  rcases h with ⟨o, h, p⟩ | ⟨o, _, _, h, p, _⟩
  · exact ⟨o, (I.hok a _ h).1, p⟩
  · exact ⟨o, I.kIn a o h, p⟩
end
section
variable {X : Cx}
end
section
variable {X : Cx} {a e : Expr} {wa we : DE} {apos cpos : Pos}
end
end DL

namespace DL
variable {T : List (PySem.Addr × PySem.Str)} {Z : Zx T}
open PySem PySem.Spec PyProof.Rows L2 PySem.W
open Evl (Ex)
section
variable {prog : Program} {w : World} {A : Around} {E : Value → Shared → Prop} {s : Shared}
end
section
variable {X : Cx}
end
section
variable {X : Cx} {a : Expr} {wa : DE} {p pos : Pos}
end
end DL

namespace DL
variable {T : List (PySem.Addr × PySem.Str)} {Z : Zx T}
open PySem PySem.Spec PyProof.Rows L2 PySem.W
open Evl (Ex)
def kyOf : PyData → Option Key
  | .int n => some (.inl n)
  | .str x => some (.inr x)
  | _ => none
def keyD : Key → PyData
  | .inl n => .int n
  | .inr x => .str x
abbrev KVD := List (List Key × PyData)
def atD (kvs : KVD) (k : List Key) : Option PyData := (kvs.find? fun p => decide (p.1 = k)).map (·.2)
def putD (kvs : KVD) (k : List Key) (d : PyData) : KVD := if (atD kvs k).isSome = true then kvs.map (fun p => if p.1 = k then (p.1, d) else p) else kvs ++ [(k, d)]
theorem ky_val {K : PySem.W.Frag} {F : Hp} {v : V} {d : PyData} {k : Key} (h : kyOf d = some k) (r : DR K F v d) : v = kV k := by
  cases d with
  | int n => cases h; cases r; rfl
  | str x => cases h; cases r; rfl
  | _ => cases h
section
variable {K : PySem.W.Frag} {F : Hp}
theorem DicR.val {kvs : KVD} {xs : List (List Key × Addr × Value)} (r : DicR K F kvs xs) (k : List Key) : (atD kvs k = none ∧ atKey xs k = none) ∨ ∃ d p v, atD kvs k = some d ∧ atKey xs k = some p ∧ DR K F v d ∧ RelV v p.2 := by
  unfold DicR at r
  induction r with
  | nil => exact .inl ⟨rfl, rfl⟩
  | @cons p q ps qs h t ih =>
    obtain ⟨h1, _, v, h2, h3⟩ := h
    by_cases e : p.1 = k
    · exact .inr ⟨p.2, q.2, v, by simp [atD, List.find?_cons, e], by simp [atKey, List.find?_cons, ← h1, e], h2, h3⟩
    · have e' : ¬ q.1 = k := fun z => e (h1.trans z)
      have a : atD (p :: ps) k = atD ps k := by simp [atD, List.find?_cons, e]
      have b : atKey (q :: qs) k = atKey qs k := by simp [atKey, List.find?_cons, e']
      rw [a, b]
      exact ih
theorem DicR.put {kvs : KVD} {xs : List (List Key × Addr × Value)} (r : DicR K F kvs xs) (k : List Key) {b : Addr} {d : PyData} {v : V} {u : Value} (hb : TqT K F b (k.map kV)) (hd : DR K F v d) (hu : RelV v u) : DicR K F (putD kvs k d) (storedH xs k b u) := by
  have e : (atD kvs k).isSome = (atKey xs k).isSome := by
    rcases r.val k with ⟨e1, e2⟩ | ⟨_, _, _, e1, e2, _⟩ <;> rw [e1, e2] <;> rfl
  unfold putD storedH
  rw [e]
  by_cases q : (atKey xs k).isSome = true
  · rw [if_pos q, if_pos q]
    clear e q
    unfold DicR at r ⊢
    induction r with
    | nil => exact .nil
    | @cons p q ps qs h t ih =>
      rw [List.map_cons, List.map_cons]
      refine .cons ?_ ih
      obtain ⟨h1, h2, h3⟩ := h
      unfold putAt
      by_cases e : p.1 = k
      · rw [if_pos e, if_pos (h1.symm.trans e)]; exact ⟨h1, h2, v, hd, hu⟩
      · rw [if_neg e, if_neg (fun z => e (h1.trans z))]; exact ⟨h1, h2, h3⟩
  · rw [if_neg q, if_neg q]
    exact Paired.snoc r ⟨rfl, hb, v, hd, hu⟩
end
section
variable {X : Cx} {pins : List (Addr × Obj)} {σ : L2.St} {H : Hp} {s : Shared} {a b : Addr} {F : Hp} {kvs : KVD} {xs : List (List Key × Addr × Value)}
end
section
variable {K : PySem.W.Frag} {g : Gx Z} {F : Hp} {env : List SD} {σ : L2.St} {H : Hp}
end
section
variable {X : Cx} {e b : Expr} {we wb : DE} {m : Nat} {pos : Pos}
end
end DL

namespace DL
variable {T : List (PySem.Addr × PySem.Str)} {Z : Zx T}
open PySem PySem.Spec PyProof.Rows L2 PySem.W
open Evl (Ex)
section
variable {X : Cx}
section
variable {k0 : Nat} {a : Expr} {pos p0 : Pos} {x : Str} {wa : DE}
end
end
end DL

namespace DL
variable {T : List (PySem.Addr × PySem.Str)} {Z : Zx T}
open PySem PySem.Spec PyProof.Rows L2
open Evl (Ex)
section
variable {P : Program} {w : World} {K : PySem.W.Frag} {mg : Str → Option Value} {base : Heap}
theorem dfnW (m : Nat) {x qual : Str} {st : Stmt} {f : Addr} {fd : FuncData} {N ps : List Str} {k : Nat} {S : DSp} (Fn : Fun K x qual st f fd) (sc : FnScope N ps (defScope st)) (len : ∀ as Q, S as Q → as.length = ps.length) (cels : CelsIn m S)
    (hbody : ∀ {Z : Zx T} (cdv : Value) (A : Around) (outer : List Env) (s : Shared) (H : Hp), Z.P = P → Z.w = w → Room k (A.deeper (envOfC qual (defScope st) s.heap.objs.size f cdv)) → (A.deeper (envOfC qual (defScope st) s.heap.objs.size f cdv)).guards = some [] →
      ∃ t : DS, PSs (cxOf CX0 P w K mg base N qual (defScope st) f cdv A outer s H E0).nox (defBody st) (liftS K Z m t) ∧
        ∀ as Q, S as Q → t (defEnds m Q) (as ++ List.replicate (N.length - ps.length) .un)) : FnG P w K mg base T (k + 1) f fd ps S := by
  obtain ⟨oc, od, kV, doc, pm, an, cdv, ct, osl, rfl, lk, hcd⟩ := Fn.ex
  refine ⟨len, fun A outer s H args us vs Q hr hg e0 hb rv ⟨F0, as, PP, ha, hS, hQ⟩ => ?_⟩
  have hl : vs.length = ps.length := ha.len.symm.trans (len as PP hS)
  have hpl : ps.length ≤ N.length := by
    have := congrArg List.length sc.pre
    rw [List.length_take] at this
    omega
  have KX : K.In s.heap := e0.mod.kin.keeps fun b o e => (e0.bs b o e).1
  refine codeAny_call_function hr.depth (KX _ _ lk) rfl sc.co sc.gen rfl (PySem.W.codeRec_of KX hcd) (hb _ _ _ _ (wpAny_newFunctionEnv_cells sc.kind (fun ⟨n, v⟩ hy => ?_) fun env he s1 x => ?_))
  · rcases sc.par n (List.of_mem_zip hy).1 with q | q
    · exact .inl q
    · exact .inr ⟨q, PySem.W.cellsFrom_some _ _ _ (.inl q)⟩
  · subst he
    obtain ⟨t, ht, hq⟩ := hbody (Z := entryZ T P w F0 H vs as) cdv A outer s H rfl rfl (hr.deeper _) hg
    have I : Inv (cxOf CX0 P w K mg base N qual (defScope st) f cdv A outer s H E0) [] (start N vs) H s1 := inv_start sc hr.hd e0 hl rv x
    refine ⟨(e0.mod.nolimit.keeps fun b o e => (e0.bs b o e).1).keeps x.toInCall.keep, codeAny_func (wpAny_mono (ht.nox.run [] s1 (start N vs) H { nx := fun _ H' => Q .non H', rt := Q } I ?_) (fun fl s' hs => ?_) fun e s' hs => hs)⟩
    · have al : as.length = ps.length := len as PP hS
      refine ⟨entryG T P w F0 H vs as, F0, _, _, entry_ok ha al hpl, hq as PP hS, ?_⟩
      exact .mk4 (.mk (fun env' σ' F' H' p _ k' => hQ _ _ _ _ _ p (post_of k' (cels _ _ hS) .non)) (fun _ _ _ _ p => p.elim) (fun _ _ _ _ p => p.elim) (fun r env' v σ' F' H' p _ k' r' => hQ _ _ _ _ _ p (post_of k' (cels _ _ hS) r'))) rfl
    · have fin : ∀ {σ' : L2.St} {H' : Hp} {v : V} {u : Value}, Inv (cxOf CX0 P w K mg base N qual (defScope st) f cdv A outer s H E0) [] σ' H' s' → RelV v u → Q v H' → CE outer P w H s Q u s' :=
        fun {σ' H' v u} J r q => ⟨v, H', J.os, J.bare, J.base, J.hok, r, q⟩
      match fl, hs with
      | .ret u, ⟨v, σ', H', J, r, q⟩ => exact fin J r q
      | .next, ⟨σ', H', J, q⟩ => exact fin (v := V.non) (u := Value.none) J rfl q
      | .brk, ⟨_, _, _, q⟩ => exact q.elim
      | .cont, ⟨_, _, _, q⟩ => exact q.elim
end
end DL

namespace DL
variable {T : List (PySem.Addr × PySem.Str)} {Z : Zx T}
open PySem PySem.Spec PyProof.Rows L2
open Evl (Ex)
section
variable {X : Cx}
end
end DL

namespace DL
variable {T : List (PySem.Addr × PySem.Str)} {Z : Zx T}
open PySem PySem.Spec PyProof.Rows L2
open Evl (Ex)
section
variable {prog : Program} {w : World} {A : Around} {E : Value → Shared → Prop} {s : Shared}
end
section
variable {X : Cx} {es : List Expr} {pos : Pos}
end
end DL

namespace DL
variable {T : List (PySem.Addr × PySem.Str)} {Z : Zx T}
open PySem PySem.Spec PyProof.Rows L2
open Evl (Ex)

section
variable {M : Model} {A : Around} {E1 : Value → Shared → Prop} {s : Shared} {B : Heap} {env : Env} {outer : List Env} {L C a : Addr} {Zp : Obj → Prop} {Q : Unit → Shared → Prop}
end
section
variable {X : Cx} {pins : List (Addr × Obj)} {σ : L2.St} {H : Hp} {s : Shared}
end
section
variable {X : Cx} {elt tg iter : Expr} {ifs : List Expr} {scope : Scope} {own : List (Str × Nat)} {pos : Pos} {wi : DI} {t : CT} {c : DT} {we : DE} {m : Nat} {I S : Type} {dec : List SD → Option (I × S)} {emb : I → S → List SD} {qb : PyData → I → S → (I → S → Prop) → (PyData → I → S → Prop) → Prop}
end
section
variable {P : Program} {w : World} {K : PySem.W.Frag} {mg : Str → Option Value} {base : Heap}
end
end DL

namespace DL
open PySem PySem.Spec PyProof.Rows L2
section
variable {P : Program} {w : World} {κ : Type} [DecidableEq κ] {kd : KeyKind P w κ}
section
variable {A : Around} {E : Value → Shared → Prop} {s : Shared}
end
abbrev hashT (kd : KeyKind P w κ) (p : Addr × List κ) : Int := tupleKeyHash kd p.2
def rowT (kd : KeyKind P w κ) (p : Addr × List κ) : Int × Value := (hashT kd p, .ref p.1)
/-- a set of tuples: each by its place and its parts -/
structure TSet (kd : KeyKind P w κ) (h : Heap) (a : Addr) (L : List (Addr × List κ)) (es : Array (Int × Value)) (ep : Nat) (t : SetTable) : Prop where
  ob : ∃ o, h.get? a = some o ∧ o.ExactSet ∧ o.data = .set es ep t
  ent : es.toList = L.map (rowT kd)
  tab : TabOk t (L.map (hashT kd))
  once : (L.map (·.2)).Nodup
  tup : ∀ p ∈ L, IsTupleKey kd h p.2 p.1
  led : w.params.followText "set-order" = true ∨ t.led = true
  room : L.length * 5 < t.mask * 3
  few : L.length < 64
section
variable {A : Around} {E : Value → Shared → Prop} {s : Shared} {a : Addr} {L : List (Addr × List κ)} {es : Array (Int × Value)} {ep : Nat} {t : SetTable}
theorem ent_size (e : es.toList = L.map (rowT kd)) : es.size = L.length := by
  rw [← Array.length_toList, e, List.length_map]
theorem tab_fits {t : SetTable} {hs : List Int} {n : Nat} (T : t.dummies = #[]) (h1 : t.place.size = n) (h2 : n ≤ t.mask) : t.fits n = true := by
  unfold SetTable.fits SetTable.fill
  rw [T, h1]
  simp only [beq_self_eq_true, Bool.true_and, decide_eq_true_eq]
  exact h2
theorem TSet.fits (R : TSet kd s.heap a L es ep t) : t.fits es.size = true := by
  have z1 := R.tab.sz
  have z2 := R.room
  rw [List.length_map] at z1
  rw [ent_size R.ent]
  exact tab_fits (hs := []) R.tab.dm z1 (by omega)
theorem TSet.place (R : TSet kd s.heap a L es ep t) : t.place.toList.length = L.length := by
  have z := R.tab.sz
  rw [List.length_map] at z
  rw [Array.length_toList, z]
end
/-- each once -/
def d1 {α : Type} [DecidableEq α] (acc : List α) (k : α) : List α := if k ∈ acc then acc else k :: acc
section
variable {A : Around} {E : Value → Shared → Prop} {s : Shared}
end
end
section
variable {X : Cx} {T : List (PySem.Addr × PySem.Str)} {Z : Zx T}
variable {a : Expr} {wa : DE} {pos p p2 pos2 : Pos}
end
end DL

namespace DL
variable {T : List (PySem.Addr × PySem.Str)} {Z : Zx T}
open PySem PySem.Spec PyProof.Rows L2 PySem.W
open Evl (Ex)
section
variable {P : Program} {w : World} {A : Around} {E : Value → Shared → Prop} {s : Shared}
end
section
variable {X : Cx}
variable {a : Expr} {wa : DE} {p pos : Pos}
end
section
variable {X : Cx} {e e2 : Expr} {wi we : DE} {m : Nat} {pos : Pos}
end
end DL

namespace DL
variable {T : List (PySem.Addr × PySem.Str)} {Z : Zx T}
open PySem PySem.Spec PyProof.Rows L2 PySem.W
open Evl (Ex)
section
variable {P : Program} {w : World} {A : Around} {E : Value → Shared → Prop} {s : Shared} {a : Addr}
end
section
variable {X : Cx}
variable {a : Expr} {wa : DE} {p p2 pos pos2 : Pos}
end
end DL

namespace DL
variable {T : List (PySem.Addr × PySem.Str)} {Z : Zx T}
open PySem PySem.Spec PyProof.Rows L2 PySem.W
open Evl (Ex)
section
variable {X : Cx} {a b c : Expr} {was : DA} {m : Nat} {pos : Pos}
end
end DL

namespace DL
variable {T : List (PySem.Addr × PySem.Str)} {Z : Zx T}
open PySem PySem.Spec PyProof.Rows L2 PySem.W
open Evl (Ex)
inductive Kx where
  | it
  | ix (b : Kx) (i : Nat)
  | hd (b : Kx) (n : Nat)
  | two (a b : Kx)
def Kx.val : Kx → PyData → Option PyData
  | .it, d => some d
  | .ix b i, d => match b.val d with
    | some (.tuple ds) => ds[i]?
    | _ => none
  | .hd b n, d => match b.val d with
    | some (.tuple ds) => if ds.length ≤ 1000 then some (.tuple (ds.take n)) else none
    | _ => none
  | .two a b, d => match a.val d, b.val d with
    | some x, some y => some (.tuple [x, y])
    | _, _ => none
inductive KbE (x : Str) : Expr → Kx → Prop
  | it {p : Pos} : KbE x (.Name x p) .it
  | ix {e : Expr} {b : Kx} {i j : Nat} {p pos : Pos} : KbE x e b → i < 1000 → KbE x (.Subscript e (.Constant (.int (i : Int)) j p) pos) (.ix b i)
  | hd {e : Expr} {b : Kx} {n j : Nat} {p p2 pos : Pos} : KbE x e b → n < 1000 → KbE x (.Subscript e (.Slice none (some (.Constant (.int (n : Int)) j p)) none p2) pos) (.hd b n)
  | two {e f : Expr} {a b : Kx} {x1} {pos : Pos} : KbE x e a → KbE x f b → (∀ env, backTo pos (starEach [e, f] env) = [(false, eval e env), (false, eval f env)]) → KbE x (.Tuple [e, f] x1 pos) (.two a b)
/-- all is kept, the value reads as d -/
def KpR (d : PyData) (s : Shared) (v : Value) (s' : Shared) : Prop := ∃ h' tk, s' = { s with heap := h', toks := tk } ∧ (∀ b o, s.heap.get? b = some o → h'.get? b = some o) ∧ ∃ as, Reads h' v d as
theorem KpR.trans {d : PyData} {s s' s'' : Shared} {v : Value} (k : ∃ h' tk, s' = { s with heap := h', toks := tk } ∧ (∀ b o, s.heap.get? b = some o → h'.get? b = some o)) (r : KpR d s' v s'') : KpR d s v s'' := by
  obtain ⟨h', tk, rfl, k⟩ := k
  obtain ⟨h2, tk2, rfl, k2, r⟩ := r
  exact ⟨h2, tk2, rfl, fun b o e => k2 b o (k b o e), r⟩
theorem KpR.kp {d : PyData} {s s' : Shared} {v : Value} (r : KpR d s v s') : ∃ h' tk, s' = { s with heap := h', toks := tk } ∧ (∀ b o, s.heap.get? b = some o → h'.get? b = some o) := by
  obtain ⟨h2, tk2, rfl, k2, r⟩ := r
  exact ⟨h2, tk2, rfl, k2⟩
section
variable {P : Program} {w : World} {A : Around} {env : Env} {x : Str} {v : Value} {m : Str → Option Value}
end
end DL

namespace DL
variable {T : List (PySem.Addr × PySem.Str)} {Z : Zx T}
open PySem PySem.Spec PyProof.Rows L2 PySem.W
open Evl (Ex)
section
variable {X : Cx} {pins : List (Addr × Obj)} {σ : L2.St} {H : Hp} {s : Shared}
/-- what the making of a lambda does to the abstract heap -/
structure Grown (T : List (Addr × Str)) (H H1 : Hp) : Prop where
  sty : ∀ b o, H b = some o → Sty o (H1 b)
  tab : LamX.Tabs T H1
end
section
variable {K : PySem.W.Frag} {g : Gx Z} {F F' : Hp} {env : List SD} {σ : L2.St} {H H1 : Hp}
theorem Ok.grown (k : Ok K g F env σ H) (e : Grown T H H1) : Ok K g F env σ H1 where
  len := k.len
  fh := fun a o q => (e.sty a o (k.fh a o q)).same fun ps z => k.oldF.2 a ps (by rw [q, z])
  dat := k.dat
  cel := fun i p xs q => by
    obtain ⟨a, vs, h1, h2, h3, h4, h5⟩ := k.cel i p xs q
    exact ⟨a, vs, h1, h2, (e.sty _ _ h3).lst, h4, h5⟩
  sep := k.sep
  pin := k.pin
  frame := ⟨fun a o q n => (k.frame.stay a o q n).trans fun u hu => e.sty a u hu, e.tab⟩
  newF := k.newF
  oldF := k.oldF
  prot := fun a o q => by
    obtain ⟨h1, h2, h3⟩ := k.prot a o q
    exact ⟨(e.sty _ _ h1).same (g.pl a o q), h2, h3⟩
  dic := k.dic.keep (Ex.refl F) (fun _ _ _ z => z) fun a xs h n => ⟨n, (e.sty _ _ h).ext.trans h.symm⟩
theorem ResOk.grown {v : V} {r : SD} (k : Ok K g F env σ H) (e : Grown T H H1) (h : ResOk K g F env σ H v r) : ResOk K g F env σ H1 v r := by
  cases r with
  | un => exact h
  | dat d => exact h
  | dic kvs => exact h
  | cel b xs =>
    obtain ⟨a, us, h1, h2, h3, h4, h5, h6⟩ := h
    exact ⟨a, us, h1, h2, (e.sty _ _ h3).lst, h4, h5, h6⟩
end
end DL

namespace DL
variable {T : List (PySem.Addr × PySem.Str)} {Z : Zx T}
open PySem PySem.Spec PyProof.Rows L2 PySem.W
open Evl (Ex)
/-- the scope of a lambda of the one parameter x -/
structure LamK (scope : Scope) (x : Str) : Prop where
  kind : scope.kind = .function
  co : scope.isCoroutine = false
  gen : scope.isGenerator = false
  loc : scope.names.lookup x = some .local
  nocell : ∀ y ∈ scope.names, y.2 ≠ .cell
section
variable {P : Program} {w : World} {A : Around} {s : Shared}
end
section
variable {prog : Program} {w : World} {A : Around} {E : Value → Shared → Prop} {s : Shared}
end
end DL

namespace DL
variable {T : List (PySem.Addr × PySem.Str)} {Z : Zx T}
open PySem PySem.Spec PyProof.Rows L2 PySem.W
open Evl (Ex)
def keyOf (kb : Kx) (d : PyData) : PyData := (kb.val d).getD .none
section
variable {X : Cx} {pins : List (Addr × Obj)} {σ : L2.St} {H : Hp} {s : Shared}
end
section
variable {X : Cx} {a : Expr} {wa : DE} {p pos lpos kpos : Pos} {params : Arguments} {body : Expr} {scope : Scope} {x : Str}
end
end DL

namespace DL
variable {T : List (PySem.Addr × PySem.Str)} {Z : Zx T}
open PySem PySem.Spec PyProof.Rows L2
open Evl (Ex)
/-- the defs that make lambdas, with the lambda's qualified name -/
class LamB (K : PySem.W.Frag) (base : Heap) (mg : Str → Option Value) (T : List (Addr × Str)) (lam : List (Str × Str)) : Prop where
  out : ∀ p ∈ lam, ∃ c P, PySem.W.tabIn K p.1 = some (c, P) ∧ LamX.TabB base mg c P ∧ (P, p.2) ∈ T
  uni : ∀ p ∈ T, ∀ q ∈ T, p.1 = q.1 → p.2 = q.2
section
variable {P : Program} {w : World} {K : PySem.W.Frag} {mg : Str → Option Value} {base : Heap}
end
end DL

namespace DL
variable {T : List (PySem.Addr × PySem.Str)} {Z : Zx T}
open PySem PySem.Spec PyProof.Rows L2
open Evl (Ex)
def tabsOf (K : PySem.W.Frag) (lam : List (Str × Str)) : List (Addr × Str) := lam.filterMap fun p => (PySem.W.tabIn K p.1).map fun z => (z.2, p.2)
def LamSays (lam : List (Str × Str)) (K : PySem.W.Frag) (h : Heap) : Prop :=
  (∀ p ∈ lam, ∃ c P, PySem.W.tabIn K p.1 = some (c, P) ∧ PySem.W.CodeHd h c P ∧ h.get? P = some { cls := .none, data := .fields #[] } ∧ K.lookup P = none) ∧ ∀ p ∈ tabsOf K lam, ∀ q ∈ tabsOf K lam, p.1 = q.1 → p.2 = q.2
theorem LamSays.keeps {lam : List (Str × Str)} {K : PySem.W.Frag} {h h' : Heap} (x : LamSays lam K h) (k : ∀ b o, h.get? b = some o → h'.get? b = some o) : LamSays lam K h' :=
  ⟨fun p hp => let ⟨c, P, h1, h2, h3, h4⟩ := x.1 p hp; ⟨c, P, h1, h2.keeps k, k _ _ h3, h4⟩, x.2⟩
section
variable {K : PySem.W.Frag} {lam : List (Str × Str)} {base h : Heap} {mg : Str → Option Value}
end
end DL

namespace DL
variable {T : List (PySem.Addr × PySem.Str)} {Z : Zx T}
open PySem PySem.Spec PyProof.Rows L2 PySem.W
open Evl (Ex)
abbrev KVM := List (PyData × PyData)
def isKy : PyData → Key → Bool
  | .int m, .inl n => decide (m = n)
  | .str x, .inr y => decide (x = y)
  | _, _ => false
theorem isKy_int {m n : Int} : isKy (.int m) (.inl n) = decide (m = n) := rfl
theorem isKy_str {x y : Str} : isKy (.str x) (.inr y) = decide (x = y) := rfl
def atM (ds : KVM) (k : Key) : Option PyData := (ds.find? fun p => isKy p.1 k).map (·.2)
def putM (ds : KVM) (k : Key) (d : PyData) : KVM := if (ds.any fun p => isKy p.1 k) = true then ds.map (fun p => if isKy p.1 k = true then (p.1, d) else p) else ds ++ [(keyD k, d)]
def mergeM : KVM → List (Key × PyData) → KVM
  | acc, [] => acc
  | acc, (k, d) :: r => mergeM (putM acc k d) r
section
variable {K : PySem.W.Frag} {F : Hp}
theorem isKy_i {n : Int} {k : Key} : isKy (.int n) k = decide ((Sum.inl n : Key) = k) := by
  cases k with
  | inl m =>
    rw [isKy_int]
    by_cases e : n = m
    · subst e; simp
    · rw [decide_eq_false e, decide_eq_false fun z => e (Sum.inl.inj z)]
  | inr y => rfl
theorem isKy_s {x : Str} {k : Key} : isKy (.str x) k = decide ((Sum.inr x : Key) = k) := by
  cases k with
  | inl m => rfl
  | inr y =>
    rw [isKy_str]
    by_cases e : x = y
    · subst e; simp
    · rw [decide_eq_false e, decide_eq_false fun z => e (Sum.inr.inj z)]
theorem DM.any (k : Key) : ∀ {vs : List (Key × V)} {ds : KVM}, DM K F vs ds → (vs.any fun kv => decide (kv.1 = k)) = ds.any fun p => isKy p.1 k
  | _, _, .nil => rfl
  | _, _, .int (n := n) _ b => by rw [List.any_cons, List.any_cons, DM.any k b, isKy_i]
  | _, _, .str (x := x) _ b => by rw [List.any_cons, List.any_cons, DM.any k b, isKy_s]
theorem DM.val (k : Key) : ∀ {vs : List (Key × V)} {ds : KVM}, DM K F vs ds → (atM ds k = none ∧ valV vs k = none) ∨ ∃ d v, atM ds k = some d ∧ valV vs k = some v ∧ DR K F v d
  | _, _, .nil => .inl ⟨rfl, rfl⟩
  | _, _, .int (n := n) (v := v) (d := d) (vs := vs) (ds := ds) a b => by
    by_cases e : (Sum.inl n : Key) = k
    · exact .inr ⟨d, v, by simp [atM, List.find?_cons, isKy_i, e], by simp [valV, List.find?_cons, e], a⟩
    · have x : atM ((.int n, d) :: ds) k = atM ds k := by simp [atM, List.find?_cons, isKy_i, e]
      have y : valV ((.inl n, v) :: vs) k = valV vs k := by simp [valV, List.find?_cons, e]
      rw [x, y]
      exact DM.val k b
  | _, _, .str (x := x) (v := v) (d := d) (vs := vs) (ds := ds) a b => by
    by_cases e : (Sum.inr x : Key) = k
    · exact .inr ⟨d, v, by simp [atM, List.find?_cons, isKy_s, e], by simp [valV, List.find?_cons, e], a⟩
    · have y1 : atM ((.str x, d) :: ds) k = atM ds k := by simp [atM, List.find?_cons, isKy_s, e]
      have y : valV ((.inr x, v) :: vs) k = valV vs k := by simp [valV, List.find?_cons, e]
      rw [y1, y]
      exact DM.val k b
theorem DM.snoc {k : Key} {v : V} {d : PyData} (r : DR K F v d) : ∀ {vs : List (Key × V)} {ds : KVM}, DM K F vs ds → DM K F (vs ++ [(k, v)]) (ds ++ [(keyD k, d)])
  | _, _, .nil => by cases k with
    | inl n => exact .int r .nil
    | inr x => exact .str r .nil
  | _, _, .int a b => .int a (DM.snoc r b)
  | _, _, .str a b => .str a (DM.snoc r b)
theorem DM.repl {k : Key} {v : V} {d : PyData} (r : DR K F v d) : ∀ {vs : List (Key × V)} {ds : KVM}, DM K F vs ds → DM K F (vs.map fun kv => if kv.1 = k then (kv.1, v) else kv) (ds.map fun p => if isKy p.1 k = true then (p.1, d) else p)
  | _, _, .nil => .nil
  | _, _, .int (n := n) a b => by
    rw [List.map_cons, List.map_cons]
    by_cases e : (Sum.inl n : Key) = k
    · rw [if_pos e, if_pos (by rw [isKy_i]; exact decide_eq_true e)]
      exact .int r (DM.repl r b)
    · rw [if_neg e, if_neg (by rw [isKy_i, decide_eq_false e]; simp)]
      exact .int a (DM.repl r b)
  | _, _, .str (x := x) a b => by
    rw [List.map_cons, List.map_cons]
    by_cases e : (Sum.inr x : Key) = k
    · rw [if_pos e, if_pos (by rw [isKy_s]; exact decide_eq_true e)]
      exact .str r (DM.repl r b)
    · rw [if_neg e, if_neg (by rw [isKy_s, decide_eq_false e]; simp)]
      exact .str a (DM.repl r b)
theorem DM.put {vs : List (Key × V)} {ds : KVM} (h : DM K F vs ds) (k : Key) {v : V} {d : PyData} (r : DR K F v d) : DM K F (putK vs k v) (putM ds k d) := by
  unfold putK putM
  rw [h.any k]
  split
  · exact h.repl r
  · exact h.snoc r
theorem DM.keys : ∀ {vs : List (Key × V)} {ds : KVM}, DM K F vs ds → DRs K F (vs.map fun p => kV p.1) (ds.map (·.1))
  | _, _, .nil => .nil
  | _, _, .int _ b => .cons (.int _) (DM.keys b)
  | _, _, .str _ b => .cons (.str _) (DM.keys b)
theorem DM.vals : ∀ {vs : List (Key × V)} {ds : KVM}, DM K F vs ds → DRs K F (vs.map (·.2)) (ds.map (·.2))
  | _, _, .nil => .nil
  | _, _, .int a b => .cons a (DM.vals b)
  | _, _, .str a b => .cons a (DM.vals b)
theorem DM.merge {ps : List (Key × PyData)} {us : List (Key × V)} (t : Paired (fun (p : Key × PyData) (u : Key × V) => p.1 = u.1 ∧ DR K F u.2 p.2) ps us) : ∀ {vs : List (Key × V)} {ds : KVM}, DM K F vs ds → DM K F (mergeK vs us) (mergeM ds ps) := by
  induction t with
  | nil => exact fun h => h
  | @cons p u ps us h t ih =>
    intro vs ds h2
    obtain ⟨k, d⟩ := p
    obtain ⟨k2, v⟩ := u
    obtain ⟨e, r⟩ := h
    dsimp only at e r
    subst e
    exact ih (h2.put k r)
end
/-- it is a dict: no row, no refusal -/
def isMap : KVM → Bool
  | (.none, _) :: _ => false
  | _ => true
theorem DR.inv_map {K : PySem.W.Frag} {F : Hp} {v : V} {ds : KVM} (h : DR K F v (.dict ds)) (hk : isMap ds = true) : ∃ a o vs, v = .ref a ∧ F a = some (.frz o (.dK vs)) ∧ DM K F vs ds := by
  cases h with
  | dct a b => exact ⟨_, _, _, rfl, a, b⟩
  | row _ _ => cases hk
  | exc _ _ => cases hk
def keyQ (y : PyData) (K : Key → Prop) : Prop := match kyOf y with
  | some k => K k
  | none => False
theorem keyQ_inv {y : PyData} {K : Key → Prop} (h : keyQ y K) : ∃ k, kyOf y = some k ∧ K k := by
  unfold keyQ at h
  split at h
  · exact ⟨_, ‹_›, h⟩
  · exact h.elim
def pickM (ds : KVM) (k : Key) (P : PyData → Prop) : Prop := match atM ds k with
  | some d => P d
  | none => False
theorem pickM_inv {ds : KVM} {k : Key} {P : PyData → Prop} (h : pickM ds k P) : ∃ d, atM ds k = some d ∧ P d := by
  unfold pickM at h
  split at h
  · exact ⟨_, ‹_›, h⟩
  · exact h.elim
def oIxM (x y : PyData) (P : PyData → Prop) : Prop := match x with
  | .dict ds => isMap ds = true ∧ keyQ y fun k => pickM ds k P
  | x => oIx x y P
section
variable {X : Cx} {K : PySem.W.Frag}
def rIxK : R2 := fun x y H Q => ∃ a v, x = .ref a ∧ DGet H a y (some v) ∧ Q v H
theorem ix_dK (hu : X.A.units + 1 < cLine) : IxR X rIxK := by
  intro value slice pins s σ H x y v u Q I rx ry h hs
  obtain ⟨a, r, rfl, g, q⟩ := h
  obtain rfl : v = Value.ref a := rx
  exact tail_any (dict_typeIs I g) PySem.F.slot_dict_getitem.lookup (d_getItem hu I g ry fun w' s' I' rw' => ⟨r, H, I', rw', q⟩) hs
theorem opd_ixM : OpD K (fun x y H Q => rIx K x y H Q ∨ rIxK x y H Q) oIxM := by
  intro T0 Z0 g F env σ H vx vy dx dy P Q k rx ry p q
  unfold oIxM at p
  split at p
  · rename_i ds
    obtain ⟨hm, p⟩ := p
    obtain ⟨kk, ek, p⟩ := keyQ_inv p
    obtain ⟨d, ed, p⟩ := pickM_inv p
    obtain ⟨a, o, vs, rfl, h1, h2⟩ := rx.inv_map hm
    obtain rfl := ky_val ek ry
    rcases h2.val kk with ⟨z, _⟩ | ⟨d', v, z1, z2, z3⟩
    · rw [ed] at z; cases z
    · rw [ed] at z1
      cases z1
      exact .inr ⟨a, v, rfl, .inl ⟨vs, kk, .inr ⟨o, k.fh _ _ h1⟩, rfl, z2.symm⟩, q _ _ F H p (Ex.refl F) k z3⟩
  · exact .inl (opd_ix T0 Z0 g F env σ H vx vy dx dy P Q k rx ry p q)
end
section
variable {X : Cx} {a b e : Expr} {es : List Expr} {wa wb we : DE} {was : DA} {pos p : Pos}
theorem dixM {k0 : Nat} (hr : Room k0 X.A) (ha : PE X a (liftE X.K Z wa)) (hb : PE X b (liftE X.K Z wb)) (hs : PlainIx b := by intro _ _; rfl) : PE X (.Subscript a b pos) (liftE X.K Z (dOp oIxM wa wb)) := dix (ixr_or ixr (ix_dK (by have := hr.u65; omega))) opd_ixM ha hb hs
end
def oInM (n : Bool) (x y : PyData) (P : PyData → Prop) : Prop := match y with
  | .dict ds => isMap ds = true ∧ keyQ x fun k => P (.bool ((atM ds k).isSome != n))
  | y => oMem n x y P
def rInK (n : Bool) : R2 := fun x y H Q => ∃ a o, y = .ref a ∧ DGet H a x o ∧ Q (.bl (o.isSome != n)) H
section
variable {X : Cx} {a b e : Expr} {es : List Expr} {wa wb we : DE} {was : DA} {pos p : Pos} {K : PySem.W.Frag}
theorem op_ninK (hu : X.A.units + 1 < cLine) : OpR X (compareOp .NotIn) (rInK true) := by
  intro pins s σ H x y v u Q I rx ry h
  obtain ⟨a, o, rfl, g, q⟩ := h
  obtain rfl : u = Value.ref a := ry
  refine d_notIn hu I g rx fun s3 I3 => ⟨.bl (!o.isSome), H, I3, rfl, ?_⟩
  rwa [show ∀ b : Bool, (b != true) = !b by decide] at q
theorem inK_of {n : Bool} {g : Gx Z} {F : Hp} {env : List SD} {σ : L2.St} {H : Hp} {vx vy : V} {dx : PyData} {ds : KVM} {P : PyData → Prop} {Q : VK} (k : Ok K g F env σ H) (rx : DR K F vx dx) (ry : DR K F vy (.dict ds)) (p : isMap ds = true ∧ keyQ dx fun k => P (.bool ((atM ds k).isSome != n)))
    (q : ∀ b : Bool, P (.bool b) → Q (.bl b) H) : rInK n vx vy H Q := by
  obtain ⟨hm, p⟩ := p
  obtain ⟨kk, ek, p⟩ := keyQ_inv p
  obtain ⟨a, o, vs, rfl, h1, h2⟩ := ry.inv_map hm
  obtain rfl := ky_val ek rx
  refine ⟨a, valV vs kk, rfl, .inl ⟨vs, kk, .inr ⟨o, k.fh _ _ h1⟩, rfl, rfl⟩, q _ ?_⟩
  rcases h2.val kk with ⟨z1, z2⟩ | ⟨d', v, z1, z2, z3⟩
  · rw [z1] at p; rw [z2]; exact p
  · rw [z1] at p; rw [z2]; exact p
theorem opd_ninM : OpD K (fun x y H Q => rNinA K x y H Q ∨ rInK true x y H Q) (oInM true) := by
  intro T0 Z0 g F env σ H vx vy dx dy P Q k rx ry p q
  unfold oInM at p
  split at p
  · exact .inr (inK_of k rx ry p fun b pb => q _ _ F H pb (Ex.refl F) k (.bl b))
  · exact .inl (opd_nin T0 Z0 g F env σ H vx vy dx dy P Q k rx ry p q)
theorem tninM {k : Nat} (hr : Room k X.A) (ha : PE X a (liftE X.K Z wa)) (hb : PE X b (liftE X.K Z wb)) (hm : behindInMarks .NotIn b = false := by rfl) : PT X (.Compare a [.NotIn] [b] pos) (liftT X.K Z (dTest (dOp (oInM true) wa wb))) := dcmpT (OpR.or (op_ninA hr.u65) (op_ninK (by have := hr.u65; omega))) opd_ninM ha hb hm
end
end DL

namespace DL
variable {T : List (PySem.Addr × PySem.Str)} {Z : Zx T}
open PySem PySem.Spec PyProof.Rows L2 PySem.W
open Evl (Ex)
section
variable {X : Cx} {o e f : Expr} {es : List Expr} {wo we wf : DE} {was : DA} {apos cpos pos p : Pos} {K : PySem.W.Frag}
/-- a list's, a tuple's items, a text's signs, a dict's keys -/
def itemsM (d : PyData) (K : List PyData → Prop) : Prop := match d with
  | .dict ds => isMap ds = true ∧ At (ds.map (·.1)) K
  | d => itemsQ d K
end
end DL

namespace DL
variable {T : List (PySem.Addr × PySem.Str)} {Z : Zx T}
open PySem PySem.Spec PyProof.Rows L2 PySem.W
open Evl (Ex)
theorem codeO_kk {P : Program} {w : World} {a : Addr} {vs : List (Key × V)} {q : Str} : KkE P w a vs ≠ LamX.CodeO a q := fun z => by
  unfold KkE LamX.CodeO at z
  injection z with z
  have e : (({ objs := Array.replicate a { cls := .none, data := .plain } } : Heap).push { cls := .none, data := .fields #[.none, .str q 0] }).get? a = some { cls := .none, data := .fields #[.none, .str q 0] } := by
    have := Heap.get?_push_size { objs := Array.replicate a { cls := .none, data := .plain } } (o := { cls := .none, data := .fields #[.none, .str q 0] }) rfl
    simpa using this
  have y := (congrFun z (({ objs := Array.replicate a { cls := .none, data := .plain } } : Heap).push { cls := .none, data := .fields #[.none, .str q 0] })).mpr ⟨_, _, 0, e, rfl, rfl⟩
  obtain ⟨_, _, us, _, o, es, ep, e1, _, e2, _⟩ := y
  rw [e] at e1
  cases e1
  cases e2
theorem codeO_ls {a : Addr} {vs : List V} {q : Str} : LsE a vs ≠ LamX.CodeO a q := fun z => by
  unfold LsE LamX.CodeO at z
  injection z with z
  have e : (({ objs := Array.replicate a { cls := .none, data := .plain } } : Heap).push { cls := .none, data := .fields #[.none, .str q 0] }).get? a = some { cls := .none, data := .fields #[.none, .str q 0] } := by
    have := Heap.get?_push_size { objs := Array.replicate a { cls := .none, data := .plain } } (o := { cls := .none, data := .fields #[.none, .str q 0] }) rfl
    simpa using this
  have y := (congrFun z (({ objs := Array.replicate a { cls := .none, data := .plain } } : Heap).push { cls := .none, data := .fields #[.none, .str q 0] })).mpr ⟨_, _, 0, e, rfl, rfl⟩
  obtain ⟨_, its, n, _, e1⟩ := y
  rw [e] at e1
  cases e1
theorem kk_ok {P : Program} {w : World} {H H' : Hp} {h : Heap} {a : Addr} {vs : List (Key × V)} (x : ObjOk P w H h a (.dK vs)) : ObjOk P w H' h a (KkE P w a vs) := by
  obtain ⟨z1, z2, us, z3, z4⟩ := x
  refine ⟨⟨z1, z2, us, z3, z4⟩, ?_, fun h1 h2 ⟨y1, y2, ws, y3, y4⟩ k => ⟨y1, y2, ws, y3, y4.at k⟩⟩
  obtain ⟨o, es, ep, e, _⟩ := z4
  exact ⟨o, e⟩
theorem ls_ok {P : Program} {w : World} {H H' : Hp} {h : Heap} {a : Addr} {vs : List V} (x : ObjOk P w H h a (.lst vs)) : ObjOk P w H' h a (LsE a vs) := by
  obtain ⟨z1, its, n, z2, z3⟩ := x
  exact ⟨⟨z1, its, n, z2, z3⟩, ⟨_, z3⟩, fun h1 h2 ⟨y1, us, m, y2, y3⟩ k => ⟨y1, us, m, y2, k _ y3⟩⟩
/-- the own thing at x is told as it is; a dict is known -/
def ToldO (P : Program) (w : World) (od : Addr → Obj) (x : Addr) (o o' : HO) : Prop := (∃ vs, o = KkE P w x vs ∧ o' = .frz (od x) (.dK vs)) ∨ ∃ vs, o = LsE x vs ∧ o' = .lst vs
def RcO (P : Program) (w : World) (od : Addr → Obj) (H H' : Hp) : Prop := ∀ x, H' x = H x ∨ ∃ o o', H x = some o ∧ H' x = some o' ∧ ToldO P w od x o o'
section
variable {X : Cx} {pins : List (Addr × Obj)} {σ : L2.St} {H H' : Hp} {s : Shared} {od : Addr → Obj}
theorem RcO.none (r : RcO X.prog X.w od H H') {x : Addr} : H' x = Option.none ↔ H x = Option.none := by
  rcases r x with e | ⟨o, o', e1, e2, _⟩
  · rw [e]
  · rw [e1, e2]; simp
theorem RcO.own (r : RcO X.prog X.w od H H') {x : Addr} {o : HO} (n1 : ∀ φ, o ≠ .ext φ) (n2 : ∀ ob u, o ≠ .frz ob u) (n3 : ∀ vs, o ≠ .lst vs) : H' x = some o ↔ H x = some o := by
  rcases r x with e | ⟨p, p', e1, e2, t⟩
  · rw [e]
  · rw [e1, e2]
    rcases t with ⟨vs, rfl, rfl⟩ | ⟨vs, rfl, rfl⟩
    · exact ⟨fun z => absurd (Option.some.inj z).symm (n2 _ _), fun z => absurd (Option.some.inj z).symm (n1 _)⟩
    · exact ⟨fun z => absurd (Option.some.inj z).symm (n3 _), fun z => absurd (Option.some.inj z).symm (n1 _)⟩
theorem _root_.L2.Inv.told (I : Inv X pins σ H s) (r : RcO X.prog X.w od H H') (ho : ∀ x ob, s.heap.get? x = some ob → od x = ob) : Inv X pins σ H' s where
  ok := I.ok
  os := I.os
  bare := I.bare
  base := ⟨I.base.keep, I.base.slot, fun b o e1 e2 e3 => r.none.mpr (I.base.free b o e1 e2 e3), I.base.there, fun b xs e => (r.own (fun _ z => by cases z) (fun _ _ z => by cases z) (fun _ z => by cases z)).mpr (I.base.tups b xs e),
    (fun b o u e => by
      have z := I.base.frzs b o u e
      rcases r b with y | ⟨p, p', e1, e2, t⟩
      · rw [y]; exact z
      · rw [z] at e1
        cases e1
        rcases t with ⟨vs, t, _⟩ | ⟨vs, t, _⟩ <;> cases t),
    fun b ps e => by
      obtain ⟨more, z⟩ := I.base.tbls b ps e
      exact ⟨more, (r.own (fun _ z => by cases z) (fun _ _ z => by cases z) (fun _ z => by cases z)).mpr z⟩⟩
  loc := I.loc
  cell := I.cell
  free := r.none.mpr I.free
  freeC := fun x c e => r.none.mpr (I.freeC x c e)
  pin := fun p hp => let ⟨z1, z2, z3⟩ := I.pin p hp; ⟨z1, r.none.mpr z2, z3⟩
  hok := fun a o e => by
    rcases r a with y | ⟨p, p', e1, e2, t⟩
    · rw [y] at e
      exact (I.hok a o e).stay (fun _ _ _ q => q) (fun b q => (r.own (fun _ z => by cases z) (fun _ _ z => by cases z) (fun _ z => by cases z)).mpr q) fun b xs q => (r.own (fun _ z => by cases z) (fun _ _ z => by cases z) (fun _ z => by cases z)).mpr q
    · rw [e2] at e
      cases e
      have x := I.hok a _ e1
      rcases t with ⟨vs, rfl, rfl⟩ | ⟨vs, rfl, rfl⟩
      · obtain ⟨⟨z1, z2, us, z3, z4⟩, ⟨ob, eo⟩, _⟩ := x
        refine ⟨by rw [ho a ob eo]; exact eo, z1, z2, us, z3, z4⟩
      · exact x.1
  len := I.len
theorem _root_.L2.Inv.untold (I : Inv X pins σ H' s) (r : RcO X.prog X.w od H H') (nf : ∀ b o u, X.H_0 b = some (.frz o u) → H b = H' b) : Inv X pins σ H s where
  ok := I.ok
  os := I.os
  bare := I.bare
  base := ⟨I.base.keep, I.base.slot, fun b o e1 e2 e3 => r.none.mp (I.base.free b o e1 e2 e3), I.base.there, fun b xs e => (r.own (fun _ z => by cases z) (fun _ _ z => by cases z) (fun _ z => by cases z)).mp (I.base.tups b xs e),
    fun b o u e => by rw [nf b o u e]; exact I.base.frzs b o u e,
    fun b ps e => by
      obtain ⟨more, z⟩ := I.base.tbls b ps e
      exact ⟨more, (r.own (fun _ z => by cases z) (fun _ _ z => by cases z) (fun _ z => by cases z)).mp z⟩⟩
  loc := I.loc
  cell := I.cell
  free := r.none.mp I.free
  freeC := fun x c e => r.none.mp (I.freeC x c e)
  pin := fun p hp => let ⟨z1, z2, z3⟩ := I.pin p hp; ⟨z1, r.none.mp z2, z3⟩
  hok := fun a o e => by
    rcases r a with y | ⟨p, p', e1, e2, t⟩
    · rw [← y] at e
      exact (I.hok a o e).stay (fun _ _ _ q => q) (fun b q => (r.own (fun _ z => by cases z) (fun _ _ z => by cases z) (fun _ z => by cases z)).mp q) fun b xs q => (r.own (fun _ z => by cases z) (fun _ _ z => by cases z) (fun _ z => by cases z)).mp q
    · rw [e1] at e
      cases e
      have x := I.hok a _ e2
      rcases t with ⟨vs, rfl, rfl⟩ | ⟨vs, rfl, rfl⟩
      · exact kk_ok (H := H') x.2
      · exact ls_ok (H := H') x
  len := I.len
/-- an expression, one's own things told as what they are meanwhile -/
theorem PE.rc {e : Expr} {t : TE} (h : PE X e t) : PE X e (fun σ H Q => ∃ told : (Addr → Obj) → Hp, ∀ od, RcO X.prog X.w od H (told od) ∧ t σ (told od) fun v H1 => ∃ H2, RcO X.prog X.w od H2 H1 ∧ (∀ x, H2 x = H1 x ∨ ∃ φ, H x = some (.ext φ)) ∧ Q v H2) := ⟨fun pins s σ H Q I ⟨told, hw⟩ => by
  obtain ⟨r, w⟩ := hw fun x => (s.heap.get? x).getD { cls := .none, data := .plain }
  refine thn (h.run pins s σ _ _ (I.told r fun x ob e => by rw [e]; rfl) w) fun v s1 ⟨x, H1, I1, rv, H2, r2, nf, q⟩ => ⟨x, H2, I1.untold r2 fun b o u e => ?_, rv, q⟩
  rcases nf b with z | ⟨φ, z⟩
  · exact z
  · have := I.base.frzs b o u e
    rw [z] at this
    cases this⟩
theorem PT.rc {e : Expr} {t : TT} (h : PT X e t) : PT X e (fun σ H Q => ∃ told : (Addr → Obj) → Hp, ∀ od, RcO X.prog X.w od H (told od) ∧ t σ (told od) fun v H1 => ∃ H2, RcO X.prog X.w od H2 H1 ∧ (∀ x, H2 x = H1 x ∨ ∃ φ, H x = some (.ext φ)) ∧ Q v H2) := ⟨fun pins s σ H Q I ⟨told, hw⟩ => by
  obtain ⟨r, w⟩ := hw fun x => (s.heap.get? x).getD { cls := .none, data := .plain }
  refine thn (h.run pins s σ _ _ (I.told r fun x ob e => by rw [e]; rfl) w) fun v s1 ⟨H1, I1, H2, r2, nf, q⟩ => ⟨H2, I1.untold r2 fun b o u e => ?_, q⟩
  rcases nf b with z | ⟨φ, z⟩
  · exact z
  · have := I.base.frzs b o u e
    rw [z] at this
    cases this⟩
/-- statements, one's own things told from here on -/
theorem PSs.rc {sts : List Stmt} {t : TS} (h : PSs X sts t) : PSs X sts (fun D σ H => ∃ told : (Addr → Obj) → Hp, ∀ od, RcO X.prog X.w od H (told od) ∧ t D σ (told od)) := ⟨fun pins s σ H D I ⟨told, hw⟩ => by
  obtain ⟨r, w⟩ := hw fun x => (s.heap.get? x).getD { cls := .none, data := .plain }
  exact h.run pins s σ _ _ (I.told r fun x ob e => by rw [e]; rfl) w⟩
end
end DL

namespace DL
variable {T : List (PySem.Addr × PySem.Str)} {Z : Zx T}
open PySem PySem.Spec PyProof.Rows L2 PySem.W
open Evl (Ex)
section
variable {X : Cx} {pins : List (Addr × Obj)} {σ : L2.St} {H : Hp} {s : Shared} {a : Addr} {vs : List (Key × V)}
theorem _root_.L2.Inv.toK (I : Inv X pins σ H s) (e : H a = some (KkE X.prog X.w a vs)) : Inv X pins σ (upd H a (.dK vs)) s := by
  obtain ⟨⟨z1, z2, us, z3, z4⟩, he, _⟩ := I.hok a _ e
  exact d_write (t' := s.toks) I (by rw [e]; exact True.intro) ⟨rfl, fun _ _ => rfl⟩ he ⟨z1, z2, us, z3, z4⟩
theorem _root_.L2.Inv.ofK (I : Inv X pins σ H s) (e : H a = some (.dK vs)) : Inv X pins σ (upd H a (KkE X.prog X.w a vs)) s := by
  have x := I.hok a _ e
  have x2 : ObjOk X.prog X.w (upd H a (KkE X.prog X.w a vs)) s.heap a (KkE X.prog X.w a vs) := kk_ok (H := H) x
  exact d_write (t' := s.toks) I (by rw [e]; exact True.intro) ⟨rfl, fun _ _ => rfl⟩ x2.2.1 x2
end
section
variable {K : PySem.W.Frag} {g : Gx Z} {F : Hp} {env : List SD} {σ : L2.St} {H : Hp}
theorem Ok.kkAt (k : Ok K g F env σ H) {i : Nat} {ds : KVM} (he : env[i]? = some (.dic (.kk ds))) : ∃ a vs, σ[i]? = some (some (.ref a)) ∧ F a = none ∧ H a = some (KkE Z.P Z.w a vs) ∧ DM K F vs ds := by
  obtain ⟨B, db⟩ := k.dic
  obtain ⟨a, h1, h2⟩ := db.at_ i _ he
  obtain ⟨_, vs, h3, h4⟩ := h2.rel
  exact ⟨a, vs, h1, (h2.out a List.mem_cons_self).1, h3, h4⟩
theorem Ok.newKk (k : Ok K g F env σ H) {i : Nat} {p : Addr} {vs : List (Key × V)} {ds : KVM} (hp : H p = none) (np : NoPar env i) (m : DM K F vs ds) : Ok K g F (env.set i (.dic (.kk ds))) (σ.set i (some (.ref p))) (upd H p (KkE Z.P Z.w p vs)) :=
  k.newW hp np ⟨rfl, vs, upd_same, m⟩
theorem Ok.writeKk (k : Ok K g F env σ H) {i : Nat} {ds ds' : KVM} {a : Addr} {vs vs' : List (Key × V)} (he : env[i]? = some (.dic (.kk ds))) (hs : σ[i]? = some (some (.ref a))) (hH : H a = some (KkE Z.P Z.w a vs)) (r : DM K F vs' ds') :
    Ok K g F (env.set i (.dic (.kk ds'))) σ (upd H a (KkE Z.P Z.w a vs')) := by
  obtain ⟨B, db⟩ := k.dic
  obtain ⟨f1, f2, f3, _⟩ := db.there he hs List.mem_cons_self
  refine k.writeW db he hs List.mem_cons_self hH (fun q => codeO_kk) ⟨⟨rfl, vs', upd_same, r⟩, fun x hx => ?_⟩ (fun y hy => by simp at hy)
  rw [List.mem_singleton.mp hx]
  exact ⟨f1, f2, f3, _, upd_same⟩
/-- such a dict becomes a datum -/
theorem Ok.freezeKk (k : Ok K g F env σ H) {i : Nat} {ds : KVM} {a : Addr} {vs : List (Key × V)} (he : env[i]? = some (.dic (.kk ds))) (hs : σ[i]? = some (some (.ref a))) (hH : H a = some (KkE Z.P Z.w a vs)) (r : DM K F vs ds) (ob : Obj) :
    Ex F (upd F a (.frz ob (.dK vs))) ∧ Ok K g (upd F a (.frz ob (.dK vs))) (env.set i (.dat (.dict ds))) σ (upd H a (.frz ob (.dK vs))) := by
  obtain ⟨B, db⟩ := k.dic
  obtain ⟨f1, f2, f3, _⟩ := db.there he hs List.mem_cons_self
  have ex : Ex F (upd F a (.frz ob (.dK vs))) := Ex.new f1
  have ne : ∀ {b : Addr} {us : List V}, H b = some (.lst us) → b ≠ a := fun {b us} e z => by subst z; rw [hH] at e; cases e
  have back : ∀ {l : Nat} {z : Own}, (env.set i (.dat (.dict ds)))[l]? = some (.dic z) → i ≠ l ∧ env[l]? = some (.dic z) := fun {l z} e => by
    rcases get_set e with ⟨_, z⟩ | ⟨n, z⟩
    · cases z
    · exact ⟨n, z⟩
  refine ⟨ex, by simp [k.len], fun b u q => ?_, fun j e hj => ?_, fun j q us hj => ?_, fun j l q r us ws c z1 z2 z3 z4 => ?_, fun j b e => ?_, k.frame.putO hH (fun _ z => by cases z) (fun _ => codeO_kk) (fun o e _ => by rw [f2] at e; cases e), fun b u q => ?_, k.oldF.new f1 (fun _ z => by cases z), fun b u e => ?_, B, fun j w e => ?_, fun j l w1 w2 b c e1 e2 h1 h2 n => ?_⟩
  · by_cases z : b = a
    · subst z
      rw [upd_same] at q ⊢
      exact q
    · rw [upd_ne z] at q ⊢
      exact k.fh b u q
  · rcases get_set hj with ⟨rfl, q⟩ | ⟨n, q⟩
    · cases q
      exact ⟨_, hs, .dct upd_same (r.mono ex)⟩
    · obtain ⟨v, z1, z2⟩ := k.dat j e q
      exact ⟨v, z1, z2.mono ex⟩
  · rcases get_set hj with ⟨_, q⟩ | ⟨n, q⟩
    · cases q
    · obtain ⟨b, ws, z1, z2, z3, z4, z5⟩ := k.cel j _ us q
      exact ⟨b, ws, z1, by rw [upd_ne (ne z3)]; exact z2, by rw [upd_ne (ne z3)]; exact z3, z4.mono ex, z5⟩
  · rcases get_set z1 with ⟨_, e⟩ | ⟨n1, e1⟩
    · cases e
    rcases get_set z2 with ⟨_, e⟩ | ⟨n2, e2⟩
    · cases e
    exact k.sep j l q r us ws c e1 e2 z3 z4
  · obtain ⟨ys, q⟩ := k.pin j b e
    have n : i ≠ j := fun z => by subst z; rw [he] at q; cases q
    exact ⟨ys, by rw [set_ne n]; exact q⟩
  · by_cases z : b = a
    · subst z
      exact .inr f2
    · rw [upd_ne z] at q
      exact k.newF b u q
  · obtain ⟨z1, z2, z3⟩ := k.prot b u e
    have nb : b ≠ a := fun z => by subst z; rw [f3] at e; cases e
    refine ⟨by rw [upd_ne nb]; exact z1, by rw [upd_ne nb]; exact z2, fun j q us hj => ?_⟩
    rcases get_set hj with ⟨_, z⟩ | ⟨_, z⟩
    · cases z
    · exact z3 j q us z
  · obtain ⟨n, e⟩ := back e
    obtain ⟨b, z1, z2⟩ := db.at_ j w e
    have sep := db.sep j i w (.kk ds) b a e he z1 hs fun q => n q.symm
    have kp : ∀ y ∈ b :: B j, y ≠ a := fun y hy q => sep y hy (q ▸ List.mem_cons_self)
    refine ⟨b, z1, z2.rel.keep ex fun y hy => upd_ne (kp y hy), fun y hy => ?_⟩
    obtain ⟨y1, y2, y3, y4⟩ := z2.out y hy
    exact ⟨by rw [upd_ne (kp y hy)]; exact y1, y2, y3, by rw [upd_ne (kp y hy)]; exact y4⟩
  · exact db.sep j l w1 w2 b c (back e1).2 (back e2).2 h1 h2 n
end
section
variable {X : Cx} {e b : Expr} {es : List Expr} {we wb : DE} {was : DA} {m : Nat} {p pos : Pos} {sts : List Stmt}
theorem PE.toKk {e : Expr} {t : TE} (h : PE X e t) : PE X e (fun σ H Q => t σ H fun v H1 => ∃ a vs, v = .ref a ∧ H1 a = some (.dK vs) ∧ Q v (upd H1 a (KkE X.prog X.w a vs))) := ⟨fun pins s σ H Q I hw => by
  refine thn (h.run pins s σ H _ I hw) fun v s1 ⟨x, H1, I1, r, a, vs, ea, eu, q⟩ => ?_
  exact ⟨x, _, I1.ofK eu, r, q⟩⟩
/-- a new dict of pairs -/
def liftD (K : PySem.W.Frag) (Z : Zx T) (w : List SD → (KVM → List SD → Prop) → Prop) : TE := fun σ H Q => ∃ (g : Gx Z) (F : Hp) (env : List SD) (P : KVM → List SD → Prop), Ok K g F env σ H ∧ w env P ∧
  ∀ ds env' p vs F' H', P ds env' → Ex F F' → Ok K g F' env' σ H' → H' p = none → DM K F' vs ds → Q (.ref p) (upd H' p (.dK vs))
/-- .. as a datum -/
abbrev dDictE (w : List SD → (KVM → List SD → Prop) → Prop) (env : List SD) (P : PyData → List SD → Prop) : Prop := w env fun ds env1 => P (.dict ds) env1
theorem ddat {w : List SD → (KVM → List SD → Prop) → Prop} (h : PE X e (liftD X.K Z w)) : PE X e (liftE X.K Z (dDictE w)) := PE.of (PE.known h) fun σ H Q ⟨g, F, env, P, k, w, q⟩ =>
  ⟨g, F, env, _, k, w, fun ds env1 p vs F1 H1 p1 e1 k1 hp m => ⟨p, .dK vs, rfl, upd_same, True.intro, fun od => by
    rw [upd_upd]
    have ex : Ex F1 (upd F1 p (.frz od (.dK vs))) := Ex.new (fnone k1.fh hp)
    exact q _ env1 _ _ _ p1 (e1.trans ex) (k1.alloc hp) (.dct upd_same (m.mono ex))⟩⟩
/-- .. as a name's own -/
abbrev dKSet (i : Nat) (w : List SD → (KVM → List SD → Prop) → Prop) (E : DEnds) (env : List SD) : Prop := w env fun ds env1 => bIf (noPar env1 i) (E.nx (env1.set i (.dic (.kk ds)))) False
theorem skset (i : Nat) {w : List SD → (KVM → List SD → Prop) → Prop} {x : Str} {pos' : Pos} (hN : X.N.Nodup) (hP : Z.P = X.prog) (hW : Z.w = X.w) (h : PE X e (liftD X.K Z w)) (hi : X.N[i]? = some x := by rfl) (hx : Loc X.env.scope x := by first | exact Or.inl rfl | exact Or.inr rfl) (hs : swapsWith e (some (.Name x pos')) pos.line X.env = pure false := by rfl)
    (hf : X.fn x = true ∨ X.env.scope.names.lookup x = some .local := by first | exact .inl rfl | exact .inr rfl) : PS X (.Assign [.Name x pos'] e pos) (liftS X.K Z m (dKSet i w)) := PS.of (ps_set hN hi hx (PE.toKk h) hs hf) fun D σ H ⟨g, F, env, P, k, w, q⟩ =>
  ⟨g, F, env, _, k, w, fun ds env1 p vs F1 H1 p1 e1 k1 hp m => ⟨p, vs, rfl, upd_same, by
    rw [upd_upd]
    obtain ⟨w1, w2⟩ := bIf_and p1
    refine q.nx _ _ F1 _ w2 e1 ?_
    have := k1.newKk hp (noPar_of w1) m
    rw [hP, hW] at this
    exact this⟩⟩
end
end DL

namespace DL
variable {T : List (PySem.Addr × PySem.Str)} {Z : Zx T}
open PySem PySem.Spec PyProof.Rows L2 PySem.W
open Evl (Ex)
/-- what the thing at x is told as -/
def TVal (K : PySem.W.Frag) (Z : Zx T) (F H : Hp) (env : List SD) (σ : L2.St) (B : Nat → List Addr) (x : Addr) (f : Obj → HO) : Prop :=
  (∃ (i : Nat) (ds : KVM) (vs : List (Key × V)), env[i]? = some (.dic (.kk ds)) ∧ σ[i]? = some (some (.ref x)) ∧ H x = some (KkE Z.P Z.w x vs) ∧ DM K F vs ds ∧ f = fun o => .frz o (.dK vs)) ∨
  (∃ (i : Nat) (rows : List (List PyData)), env[i]? = some (.dic (.mt rows)) ∧ σ[i]? = some (some (.ref x)) ∧ H x = some (LsE x ((B i).map .ref)) ∧ f = fun _ => .lst ((B i).map .ref)) ∨
  ∃ (i : Nat) (rows : List (List PyData)) (a : Addr) (j : Nat) (vs : List V) (row : List PyData), env[i]? = some (.dic (.mt rows)) ∧ σ[i]? = some (some (.ref a)) ∧ (B i)[j]? = some x ∧ rows[j]? = some row ∧ H x = some (LsE x vs) ∧ DRs K F vs row ∧ f = fun _ => .lst vs
theorem pairedG {α β : Type} {R : α → β → Prop} {xs : List α} {ys : List β} (h : Paired R xs ys) : ∀ {i : Nat} {x : α} {y : β}, xs[i]? = some x → ys[i]? = some y → R x y := by
  induction h with
  | nil => intro i x y e _; simp at e
  | cons r t ih =>
    intro i x y e1 e2
    cases i with
    | zero => simp at e1 e2; subst e1 e2; exact r
    | succ i => exact ih (i := i) (by simpa using e1) (by simpa using e2)
theorem nodupG {α : Type} {l : List α} (h : l.Nodup) {i j : Nat} {x : α} (e1 : l[i]? = some x) (e2 : l[j]? = some x) : i = j := by
  obtain ⟨h1, e1⟩ := List.getElem?_eq_some_iff.mp e1
  obtain ⟨h2, e2⟩ := List.getElem?_eq_some_iff.mp e2
  have pw := List.pairwise_iff_getElem.mp h
  rcases Nat.lt_trichotomy i j with z | z | z
  · exact absurd (e1.trans e2.symm) (pw i j h1 h2 z)
  · exact z
  · exact absurd (e2.trans e1.symm) (pw j i h2 h1 z)
section
variable {K : PySem.W.Frag} {g : Gx Z} {F : Hp} {env : List SD} {σ : L2.St} {H : Hp} {B : Nat → List Addr}
theorem TVal.out (db : DicsB K g F env σ H B) {x : Addr} {f : Obj → HO} (t : TVal K Z F H env σ B x f) : F x = none ∧ g.H0 x = none ∧ ∃ o, H x = some o ∧ (∃ φ, o = .ext φ) ∧ (∀ q, o ≠ LamX.CodeO x q) ∧ ∀ (od : Addr → Obj), ToldO Z.P Z.w od x o (f (od x)) := by
  rcases t with ⟨i, ds, vs, e1, e2, e3, e4, rfl⟩ | ⟨i, rows, e1, e2, e3, rfl⟩ | ⟨i, rows, a, j, vs, row, e1, e2, e3, e4, e5, e6, rfl⟩
  · obtain ⟨f1, f2, _⟩ := db.there e1 e2 List.mem_cons_self
    exact ⟨f1, f2, _, e3, ⟨_, rfl⟩, fun _ => codeO_kk, fun od => .inl ⟨vs, rfl, rfl⟩⟩
  · obtain ⟨f1, f2, _⟩ := db.there e1 e2 List.mem_cons_self
    exact ⟨f1, f2, _, e3, ⟨_, rfl⟩, fun _ => codeO_ls, fun od => .inr ⟨_, rfl, rfl⟩⟩
  · obtain ⟨f1, f2, _⟩ := db.there e1 e2 (List.mem_cons_of_mem _ (List.mem_of_getElem? e3))
    exact ⟨f1, f2, _, e5, ⟨_, rfl⟩, fun _ => codeO_ls, fun od => .inr ⟨_, rfl, rfl⟩⟩
/-- two places of one's own things are one slot's -/
theorem DicsB.one (db : DicsB K g F env σ H B) {i j : Nat} {w w' : Own} {a b x : Addr} (e1 : env[i]? = some (.dic w)) (e2 : env[j]? = some (.dic w')) (s1 : σ[i]? = some (some (.ref a))) (s2 : σ[j]? = some (some (.ref b))) (h1 : x ∈ a :: B i) (h2 : x ∈ b :: B j) : i = j := by
  by_cases n : i = j
  · exact n
  · exact absurd h2 (db.sep i j w w' a b e1 e2 s1 s2 n x h1)
theorem TVal.kk (db : DicsB K g F env σ H B) {i : Nat} {ds : KVM} {x : Addr} {f : Obj → HO} (t : TVal K Z F H env σ B x f) (e : env[i]? = some (.dic (.kk ds))) (s : σ[i]? = some (some (.ref x))) : ∃ vs, DM K F vs ds ∧ f = fun o => .frz o (.dK vs) := by
  rcases t with ⟨i', ds', vs, e1, e2, e3, e4, rfl⟩ | ⟨i', rows, e1, e2, e3, rfl⟩ | ⟨i', rows, a, j, vs, row, e1, e2, e3, e4, e5, e6, rfl⟩
  · have := db.one e e1 s e2 List.mem_cons_self List.mem_cons_self
    subst this
    rw [e] at e1
    cases e1
    exact ⟨vs, e4, rfl⟩
  · have := db.one e e1 s e2 List.mem_cons_self List.mem_cons_self
    subst this
    rw [e] at e1
    cases e1
  · have := db.one e e1 s e2 List.mem_cons_self (List.mem_cons_of_mem _ (List.mem_of_getElem? e3))
    subst this
    rw [e] at e1
    cases e1
theorem TVal.mt (db : DicsB K g F env σ H B) {i : Nat} {rows : List (List PyData)} {x : Addr} {f : Obj → HO} (t : TVal K Z F H env σ B x f) (e : env[i]? = some (.dic (.mt rows))) (s : σ[i]? = some (some (.ref x))) : f = fun _ => .lst ((B i).map .ref) := by
  rcases t with ⟨i', ds', vs, e1, e2, e3, e4, rfl⟩ | ⟨i', rows', e1, e2, e3, rfl⟩ | ⟨i', rows', a, j, vs, row, e1, e2, e3, e4, e5, e6, rfl⟩
  · have := db.one e e1 s e2 List.mem_cons_self List.mem_cons_self
    subst this
    rw [e] at e1
    cases e1
  · have := db.one e e1 s e2 List.mem_cons_self List.mem_cons_self
    subst this
    rfl
  · have := db.one e e1 s e2 List.mem_cons_self (List.mem_cons_of_mem _ (List.mem_of_getElem? e3))
    subst this
    obtain ⟨c, y1, y2⟩ := db.at_ i _ e
    rw [s] at y1
    cases y1
    exact absurd (List.mem_of_getElem? e3) (List.nodup_cons.mp y2.rel.1.2).1
theorem TVal.row (db : DicsB K g F env σ H B) {i j : Nat} {rows : List (List PyData)} {row : List PyData} {a x : Addr} {f : Obj → HO} (t : TVal K Z F H env σ B x f) (e : env[i]? = some (.dic (.mt rows))) (s : σ[i]? = some (some (.ref a))) (hx : (B i)[j]? = some x) (hr : rows[j]? = some row) : ∃ vs, DRs K F vs row ∧ f = fun _ => .lst vs := by
  have mx : x ∈ a :: B i := List.mem_cons_of_mem _ (List.mem_of_getElem? hx)
  obtain ⟨c, y1, y2⟩ := db.at_ i _ e
  rw [s] at y1
  cases y1
  have nd := List.nodup_cons.mp y2.rel.1.2
  rcases t with ⟨i', ds', vs, e1, e2, e3, e4, rfl⟩ | ⟨i', rows', e1, e2, e3, rfl⟩ | ⟨i', rows', a', j', vs, row', e1, e2, e3, e4, e5, e6, rfl⟩
  · have := db.one e e1 s e2 mx List.mem_cons_self
    subst this
    rw [e] at e1
    cases e1
  · have := db.one e e1 s e2 mx List.mem_cons_self
    subst this
    rw [s] at e2
    cases e2
    exact absurd (List.mem_of_getElem? hx) nd.1
  · have := db.one e e1 s e2 mx (List.mem_cons_of_mem _ (List.mem_of_getElem? e3))
    subst this
    rw [e] at e1
    cases e1
    have := nodupG nd.2 hx e3
    subst this
    rw [hr] at e4
    cases e4
    exact ⟨vs, e6, rfl⟩
theorem tabs_to {H H' : Hp} (t : LamX.Tabs T H) (h1 : ∀ x ps, H x = some (.tbl ps) → H' x = some (.tbl ps)) (h2 : ∀ x q, H x = some (LamX.CodeO x q) → H' x = some (LamX.CodeO x q)) : LamX.Tabs T H' := fun p hp => by
  obtain ⟨ps, a1, a2, a3⟩ := t p hp
  exact ⟨ps, h1 _ _ a1, a2, fun pos cv hc => let ⟨c, z1, z2⟩ := a3 pos cv hc; ⟨c, z1, h2 _ _ z2⟩⟩
end
section
variable {X : Cx} {e : Expr}
end
end DL

namespace DL
variable {T : List (PySem.Addr × PySem.Str)} {Z : Zx T}
open PySem PySem.Spec PyProof.Rows L2 PySem.W
open Evl (Ex)
section
variable {X : Cx} {pins : List (Addr × Obj)} {σ : L2.St} {H : Hp} {s : Shared} {a : Addr} {vs : List V}
end
section
variable {X : Cx} {e : Expr} {st : Stmt}
end
section
variable {K : PySem.W.Frag} {g : Gx Z} {F : Hp} {env : List SD} {σ : L2.St} {H : Hp}
theorem Paired.setR {α β : Type} {R : α → β → Prop} {xs : List α} {ys : List β} (h : Paired R xs ys) : ∀ {j : Nat} {y : β}, (∀ x, xs[j]? = some x → R x y) → Paired R xs (ys.set j y) := by
  induction h with
  | nil => intro j y _; exact .nil
  | cons r t ih =>
    intro j y hy
    cases j with
    | zero => exact .cons (hy _ rfl) t
    | succ j => exact .cons r (ih fun x hx => hy x (by simpa using hx))
end
end DL

namespace DL
variable {T : List (PySem.Addr × PySem.Str)} {Z : Zx T}
open PySem PySem.Spec PyProof.Rows L2 PySem.W
open Evl (Ex)
section
variable {X : Cx} {e b : Expr} {es : List Expr} {we wb : DE} {m : Nat} {p pos : Pos} {sts : List Stmt} {st : Stmt}
theorem _root_.DL.Ok.freezeMt {K : PySem.W.Frag} {g : Gx Z} {F : Hp} {env : List SD} {σ : L2.St} {H : Hp} (k : Ok K g F env σ H) {i : Nat} {rows : List (List PyData)} (he : env[i]? = some (.dic (.mt rows))) (P : Program) (w0 : World) :
    ∃ (H' F' : Hp), (∀ od, RcO P w0 od H H') ∧ Ex F F' ∧ Ok K g F' (env.set i (.dat (.list (rows.map .list)))) σ H' := by
  classical
  obtain ⟨B, db⟩ := k.dic
  obtain ⟨a, hs, oa⟩ := db.at_ i _ he
  obtain ⟨⟨h3, nd⟩, hpr⟩ := oa.rel
  have nd1 := List.nodup_cons.mp nd
  -- what stands at each place
  have cont : ∀ x ∈ a :: B i, ∃ vs, H x = some (LsE x vs) ∧ (x = a → vs = (B i).map .ref) ∧ ∀ (j : Nat) (row : List PyData), (B i)[j]? = some x → rows[j]? = some row → DRs K F vs row := fun x hx => by
    rcases List.mem_cons.mp hx with rfl | hx
    · exact ⟨_, h3, fun _ => rfl, fun j row e _ => absurd (List.mem_of_getElem? e) nd1.1⟩
    · obtain ⟨j, hj⟩ := List.getElem?_of_mem hx
      have hjl : j < rows.length := by rw [← Paired.length hpr]; exact (List.getElem?_eq_some_iff.mp hj).1
      obtain ⟨us, z1, z2⟩ := pairedG hpr hj (List.getElem?_eq_getElem hjl)
      refine ⟨us, z1, fun z => absurd (z ▸ hx) nd1.1, fun j2 row e1 e2 => ?_⟩
      have := nodupG nd1.2 hj e1
      subst this
      rw [List.getElem?_eq_getElem hjl] at e2
      cases e2
      exact z2
  let c : Addr → List V := fun x => if h : x ∈ a :: B i then Classical.choose (cont x h) else []
  have cs : ∀ {x : Addr} (h : x ∈ a :: B i), H x = some (LsE x (c x)) ∧ (x = a → c x = (B i).map .ref) ∧ ∀ (j : Nat) (row : List PyData), (B i)[j]? = some x → rows[j]? = some row → DRs K F (c x) row := fun {x} h => by
    have e : c x = Classical.choose (cont x h) := dif_pos h
    rw [e]
    exact Classical.choose_spec (cont x h)
  let H' : Hp := fun x => if x ∈ a :: B i then some (.lst (c x)) else H x
  let F' : Hp := fun x => if x ∈ a :: B i then some (.lst (c x)) else F x
  have Hy : ∀ {x : Addr}, x ∈ a :: B i → H' x = some (.lst (c x)) := fun h => if_pos h
  have Hn : ∀ {x : Addr}, x ∉ a :: B i → H' x = H x := fun h => if_neg h
  have Fy : ∀ {x : Addr}, x ∈ a :: B i → F' x = some (.lst (c x)) := fun h => if_pos h
  have Fn : ∀ {x : Addr}, x ∉ a :: B i → F' x = F x := fun h => if_neg h
  have ex : Ex F F' := fun x o e => by
    rw [Fn fun h => by
      have := (oa.out x h).1
      rw [e] at this
      cases this]
    exact e
  have nl : ∀ {x : Addr} {vs : List V}, H x = some (.lst vs) → x ∉ a :: B i := fun {x vs} e h => by
    rw [(cs h).1] at e
    cases e
  have back : ∀ {l : Nat} {z : Own}, (env.set i (.dat (.list (rows.map .list))))[l]? = some (.dic z) → i ≠ l ∧ env[l]? = some (.dic z) := fun {l z} e => by
    rcases get_set e with ⟨_, z⟩ | ⟨n, z⟩
    · cases z
    · exact ⟨n, z⟩
  refine ⟨H', F', fun od x => ?_, ex, by simp [k.len], fun b u q => ?_, fun j e hj => ?_, fun j q us hj => ?_, fun j l q r us ws c z1 z2 z3 z4 => ?_, fun j b e => ?_, ⟨fun b o e n => ?_, tabs_to k.frame.tab (fun x ps e => ?_) fun x q e => ?_⟩, fun b u q => ?_, ⟨k.oldF.1.trans ex, fun b ps e => ?_⟩, fun b u e => ?_, B, fun j w e => ?_, fun j l w1 w2 b c e1 e2 h1 h2 n => ?_⟩
  · by_cases h : x ∈ a :: B i
    · exact .inr ⟨_, _, (cs h).1, Hy h, .inr ⟨_, rfl, rfl⟩⟩
    · exact .inl (Hn h)
  · by_cases h : b ∈ a :: B i
    · rw [Fy h] at q
      rw [Hy h]
      exact q
    · rw [Fn h] at q
      rw [Hn h]
      exact k.fh b u q
  · rcases get_set hj with ⟨rfl, q⟩ | ⟨n, q⟩
    · cases q
      refine ⟨_, hs, .lst (RdL.of (by rw [Fy List.mem_cons_self, (cs List.mem_cons_self).2.1 rfl])) ?_⟩
      have all : ∀ (n : Nat) (bs : List Addr) (rs : List (List PyData)), bs.length = rs.length → (∀ j b, bs[j]? = some b → (B i)[n + j]? = some b) → (∀ j r, rs[j]? = some r → rows[n + j]? = some r) → DRs K F' (bs.map V.ref) (rs.map PyData.list) := fun n bs => by
        induction bs generalizing n with
        | nil =>
          intro rs hl _ _
          cases rs with
          | nil => exact .nil
          | cons _ _ => simp at hl
        | cons b bs ih =>
          intro rs hl hb hr
          cases rs with
          | nil => simp at hl
          | cons r rs =>
            have b0 := hb 0 b rfl
            have r0 := hr 0 r rfl
            have mb : b ∈ a :: B i := List.mem_cons_of_mem _ (List.mem_of_getElem? b0)
            refine .cons (.lst (RdL.of (Fy mb)) (((cs mb).2.2 _ _ b0 r0).mono ex)) (ih (n + 1) rs (by simpa using hl) (fun j c hj => ?_) fun j c hj => ?_)
            · have := hb (j + 1) c (by simpa using hj)
              rwa [show n + (j + 1) = n + 1 + j by omega] at this
            · have := hr (j + 1) c (by simpa using hj)
              rwa [show n + (j + 1) = n + 1 + j by omega] at this
      exact all 0 (B i) rows (Paired.length hpr) (fun j b hj => by simpa using hj) fun j r hj => by simpa using hj
    · obtain ⟨v, z1, z2⟩ := k.dat j e q
      exact ⟨v, z1, z2.mono ex⟩
  · rcases get_set hj with ⟨_, q⟩ | ⟨n, q⟩
    · cases q
    · obtain ⟨b, ws, z1, z2, z3, z4, z5⟩ := k.cel j _ us q
      exact ⟨b, ws, z1, by rw [Fn (nl z3)]; exact z2, by rw [Hn (nl z3)]; exact z3, z4.mono ex, z5⟩
  · rcases get_set z1 with ⟨_, e⟩ | ⟨n1, e1⟩
    · cases e
    rcases get_set z2 with ⟨_, e⟩ | ⟨n2, e2⟩
    · cases e
    exact k.sep j l q r us ws c e1 e2 z3 z4
  · obtain ⟨ys, q⟩ := k.pin j b e
    have n : i ≠ j := fun z => by subst z; rw [he] at q; cases q
    exact ⟨ys, by rw [set_ne n]; exact q⟩
  · rw [Hn fun h => by
      have := (oa.out b h).2.1
      rw [e] at this
      cases this]
    exact k.frame.stay b o e n
  · rw [Hn fun h => by rw [(cs h).1] at e; cases e]
    exact e
  · rw [Hn fun h => by rw [(cs h).1] at e; exact codeO_ls (Option.some.inj e)]
    exact e
  · by_cases h : b ∈ a :: B i
    · exact .inr (oa.out b h).2.1
    · rw [Fn h] at q
      exact k.newF b u q
  · by_cases h : b ∈ a :: B i
    · rw [Fy h] at e
      cases e
    · rw [Fn h] at e
      exact k.oldF.2 b ps e
  · obtain ⟨z1, z2, z3⟩ := k.prot b u e
    have nb : b ∉ a :: B i := fun h => by
      have := (oa.out b h).2.2.1
      rw [e] at this
      cases this
    refine ⟨by rw [Hn nb]; exact z1, by rw [Fn nb]; exact z2, fun j q us hj => ?_⟩
    rcases get_set hj with ⟨_, z⟩ | ⟨_, z⟩
    · cases z
    · exact z3 j q us z
  · obtain ⟨n, e⟩ := back e
    obtain ⟨b, z1, z2⟩ := db.at_ j w e
    have sep := db.sep j i w (.mt rows) b a e he z1 hs fun q => n q.symm
    refine ⟨b, z1, z2.rel.keep ex fun y hy => Hn (sep y hy), fun y hy => ?_⟩
    obtain ⟨y1, y2, y3, y4⟩ := z2.out y hy
    exact ⟨by rw [Fn (sep y hy)]; exact y1, y2, y3, by rw [Hn (sep y hy)]; exact y4⟩
  · exact db.sep j l w1 w2 b c (back e1).2 (back e2).2 h1 h2 n
abbrev dFrzW (i : Nat) (w : DS) (E : DEnds) (env : List SD) : Prop := match env[i]? with
  | some (.dic (.kk ds)) => w E (env.set i (.dat (.dict ds)))
  | some (.dic (.mt rows)) => w E (env.set i (.dat (.list (rows.map .list))))
  | _ => False
theorem ssfreezeW {w : DS} (i : Nat) (hP : Z.P = X.prog) (hW : Z.w = X.w) (h : PSs X sts (liftS X.K Z m w)) : PSs X sts (liftS X.K Z m (dFrzW i w)) := PSs.of (PSs.rc h) fun D σ H ⟨g, F, env, P, k, w, q⟩ => by
  unfold dFrzW at w
  split at w
  · rename_i ds e
    obtain ⟨a, vs, h1, h2, h3, h4⟩ := k.kkAt e
    refine ⟨fun od => upd H a (.frz (od a) (.dK vs)), fun od => ⟨fun x => ?_, ?_⟩⟩
    · by_cases n : x = a
      · subst n
        rw [hP, hW] at h3
        exact .inr ⟨_, _, h3, upd_same, .inl ⟨vs, rfl, rfl⟩⟩
      · exact .inl (upd_ne n)
    · obtain ⟨ex, k1⟩ := k.freezeKk e h1 h3 h4 (od a)
      exact ⟨g, _, _, P, k1, w, q.ex ex⟩
  · rename_i rows e
    obtain ⟨H', F', r, ex, k1⟩ := k.freezeMt e X.prog X.w
    exact ⟨fun _ => H', fun od => ⟨r od, g, F', _, P, k1, w, q.ex ex⟩⟩
  · exact w.elim
end
end DL

namespace DL
variable {T : List (PySem.Addr × PySem.Str)} {Z : Zx T}
open PySem PySem.Spec PyProof.Rows L2 PySem.W
open Evl (Ex)
section
variable {K : PySem.W.Frag} {g : Gx Z} {F F' : Hp} {env env' : List SD} {σ : L2.St} {H H' : Hp} {B : Nat → List Addr}
theorem DicsB.sub (d : DicsB K g F env σ H B) (h : ∀ (i : Nat) (w : Own), env'[i]? = some (.dic w) → env[i]? = some (.dic w)) : DicsB K g F env' σ H B :=
  ⟨fun i w e => d.at_ i w (h i w e), fun i j w w' a b e1 e2 => d.sep i j w w' a b (h i w e1) (h j w' e2)⟩
theorem wipe_up {vs : List Nat} {i : Nat} {v : V} (e : (wipe σ vs)[i]? = some (some v)) : σ[i]? = some (some v) := by
  rw [wipe_get] at e
  by_cases hj : i ∈ vs
  · rw [if_pos hj] at e
    cases q : σ[i]? with
    | none => rw [q] at e; cases e
    | some o => rw [q] at e; cases e
  · rw [if_neg hj] at e
    exact e
theorem DicsB.unwiped {vs : List Nat} (d : DicsB K g F env (wipe σ vs) H B) : DicsB K g F env σ H B :=
  ⟨fun i w e => let ⟨a, h1, h2⟩ := d.at_ i w e; ⟨a, wipe_up h1, h2⟩, fun i j w w' a b e1 e2 s1 s2 => by
    obtain ⟨a', y1, _⟩ := d.at_ i w e1
    obtain ⟨b', y2, _⟩ := d.at_ j w' e2
    have z1 := wipe_up y1
    have z2 := wipe_up y2
    rw [s1] at z1
    rw [s2] at z2
    cases z1
    cases z2
    exact d.sep i j w w' a b e1 e2 y1 y2⟩
end
section
variable {X : Cx} {tg iter : Expr} {scope : Scope} {own : List (Str × Nat)} {pos p2 : Pos} {wi : DI} {m : Nat}
end
end DL

namespace DL
variable {T : List (PySem.Addr × PySem.Str)} {Z : Zx T}
open PySem PySem.Spec PyProof.Rows L2
open Evl (Ex)
section
variable {X : Cx} {K : PySem.W.Frag}
end
section
variable {P : Program} {w : World} {K : PySem.W.Frag} {mg : Str → Option Value} {base : Heap}
end
end DL

namespace DL
variable {T : List (PySem.Addr × PySem.Str)} {Z : Zx T}
open PySem PySem.Spec PyProof.Rows L2
open Evl (Ex)
section
variable {X : Cx}
end
section
variable {X : Cx} {a : Expr} {wa : DE} {p pos p1 kp : Pos} {nm : Option Str} {j : Nat}
end
end DL

namespace DL
variable {T : List (PySem.Addr × PySem.Str)} {Z : Zx T}
open PySem PySem.Spec PyProof.Rows L2
open Evl (Ex)
def isScal : PyData → Bool
  | .none => true
  | .bool _ => true
  | .int _ => true
  | .str _ => true
  | _ => false
def scalsQ (ys : List PyData) (p : Prop) : Prop := (ys.all isScal) = true ∧ p
theorem scal_dr {K : PySem.W.Frag} {F F' : Hp} {v : V} {d : PyData} (h : isScal d = true) (r : DR K F v d) : DR K F' v d := by
  cases d with
  | none => cases r; exact .non
  | bool b => cases r; exact .bl b
  | int i => cases r; exact .int i
  | str x => cases r; exact .str x
  | list _ => cases h
  | tuple _ => cases h
  | dict _ => cases h
theorem scals_drs {K : PySem.W.Frag} {F F' : Hp} : ∀ {vs : List V} {ys : List PyData}, (ys.all isScal) = true → DRs K F vs ys → DRs K F' vs ys
  | _, _, _, .nil => .nil
  | _, _, h, .cons a b => by
    rw [List.all_cons, Bool.and_eq_true] at h
    exact .cons (scal_dr h.1 a) (scals_drs h.2 b)
abbrev dBorX (w : DX) (env : List SD) (P : SD → List SD → Prop) : Prop := w (frz env) fun r _ => match r with
  | .cel false ys => scalsQ ys (P (.cel false ys) env)
  | _ => False
section
variable {X : Cx} {e : Expr}
theorem dborX {w : DX} (h : ∀ {Z : Zx T}, PE X e (liftX X.K Z w)) : PE X e (liftX X.K Z (dBorX w)) := PE.of (PE.anyZ fun Z => h (Z := Z)) fun σ H Q ⟨g, F, env, P, k, w, q⟩ => by
  obtain ⟨Z', g', F', k', e1, e2, ex⟩ := k.lend
  refine ⟨Z', g', F', frz env, _, k', w, fun r env1 v F1 H1 p e3 k1 r1 => ?_⟩
  split at p
  · rename_i ys
    obtain ⟨hs, p⟩ := p
    obtain ⟨a, vs, rfl, f1, h1, d1, n1, _, _⟩ := r1
    have n1 : H a = none := by
      have : Z'.H0 a = none := n1
      rwa [e1] at this
    have eh : Frm T H (fun _ => True) H1 := by
      have z := k1.frame
      rw [show g'.H0 = H from e1] at z
      exact z.weak fun a o _ _ i y => by rw [show g'.A0 i = none from e2 i] at y; cases y
    have fa : F a = none := by
      cases z : F a with
      | none => rfl
      | some o =>
        have := e3 a o (ex a o z)
        rw [f1] at this
        cases this
    refine q (.cel false ys) env (.ref a) F H1 p (Ex.refl F) (k.later eh ((ex.trans e3).trans k1.fh)) ⟨a, vs, rfl, fa, h1, scals_drs hs d1, k.fresh0 n1, ?_, fun j p' zs hj hσ => ?_⟩
    · cases z : g.Pr a with
      | none => rfl
      | some o =>
        have := (k.prot a o z).1
        rw [n1] at this
        cases this
    · obtain ⟨b, us, b1, _, b3, _⟩ := k.cel j p' zs hj
      rw [hσ] at b1
      cases b1
      rw [n1] at b3
      cases b3
  · exact p.elim
end
end DL

namespace DL
variable {T : List (PySem.Addr × PySem.Str)} {Z : Zx T}
open PySem PySem.Spec PyProof.Rows L2
open Evl (Ex)
section
variable {X : Cx} {a : Expr} {wa : DE} {pos p p2 pos2 : Pos}
def rLenSI (w : World) : List V → Hp → VK → Prop := fun vs H Q => ∃ (a : Addr) (S : Int → Bool) (n : Nat), vs = [V.ref a] ∧ H a = some (SetO w a S n) ∧ ∀ ms : List Int, ms.Nodup → (∀ k : Int, k ∈ ms ↔ S k = true) → Q (.int (ms.length : Nat)) H
theorem cr_lenSI : CallR X (.builtin "len") (rLenSI X.w) := by
  intro pins s σ H vs us Q I r h
  obtain ⟨a, S, n, rfl, ha, q⟩ := h
  rw [Vals.ref1 r]
  obtain ⟨o, es, ep, t, ho, hex, hd, hg, nd, hm, hb, hf, hn, _⟩ := setO_get I ha
  have sb : scanBound = 4096 := rfl
  refine call_len_set ho hex hd hf (by omega) ⟨.int (es.size : Nat), H, I.tok _, ⟨_, rfl⟩, ?_⟩
  have z := q (es.toList.map L2.keyOf) nd fun k => (hm k).symm
  rw [List.length_map, Array.length_toList] at z
  exact z
/-- how many of them there are -/
def lenSetIQ (d : PyData) (K : PyData → Prop) : Prop := match d with
  | .list ds => match intsD ds with
    | some ns => ns.length < 4000 ∧ ∀ ms : List Int, ms.Nodup → (∀ k : Int, k ∈ ms ↔ k ∈ ns) → K (.int (ms.length : Nat))
    | none => False
  | _ => False
theorem q_lenSetI {ns : List Int} {K : PyData → Prop} : lenSetIQ (.list (ns.map .int)) K = (ns.length < 4000 ∧ ∀ ms : List Int, ms.Nodup → (∀ k : Int, k ∈ ms ↔ k ∈ ns) → K (.int (ms.length : Nat))) := by
  unfold lenSetIQ
  dsimp only
  rw [ints_map]
abbrev dLenSetI (wa : DE) (env : List SD) (P : PyData → List SD → Prop) : Prop := wa env fun d env1 => lenSetIQ d fun x => P x env1
theorem dlenSetI (hc : X.calm = true) (hm : X.mg "len" = none) (hm2 : X.mg "set" = none) (ha : PE X a (liftE X.K Z wa)) (hg : Gl X "len" := by rfl) (hg2 : Gl X "set" := by rfl)
    (n1 : starEach [a] X.env = (false, eval a X.env) :: starEach [] X.env := by rfl)
    (n2 : starEach [.Call (.Name "set" p2) [a] [] pos2] X.env = (false, eval (.Call (.Name "set" p2) [a] [] pos2) X.env) :: starEach [] X.env := by rfl) :
    PE X (.Call (.Name "len" p) [.Call (.Name "set" p2) [a] [] pos2] [] pos) (liftE X.K Z (dLenSetI wa)) :=
  PE.of (pe_callB cr_lenSI hg hm (by decide +kernel) (pa_cons (pe_callTy (call_setI hc) hg2 hm2 (by decide +kernel) (pa_cons ha pa_nil n1) (by decide) (by decide) n1 (by rfl)) pa_nil n2) (by decide) (by decide) n2 (by rfl)) fun σ H Q ⟨g, F, env, P, k, w, q⟩ =>
    ⟨g, F, env, _, k, w, fun d env1 v F1 H1 p e1 k1 r1 => by
      unfold lenSetIQ at p
      split at p
      · rename_i ds
        split at p
        · rename_i ns e
          obtain ⟨l, us, rfl, h1, h2⟩ := r1.inv_lst
          cases ints_rel h2 e
          have sb : ns.length + 1 < scanBound := by unfold scanBound; have := p.1; omega
          refine ⟨l, ns, rfl, (h1.mono k1.fh).sq, sb, fun a1 c hp1 hc1 => ?_⟩
          exact ⟨a1, _, c, rfl, upd_same, fun ms s1 s2 => q _ env1 _ F1 _ (p.2 ms s1 fun z => (s2 z).trans decide_eq_true_iff) e1 (k1.extra (o := SetO X.w a1 (fun j => decide (j ∈ ns)) c) hp1) (.int _)⟩
        · exact p.elim
      · exact p.elim⟩
end
end DL

namespace DL
variable {T : List (PySem.Addr × PySem.Str)} {Z : Zx T}
open PySem PySem.Spec PySem.W PySem.Calls PyProof.Rows L2
open Evl (Ex)
section
variable {prog : Program} {w : World} {A : Around} {E : Value → Shared → Prop} {s : Shared}
end
section
variable {X : Cx}
end
section
variable {X : Cx} {a : Expr} {wa : DE} {p pos p1 kp : Pos} {nm : Option Str} {j : Nat}
end
end DL

namespace DL
variable {T : List (PySem.Addr × PySem.Str)} {Z : Zx T}
open PySem PySem.Spec PyProof.Rows L2 PySem.W
open Evl (Ex)
section
variable {X : Cx}
end
section
variable {X : Cx} {a : Expr} {wa : DE} {p pos : Pos}
end
end DL

namespace DL
variable {T : List (PySem.Addr × PySem.Str)} {Z : Zx T}
open PySem PySem.Spec PyProof.Rows L2 PySem.W
open Evl (Ex)
/-- a def of the top that returns a key of its one parameter -/
structure KeyD (K : PySem.W.Frag) (mg : Str → Option Value) (y : Str) (kb : Kx) : Prop where
  ex : ∃ (qual x : Str) (st : Stmt) (fd : FuncData) (e : Expr) (pos : Pos), Fun K qual qual st (He.ga K y) fd ∧ LamK (defScope st) x ∧ defBody st = [.Return (some e) pos] ∧ KbE x e kb ∧ Binds K fd [x] [] ∧ (x == ("__debug__" : Str)) = false
  glo : mg y = some (.ref (He.ga K y))
section
variable {X : Cx} {pins : List (Addr × Obj)} {σ : L2.St} {H : Hp} {s : Shared}
end
section
variable {X : Cx} {a : Expr} {wa : DE} {p pos kpos p2 : Pos} {y : Str}
end
end DL

namespace DL
variable {T : List (PySem.Addr × PySem.Str)} {Z : Zx T}
open PySem PySem.Spec PyProof.Rows L2 PySem.W
open Evl (Ex)
section
variable {X : Cx}
end
section
variable {X : Cx} {x : Str} {p p0 pos apos cpos : Pos}
end
end DL

namespace DL
variable {T : List (PySem.Addr × PySem.Str)} {Z : Zx T}
open PySem PySem.Spec PyProof.Rows L2 PySem.W
open Evl (Ex)
end DL

namespace RZ3
open PySem RZ
open PySem.Sem (wp)
section
variable {prog : Program} {w : World} {A : Around} {E : Value → Shared → Prop} {s : Shared}
end
section
variable {prog : Program} {w : World} {A : Around} {E : Value → Shared → Prop} {s : Shared}
end
end RZ3

namespace DL
variable {T : List (PySem.Addr × PySem.Str)} {Z : Zx T}
open PySem PySem.Spec PyProof.Rows L2 RZ3
open Evl (Ex)
section
variable {X : Cx} {a b c : Expr} {was : DA} {pos : Pos}
end
end DL

namespace DL
variable {T : List (PySem.Addr × PySem.Str)} {Z : Zx T}
open PySem PySem.Spec PyProof.Rows L2
open Evl (Ex)
section
variable {X : Cx} {a b c : Expr} {was : DA} {pos : Pos}
end
end DL

namespace DL
variable {T : List (PySem.Addr × PySem.Str)} {Z : Zx T}
open PySem PySem.Spec PyProof.Rows L2 PySem.W
open Evl (Ex)
/-- without the thing at p -/
def delH (H : Hp) (p : Addr) : Hp := fun a => if a = p then none else H a
section
variable {H : Hp} {p a : Addr} {o : HO}
theorem delH_ne (h : a ≠ p) : delH H p a = H a := if_neg h
theorem delH_same : delH H p p = none := if_pos rfl
theorem upd_delH : upd (delH H p) p o = upd H p o := by
  funext a
  by_cases z : a = p
  · subst z
    rw [upd_same, upd_same]
  · rw [upd_ne z, upd_ne z, delH_ne z]
end
section
variable {K : PySem.W.Frag} {g : Gx Z} {F : Hp} {env : List SD} {σ : L2.St} {H : Hp}
theorem Ok.gone (k : Ok K g F env σ H) {D : Addr} {o0 : HO} (hD : H D = some o0) (hn : ∀ φ, o0 ≠ .ext φ) (t1 : ∀ ps, o0 ≠ .tbl ps) (t2 : ∀ q, o0 ≠ LamX.CodeO D q) (hF : F D = none) (h0 : g.H0 D = none) (hp : g.Pr D = none) (nw : NoNm env σ D) : Ok K g F env σ (delH H D) := by
  refine ⟨k.len, fun a u e => ?_, k.dat, fun i p xs e => ?_, k.sep, k.pin, ⟨fun a u e n => ?_, tabs_to k.frame.tab (fun x ps e => ?_) fun x q e => ?_⟩, k.newF, k.oldF, fun a u e => ?_, (k.dic.keep (Ex.refl F) (fun _ _ _ z => z) fun a xs e n => ⟨n, delH_ne fun z => ?_⟩)⟩
  · have ne : a ≠ D := fun z => by rw [z, hF] at e; cases e
    rw [delH_ne ne]
    exact k.fh a u e
  · obtain ⟨a, us, h1, h2, h3, h4⟩ := k.cel i p xs e
    have ne : a ≠ D := fun z => by subst z; exact nw i p xs e h1
    exact ⟨a, us, h1, h2, by rw [delH_ne ne]; exact h3, h4⟩
  · have ne : a ≠ D := fun z => by rw [z, h0] at e; cases e
    rw [delH_ne ne]
    exact k.frame.stay a u e n
  · have ne : x ≠ D := fun z => by rw [z, hD] at e; exact t1 ps (Option.some.inj e)
    rw [delH_ne ne]
    exact e
  · have ne : x ≠ D := fun z => by
      subst z
      rw [hD] at e
      exact t2 q (Option.some.inj e)
    rw [delH_ne ne]
    exact e
  · obtain ⟨z1, z2, z3⟩ := k.prot a u e
    have ne : a ≠ D := fun z => by rw [z, hp] at e; cases e
    exact ⟨by rw [delH_ne ne]; exact z1, z2, z3⟩
  · subst z
    rw [hD] at e
    exact hn xs (Option.some.inj e)
end
abbrev DPs := List SD → (List (Key × PyData) → List SD → Prop) → Prop
abbrev dPnil : DPs := fun env P => P [] env
abbrev dPcons (wk wv : DE) (w : DPs) : DPs := fun env P => wk env fun y env1 => keyQ y fun k => wv env1 fun d env2 => w env2 fun ps env3 => P ((k, d) :: ps) env3
abbrev PrR (K : PySem.W.Frag) (F : Hp) : List (Key × PyData) → List (Key × V) → Prop := Paired fun p u => p.1 = u.1 ∧ DR K F u.2 p.2
theorem PrR.mono {K : PySem.W.Frag} {F F' : Hp} (e : Ex F F') {ps : List (Key × PyData)} {us : List (Key × V)} (h : PrR K F ps us) : PrR K F' ps us := Paired.mapP h fun _ _ ⟨h1, h2⟩ => ⟨h1, h2.mono e⟩
def liftPs (K : PySem.W.Frag) (Z : Zx T) (n : Nat) (w : DPs) (trs : List (TE × TE)) : Prop := ∀ (σ : L2.St) (H : Hp) (Q : List (V × V) → Hp → Prop),
  (∃ (g : Gx Z) (F : Hp) (env : List SD) (P : List (Key × PyData) → List SD → Prop), Ok K g F env σ H ∧ w env P ∧
    ∀ ps env' F' H' us, P ps env' → Ex F F' → Ok K g F' env' σ H' → PrR K F' ps us → us.length = n → Q (us.map fun kv => (kV kv.1, kv.2)) H') → tPairs trs σ H Q
def PP (X : Cx) (Z : Zx T) (pos : Pos) (keys : List (Option Expr)) (values : List Expr) (w : DPs) : Prop := ∃ trs, PPs X pos keys values trs ∧ liftPs X.K Z keys.length w trs
section
variable {X : Cx} {pos : Pos} {k v : Expr} {ks : List (Option Expr)} {vs : List Expr} {wk wv : DE} {w : DPs}
theorem pp_nil : PP X Z pos [] [] dPnil := ⟨[], pps_nil, fun σ H Q ⟨g, F, env, P, k, w, q⟩ => q [] env F H [] w (Ex.refl F) k .nil rfl⟩
theorem pp_cons (hk : PE X k (liftE X.K Z wk)) (hv : PE X v (liftE X.K Z wv)) (hr : PP X Z pos ks vs w) : PP X Z pos (some k :: ks) (v :: vs) (dPcons wk wv w) := by
  obtain ⟨trs, h1, h2⟩ := hr
  refine ⟨_, pps_cons hk hv h1, fun σ H Q ⟨g, F, env, P, k, w, q⟩ => ?_⟩
  refine ⟨g, F, env, _, k, w, fun y env1 v1 F1 H1 p1 e1 k1 r1 => ?_⟩
  obtain ⟨key, ek, p1⟩ := keyQ_inv p1
  refine ⟨g, F1, env1, _, k1, p1, fun d env2 v2 F2 H2 p2 e2 k2 r2 => ?_⟩
  refine h2 σ H2 _ ⟨g, F2, env2, _, k2, p2, fun ps env3 F3 H3 us p3 e3 k3 r3 ln => ?_⟩
  obtain rfl := ky_val ek r1
  exact q ((key, d) :: ps) env3 F3 H3 ((key, v2) :: us) p3 (e1.trans (e2.trans e3)) k3 (.cons ⟨rfl, r2.mono e3⟩ r3) (by rw [List.length_cons, List.length_cons, ln])
def dispQ (ps : List (Key × PyData)) (K : KVM → Prop) : Prop := K (mergeM [] ps)
abbrev dDisp (w : DPs) (env : List SD) (P : KVM → List SD → Prop) : Prop := w env fun ps env1 => dispQ ps fun ds => P ds env1
theorem ddisp {keys : List (Option Expr)} {values : List Expr} (hp : PP X Z pos keys values w) (hall : keys.all (·.isSome) = true := by rfl) (hl : keys.length = values.length := by rfl) (h0 : keys ≠ [] := by simp) (h15 : keys.length ≤ 15 := by decide) : PE X (.Dict keys values pos) (liftD X.K Z (dDisp w)) := by
  obtain ⟨trs, h1, h2⟩ := hp
  refine PE.of (pe_disp h1 hall hl h0 h15) fun σ H Q ⟨g, F, env, P, k, w, q⟩ => ?_
  intro p hp
  obtain ⟨k1, f1, p1, z1, n1⟩ := k.newO (o := .dK []) hp
  refine h2 σ _ _ ⟨g.hidO p (.dK []) (fun _ z => by cases z) p1, F, env, _, k1.hideO (fun _ z => by cases z) f1 upd_same n1 p1, w, fun ps env1 F1 H1 us pp e1 k2 r ln => ?_⟩
  obtain ⟨k3, f3, z3, n3⟩ := Ok.bareO (fun _ z => by cases z) p1 k2
  refine ⟨z3, us, rfl, by omega, ?_⟩
  have kg := k3.gone z3 (fun _ z => by cases z) (fun _ z => by cases z) (fun _ z => by unfold LamX.CodeO at z; cases z) f3 z1 p1 n3
  rw [← upd_delH]
  exact q _ env1 p _ F1 _ pp e1 kg delH_same (DM.merge r .nil)
end
section
variable {X : Cx} {o e : Expr} {apos cpos : Pos} {td ty : TE}
theorem pe_dupd (ho : PE X o td) (he : PE X e ty) (m : M1 X o "update" apos e cpos) : PE X (.Call (.Attribute o "update" apos) [e] [] cpos) (fun σ H Q => td σ H fun x H1 => ∃ a vs0, x = .ref a ∧ H1 a = some (KkE X.prog X.w a vs0) ∧
    ty σ H1 fun y H2 => ∃ vs b us, y = .ref b ∧ b ≠ a ∧ H2 a = some (KkE X.prog X.w a vs) ∧ Rd H2 b (.dK us) ∧ vs.length + us.length ≤ sizeLine ∧ Q .non (upd H2 a (KkE X.prog X.w a (mergeK vs us)))) := by
  refine ⟨fun pins s σ H Q I h => ?_⟩
  refine wpAny_Call_method m.base m.few m.line PySem.F.plainAttrs_dict PySem.F.slot_dict_update PySem.F.type_dict_update (thn (ho.run pins s σ H _ I h) fun u s1 ⟨x, H1, I1, rx, a, vs0, ex, d, q1⟩ => ?_)
  subst ex
  obtain rfl : u = Value.ref a := rx
  obtain ⟨t1, t2, _⟩ := isD_at (I1.toK d) (.inl ⟨vs0, .inl upd_same⟩)
  refine ⟨t1, t2, ?_⟩
  rw [m.trees]
  refine Calls.callWith_builtin rfl (Calls.evalArgs_plain (Calls.spliced_cons (thn (he.run pins s1 σ H1 _ I1 q1) fun iv s2 ⟨y, H2, I2, ry, vs, b, us, ey, hne, ha, hb, hl, q2⟩ => Calls.spliced_nil ?_)))
  subst ey
  obtain rfl : iv = Value.ref b := ry
  have J := I2.toK ha
  have hb2 : Rd (upd H2 a (.dK vs)) b (.dK us) := by
    unfold Rd at hb ⊢
    rw [upd_ne hne]
    exact hb
  obtain ⟨z, hd, xs, rel, dd⟩ := dk_rd J.hok (a := a) (.inl upd_same)
  obtain ⟨z2, hd2, ys, rel2, dd2⟩ := dk_rd J.hok hb2
  refine call_meetsIn PySem.F.slot_dict_update dd.typeIs PySem.F.entry_dict_update (PySem.F.args_dict_update_2 _ _) (meets_dict_update (mixKind X.prog X.w) a b (fun q => hne q.symm) hd2) ⟨xs, ys, dd, dd2, by rw [← rel.length, ← rel2.length]; exact hl, fun h' d1 d2 sb => ?_⟩
  have hz : (mergeK vs us).length ≤ sizeLine := Nat.le_trans (length_mergeK us vs) hl
  have he : ∃ q, h'.get? a = some q := let ⟨q, _, _, hq, _⟩ := d1; ⟨q, hq⟩
  have J2 := d_write (t' := s2.toks) J (by rw [upd_same]; exact True.intro) sb he (dk_new hz hd (rel2.merge rel) d1)
  rw [upd_upd] at J2
  have J3 := J2.ofK upd_same
  rw [upd_upd] at J3
  exact ⟨.non, _, J3, rfl, q2⟩
end
/-- a dict's keys and values -/
def keysM (ds : KVM) : List (Key × PyData) := ds.filterMap fun p => (kyOf p.1).map fun k => (k, p.2)
theorem DM.pairs {K : PySem.W.Frag} {F : Hp} : ∀ {us : List (Key × V)} {ds : KVM}, DM K F us ds → PrR K F (keysM ds) us ∧ ds.length = us.length
  | _, _, .nil => ⟨.nil, rfl⟩
  | _, _, .int a b => by
    obtain ⟨h1, h2⟩ := DM.pairs b
    exact ⟨.cons ⟨rfl, a⟩ h1, by rw [List.length_cons, List.length_cons, h2]⟩
  | _, _, .str a b => by
    obtain ⟨h1, h2⟩ := DM.pairs b
    exact ⟨.cons ⟨rfl, a⟩ h1, by rw [List.length_cons, List.length_cons, h2]⟩
def updMQ (ds ds1 : KVM) (K : KVM → Prop) : Prop := ds.length + ds1.length ≤ 100000 ∧ K (mergeM ds (keysM ds1))
abbrev dKUpd (i : Nat) (w : List SD → (KVM → List SD → Prop) → Prop) (E : DEnds) (env : List SD) : Prop := match env[i]? with
  | some (.dic (.kk _)) => w env fun ds1 env1 => match env1[i]? with
    | some (.dic (.kk ds)) => updMQ ds ds1 fun ds' => E.nx (env1.set i (.dic (.kk ds')))
    | _ => False
  | _ => False
section
variable {X : Cx} {e : Expr} {m : Nat} {pos : Pos}
theorem skupd (i : Nat) {w : List SD → (KVM → List SD → Prop) → Prop} {x : Str} {p0 apos cpos : Pos} (hP : Z.P = X.prog) (hW : Z.w = X.w) (he : PE X e (liftD X.K Z w)) (hN : X.N[i]? = some x := by rfl) (hv : Vis X.env.scope x := by first | exact Or.inl rfl | exact Or.inr (Or.inl rfl) | exact Or.inr (Or.inr rfl))
    (hd : (x == ("__debug__" : Str)) = false := by decide) (hcd : (x == ("__classdict__" : Str)) = false := by decide)
    (hm : M1 X (.Name x p0) "update" apos e cpos := by exact ⟨rfl, rfl, rfl, rfl⟩)
    (hs : swapsWith (.Call (.Attribute (.Name x p0) "update" apos) [e] [] cpos) none pos.line X.env = pure false := by rfl) :
    PS X (.Expr (.Call (.Attribute (.Name x p0) "update" apos) [e] [] cpos) pos) (liftS X.K Z m (dKUpd i w)) :=
  PS.of (ps_expr (pe_dupd (pe_var hN hv hd hcd) he hm) hs) fun D σ H ⟨g, F, env, P, k, w, q⟩ => by
    unfold dKUpd at w
    split at w
    · rename_i ds0 ex
      obtain ⟨a, vs0, c1, c2, c3, c4⟩ := k.kkAt ex
      refine ⟨_, c1, a, vs0, rfl, by rw [← hP, ← hW]; exact c3, g, F, env, _, k, w, fun ds1 env1 p us F1 H1 p1 e1 k1 hp mm => ?_⟩
      split at p1
      · rename_i ds ex1
        obtain ⟨hl, p1⟩ := p1
        obtain ⟨a1, vs, b1, b2, b3, b4⟩ := k1.kkAt ex1
        rw [c1] at b1
        cases b1
        have hne : p ≠ a := fun z => by rw [z, b3] at hp; cases hp
        obtain ⟨k2, _, _, _, _⟩ := k1.newO (o := .dK us) hp
        obtain ⟨pr, ln⟩ := mm.pairs
        have k3 := k2.writeKk ex1 c1 (by rw [upd_ne hne.symm]; exact b3) (DM.merge pr b4)
        refine ⟨vs, p, us, rfl, hne, by rw [upd_ne hne.symm, ← hP, ← hW]; exact b3, .inl upd_same, by rw [sizeLine_eq, ← ln, b4.length]; exact Nat.le_trans hl (by decide), ?_⟩
        rw [← hP, ← hW]
        exact q.nx _ σ F1 _ p1 e1 k3
      · exact p1.elim
    · exact w.elim
end
end DL

namespace DL
variable {T : List (PySem.Addr × PySem.Str)} {Z : Zx T}
open PySem PySem.Spec PyProof.Rows L2 PySem.W
open Evl (Ex)
open PySem.SeqAt in
section
theorem dict_eq_declines_str (l : Addr) (es : Array DictEntry) (n : Nat) (dd : Option Addr) (sl : Array (Option Value)) (b : Str) (u : Tok) :
    Meets (Builtin.«dict.__eq__» ⟨[.ref l, .str b u], []⟩) (fun _ R s => s.heap.get? l = some { cls := .type "dict", dict := dd, data := .dict es n, slots := sl } ∧ R (.ok (.ret .notImplemented)) s) :=
  .of_wp fun prog w A R s h => by obtain ⟨hp, g, d, tk, os⟩ := s; obtain ⟨hl, h⟩ := h; have f1 := F.sub_str_dict; wp_walk using wpAny_loadPart' hl; exact ⟨_, rfl, h⟩
theorem str_eq_declines_dict (b : Str) (u : Tok) (l : Addr) (c : Value) (es : Array DictEntry) (n : Nat) (dd : Option Addr) (sl : Array (Option Value)) :
    Meets (Builtin.«str.__eq__» ⟨[.str b u, .ref l], []⟩) (fun _ R s => s.heap.get? l = some { cls := c, dict := dd, data := .dict es n, slots := sl } ∧ R (.ok (.ret .notImplemented)) s) :=
  .of_wp fun prog w A R s h => by obtain ⟨hp, g, d, tk, os⟩ := s; obtain ⟨hl, h⟩ := h; wp_walk using wpAny_loadPart' hl, wpAny_load hl; exact ⟨_, rfl, h⟩
theorem rc_dict_str {A : Around} {s : Shared} {l : Addr} {es : Array DictEntry} {n : Nat} {dd : Option Addr} {sl : Array (Option Value)} (b : Str) (u : Tok) (ho : s.heap.get? l = some { cls := .type "dict", dict := dd, data := .dict es n, slots := sl }) (hu : A.units < cLine) : RcAt A s (.ref l) (.str b u) false := fun prog w E Q h =>
  rc_eq_decline_or (k := false) ⟨_, ho, rfl⟩ (typeIs_str s b u) (by decide) F.sub_str_dict F.slot_dict_eq F.slot_str_eq_refl
    (fun _ hq => call_meets F.slot_dict_eq ⟨_, ho, rfl⟩ F.entry_dict_eq (F.args_dict_eq_2 _ _) (dict_eq_declines_str l es n dd sl b u) ⟨ho, hq⟩)
    (fun _ hq => call_meets F.slot_str_eq_refl (typeIs_str s b u) F.entry_str_eq (F.args_str_eq_2 _ _) (str_eq_declines_dict b u l (.type "dict") es n dd sl) ⟨ho, hq⟩)
    (fun _ hq => wpAny_of_eq (rfl : isSame (.ref l) (.str b u) = pure false) hq) (.inr hu) h
end
section
variable {X : Cx} {a b : Expr} {wa wb : DE} {pos : Pos} {K : PySem.W.Frag}
/-- x == z, z a text -/
def rEqS (K : PySem.W.Frag) : R2 := fun x y H Q => ∃ z : Str, y = .str z ∧ ((∃ w : Str, x = .str w ∧ Q (.bl (decide (w = z))) H) ∨
  ((x = .non ∨ (∃ t, x = .bl t) ∨ (∃ i, x = .int i) ∨ (∃ a xs, x = .ref a ∧ SqL K H a xs) ∨ (∃ a xs, x = .ref a ∧ SqT K H a xs) ∨ ∃ a, x = .ref a ∧ IsD H a) ∧ Q (.bl false) H))
theorem op_eqS (hu : X.A.units + 64 < cLine) : OpR X (compareOp .Eq) (rEqS X.K) := by
  intro pins s σ H x y v u Q I rx ry h
  have hu2 : X.A.units < cLine := by omega
  obtain ⟨z, rfl, h⟩ := h
  obtain ⟨tz, rfl⟩ := ry
  rcases h with ⟨w, rfl, q⟩ | ⟨h, q⟩
  · obtain ⟨tw, rfl⟩ := rx
    refine SeqAt.RcAt.str_str w tw z tz _ _ _ _ ⟨.bl _, H, I, rfl, ?_⟩
    have : (w == z) = decide (w = z) := by
      by_cases e : w = z
      · subst e; simp
      · rw [decide_eq_false e]; simpa using e
    rw [this]
    exact q
  · have fin : EP X pins σ Q (.bool false) s := ⟨.bl false, H, I, rfl, q⟩
    rcases h with rfl | ⟨t, rfl⟩ | ⟨i, rfl⟩ | ⟨a, xs, rfl, hx⟩ | ⟨a, xs, rfl, hx⟩ | ⟨a, rfl, hx⟩
    · cases rx
      exact SeqAt.RcAt.none_str z tz _ _ _ _ fin
    · cases rx
      exact SeqAt.RcAt.bool_str t z tz _ _ _ _ fin
    · obtain ⟨ti, rfl⟩ := rx
      exact SeqAt.RcAt.int_str i ti z tz _ _ _ _ fin
    · cases rx
      obtain ⟨its, r1, t1, _⟩ := I.list hx
      exact SeqAt.RcAt.list_str z tz t1.isList hu2 _ _ _ _ fin
    · cases rx
      obtain ⟨its, r1, t1, _⟩ := I.tuple hx
      exact SeqAt.RcAt.tuple_str z tz t1 hu2 _ _ _ _ fin
    · cases rx
      rcases hx with ⟨kvs, e⟩ | ⟨kvs, e⟩
      · obtain ⟨_, hd, vs, _, dd⟩ := dk_rd I.hok e
        obtain ⟨ob, es, ep, h1, h2, h3, _⟩ := dd
        obtain ⟨cls, dct, dat, sl⟩ := ob
        obtain ⟨c1, c2, c3⟩ := h2
        simp only at c1 h3
        subst c1 h3
        exact rc_dict_str z tz h1 hu2 _ _ _ _ fin
      · obtain ⟨_, hd, xs, _, dd⟩ := dt_rd I.hok e
        obtain ⟨ob, es, ep, h1, h2, h3, _⟩ := dd
        obtain ⟨cls, dct, dat, sl⟩ := ob
        obtain ⟨c1, c2, c3⟩ := h2
        simp only at c1 h3
        subst c1 h3
        exact rc_dict_str z tz h1 hu2 _ _ _ _ fin
def oEqS (x y : PyData) (P : PyData → Prop) : Prop := match y with
  | .str z => (match x with
    | .str w => P (.bool (decide (w = z)))
    | .dict ds => isMap ds = true ∧ P (.bool false)
    | _ => P (.bool false))
  | _ => False
theorem opd_eqS : OpD K (rEqS K) oEqS := by
  intro _ _ g F env σ H vx vy dx dy P Q k rx ry p q
  unfold oEqS at p
  split at p
  · rename_i z
    cases ry.inv_str
    refine ⟨z, rfl, ?_⟩
    cases dx with
    | str w =>
      cases rx.inv_str
      exact .inl ⟨w, rfl, q _ _ F H p (Ex.refl F) k (.bl _)⟩
    | none =>
      cases rx
      exact .inr ⟨.inl rfl, q _ _ F H p (Ex.refl F) k (.bl _)⟩
    | bool t =>
      cases rx
      exact .inr ⟨.inr (.inl ⟨t, rfl⟩), q _ _ F H p (Ex.refl F) k (.bl _)⟩
    | int i =>
      cases rx.inv_int
      exact .inr ⟨.inr (.inr (.inl ⟨i, rfl⟩)), q _ _ F H p (Ex.refl F) k (.bl _)⟩
    | list xs =>
      obtain ⟨a, us, rfl, h1, h2⟩ := rx.inv_lst
      exact .inr ⟨.inr (.inr (.inr (.inl ⟨a, us, rfl, (h1.mono k.fh).sq⟩))), q _ _ F H p (Ex.refl F) k (.bl _)⟩
    | tuple xs =>
      obtain ⟨a, us, rfl, h1, h2⟩ := rx.inv_tup
      exact .inr ⟨.inr (.inr (.inr (.inr (.inl ⟨a, us, rfl, Evl.ex_t k.fh h1⟩)))), q _ _ F H p (Ex.refl F) k (.bl _)⟩
    | dict ds =>
      obtain ⟨hm, p⟩ := p
      obtain ⟨a, o, vs, rfl, h1, h2⟩ := rx.inv_map hm
      exact .inr ⟨.inr (.inr (.inr (.inr (.inr ⟨a, rfl, .inl ⟨vs, .inr ⟨o, k.fh _ _ h1⟩⟩⟩)))), q _ _ F H p (Ex.refl F) k (.bl _)⟩
  · exact p.elim
/-- x <= y, whole numbers or texts -/
def rLeA : R2 := fun x y H Q => (rI0 fun i j => V.bl (decide (i ≤ j))) x y H Q ∨ ∃ i j, x = .str i ∧ y = .str j ∧ Q (.bl (!decide (j.cps.toList < i.cps.toList))) H
theorem op_leA : OpR X (compareOp .LtE) rLeA := OpR.or op_le op_le_str
def oLeA (x y : PyData) (P : PyData → Prop) : Prop := match x, y with
  | .int i, .int j => P (.bool (decide (i ≤ j)))
  | .str a, .str b => P (.bool (!strLt b a))
  | _, _ => False
theorem opd_leA : OpD K rLeA oLeA := by
  intro _ _ g F env σ H vx vy dx dy P Q k rx ry p q
  unfold oLeA at p
  split at p
  · cases rx.inv_int
    cases ry.inv_int
    exact .inl ⟨_, _, rfl, rfl, q _ _ F H p (Ex.refl F) k (.bl _)⟩
  · cases rx.inv_str
    cases ry.inv_str
    unfold strLt at p
    exact .inr ⟨_, _, rfl, rfl, q _ _ F H p (Ex.refl F) k (.bl _)⟩
  · exact p.elim
end
end DL

namespace K62
open PySem PySem.Spec PyProof.Rows L2 DL
abbrev prg : Program := PySem.Challenge.pw_prizelog_k62_pages_known
def top (i : Nat) : Stmt := prg.main.body.getD i (.Pass ⟨0, 0, 0, 0⟩)
def fa : List He.Fa := [.free "isinstance", .free "int", .free "bool", .free "tuple", .free "len", .free "all", .free "abs", .free "zip", .free "str", .free "sum", .free "set", .free "range", .free "list", .free "sorted", .free "enumerate", .free "min", .free "max", .int "MOST_ROWS" 20, .int "LAST_HOUR" 100000, .int "FARTHEST" 10000, .int "MOST_SIGNS" 8, .int "WHOLE" 8, .int "MOST_CLASSES" 6, .int "MOST_RANKS" 20, .int "MOST_GROSS" 1000000000000, .int "MOST_RATE" 10000, .int "MOST_HEADS" 1000, .int "MOST_BOUNTY" 1000000000, .int "MOST_PAGES" 60, .int "MOST_DAY" 1000000, .int "MOST_HOUR" 100000, .int "MOST_MILES" 100000, .int "MOST_PENCE" 1000000000000, .glo "is_whole", .glo "is_within", .glo "are_wholes", .glo "divisor_of", .glo "is_fraction", .glo "is_hour_tracks", .glo "is_log_row", .glo "is_log", .glo "is_name", .glo "are_heads", .glo "are_eighths", .glo "is_pair", .glo "is_scheme", .glo "is_part", .glo "is_sale", .glo "is_hour", .glo "is_hour_pages", .glo "is_day", .glo "is_muster", .glo "is_taking", .glo "is_body", .glo "is_page", .glo "are_pages", .glo "_law_pot_of", .glo "_law_draw", .glo "_law_whole", .glo "_law_name", .glo "_law_shuffled", .glo "_law_log", .glo "_law_scheme", .glo "_law_sale", .glo "_law_folk", .glo "_law_core", .glo "_law_more", .glo "_law_book", .glo "_law_spoilt", .glo "_law_within", .glo "_law_is_name", .glo "_law_is_log", .glo "_law_is_scheme", .glo "_law_is_part", .glo "_law_is_sale", .glo "_law_is_body", .glo "_law_is_page", .glo "_law_are_pages", .glo "_law_odds", .glo "law", .keep "is_whole", .keep "is_within", .keep "are_wholes", .keep "divisor_of", .keep "is_fraction", .keep "is_hour_tracks", .keep "is_log_row", .keep "is_log", .keep "is_name", .keep "are_heads", .keep "are_eighths", .keep "is_pair", .keep "is_scheme", .keep "is_part", .keep "is_sale", .keep "is_hour", .keep "is_hour_pages", .keep "is_day", .keep "is_muster", .keep "is_taking", .keep "is_body", .keep "is_page", .keep "are_pages", .keep "_law_pot_of", .keep "_law_draw", .keep "_law_whole", .keep "_law_name", .keep "_law_shuffled", .keep "_law_log", .keep "_law_scheme", .keep "_law_sale", .keep "_law_folk", .keep "_law_core", .keep "_law_more", .keep "_law_book", .keep "_law_spoilt", .keep "_law_within", .keep "_law_is_name", .keep "_law_is_log", .keep "_law_is_scheme", .keep "_law_is_part", .keep "_law_is_sale", .keep "_law_is_body", .keep "_law_is_page", .keep "_law_are_pages", .keep "_law_odds", .keep "law"]
def dD (x : Str) (i : Nat) : He.FnD := ⟨(x, none), x, x, defArgs (top i), defBody (top i), defScope (top i)⟩
def dA (x y : Str) (i : Nat) : He.FnD := ⟨(x, none), y, y, defArgs (top i), defBody (top i), defScope (top i)⟩
def fn : List He.FnD := [dD "is_whole" 1, dD "is_within" 2, dD "are_wholes" 3, dD "divisor_of" 4, dD "is_fraction" 5, dA "is_hour_tracks" "is_hour" 10, dD "is_log_row" 12, dD "is_log" 13, dD "is_name" 17, dD "are_heads" 22, dD "are_eighths" 23, dD "is_pair" 24, dD "is_scheme" 25, dD "is_part" 31, dD "is_sale" 32, dD "is_hour" 39, dA "is_hour_pages" "is_hour" 39, dD "is_day" 41, dD "is_muster" 42, dD "is_taking" 43, dD "is_body" 44, dD "is_page" 45, dD "are_pages" 46, dD "_law_pot_of" 48, dD "_law_draw" 49, dD "_law_whole" 50, dD "_law_name" 51, dD "_law_shuffled" 52, dD "_law_log" 53, dD "_law_scheme" 54, dD "_law_sale" 55, dD "_law_folk" 56, dD "_law_core" 57, dD "_law_more" 58, dD "_law_book" 59, dD "_law_spoilt" 60, dD "_law_within" 61, dD "_law_is_name" 62, dD "_law_is_log" 63, dD "_law_is_scheme" 64, dD "_law_is_part" 65, dD "_law_is_sale" 66, dD "_law_is_body" 67, dD "_law_is_page" 68, dD "_law_are_pages" 69, dD "_law_odds" 70, dD "law" 71]
def fx : List Fx := [.txt "LETTERS" "abcdefghijklmnopqrstuvwxyz"]
abbrev Tp (K : PySem.W.Frag) (mg : Str → Option Value) : Prop := TopX fa fn fx K mg
section
variable {K : PySem.W.Frag} {mg : Str → Option Value}
theorem m_isinstance (T : Tp K mg) : mg "isinstance" = none := T.free "isinstance" 0
theorem m_int (T : Tp K mg) : mg "int" = none := T.free "int" 1
theorem m_bool (T : Tp K mg) : mg "bool" = none := T.free "bool" 2
theorem m_tuple (T : Tp K mg) : mg "tuple" = none := T.free "tuple" 3
theorem m_len (T : Tp K mg) : mg "len" = none := T.free "len" 4
theorem m_all (T : Tp K mg) : mg "all" = none := T.free "all" 5
theorem m_abs (T : Tp K mg) : mg "abs" = none := T.free "abs" 6
theorem m_zip (T : Tp K mg) : mg "zip" = none := T.free "zip" 7
theorem m_str (T : Tp K mg) : mg "str" = none := T.free "str" 8
theorem m_sum (T : Tp K mg) : mg "sum" = none := T.free "sum" 9
theorem m_set (T : Tp K mg) : mg "set" = none := T.free "set" 10
theorem m_range (T : Tp K mg) : mg "range" = none := T.free "range" 11
theorem m_list (T : Tp K mg) : mg "list" = none := T.free "list" 12
theorem m_sorted (T : Tp K mg) : mg "sorted" = none := T.free "sorted" 13
theorem m_enumerate (T : Tp K mg) : mg "enumerate" = none := T.free "enumerate" 14
theorem m_min (T : Tp K mg) : mg "min" = none := T.free "min" 15
theorem m_max (T : Tp K mg) : mg "max" = none := T.free "max" 16
theorem c_MOST_ROWS (T : Tp K mg) : ∃ t, mg "MOST_ROWS" = some (.int 20 t) := T.int "MOST_ROWS" 20 17
theorem c_LAST_HOUR (T : Tp K mg) : ∃ t, mg "LAST_HOUR" = some (.int 100000 t) := T.int "LAST_HOUR" 100000 18
theorem c_FARTHEST (T : Tp K mg) : ∃ t, mg "FARTHEST" = some (.int 10000 t) := T.int "FARTHEST" 10000 19
theorem c_MOST_SIGNS (T : Tp K mg) : ∃ t, mg "MOST_SIGNS" = some (.int 8 t) := T.int "MOST_SIGNS" 8 20
theorem c_WHOLE (T : Tp K mg) : ∃ t, mg "WHOLE" = some (.int 8 t) := T.int "WHOLE" 8 21
theorem c_MOST_CLASSES (T : Tp K mg) : ∃ t, mg "MOST_CLASSES" = some (.int 6 t) := T.int "MOST_CLASSES" 6 22
theorem c_MOST_RANKS (T : Tp K mg) : ∃ t, mg "MOST_RANKS" = some (.int 20 t) := T.int "MOST_RANKS" 20 23
theorem c_MOST_GROSS (T : Tp K mg) : ∃ t, mg "MOST_GROSS" = some (.int 1000000000000 t) := T.int "MOST_GROSS" 1000000000000 24
theorem c_MOST_RATE (T : Tp K mg) : ∃ t, mg "MOST_RATE" = some (.int 10000 t) := T.int "MOST_RATE" 10000 25
theorem c_MOST_HEADS (T : Tp K mg) : ∃ t, mg "MOST_HEADS" = some (.int 1000 t) := T.int "MOST_HEADS" 1000 26
theorem c_MOST_BOUNTY (T : Tp K mg) : ∃ t, mg "MOST_BOUNTY" = some (.int 1000000000 t) := T.int "MOST_BOUNTY" 1000000000 27
theorem c_MOST_PAGES (T : Tp K mg) : ∃ t, mg "MOST_PAGES" = some (.int 60 t) := T.int "MOST_PAGES" 60 28
theorem c_MOST_DAY (T : Tp K mg) : ∃ t, mg "MOST_DAY" = some (.int 1000000 t) := T.int "MOST_DAY" 1000000 29
theorem c_MOST_HOUR (T : Tp K mg) : ∃ t, mg "MOST_HOUR" = some (.int 100000 t) := T.int "MOST_HOUR" 100000 30
theorem c_MOST_MILES (T : Tp K mg) : ∃ t, mg "MOST_MILES" = some (.int 100000 t) := T.int "MOST_MILES" 100000 31
theorem c_MOST_PENCE (T : Tp K mg) : ∃ t, mg "MOST_PENCE" = some (.int 1000000000000 t) := T.int "MOST_PENCE" 1000000000000 32
theorem cs_LETTERS (T : Tp K mg) : ∃ t, mg "LETTERS" = some (.str "abcdefghijklmnopqrstuvwxyz" t) := T.txt "LETTERS" "abcdefghijklmnopqrstuvwxyz" 0
end
/-! ### the head -/
abbrev R : PySem.W.OpenRow := PySem.W.OpenLaw.row PySem.Challenge.rw_prizelog_k62_pages_known
abbrev hk : PySem.W.Hook := hookX 5 fa fn fx
def ob (s : PySem.W.SharedT) : He.Al × Bool × Bool := (He.obsG 5 fa fn (HandSHeadRun.getT s), sysB (HandSHeadRun.getT s), fxG 5 fx (HandSHeadRun.getT s))
theorem ob_eq (s : PySem.W.SharedT) : ob s = hk.obs s.abs := obsX_eq (HandSHeadRun.getT_eq s)
def loose : List Str := "is_whole" :: "is_within" :: "are_wholes" :: "divisor_of" :: "is_fraction" :: "MOST_ROWS" :: "LAST_HOUR" :: "FARTHEST" :: "is_hour" :: "is_hour_tracks" :: "is_log_row" :: "is_log" :: "LETTERS" :: "MOST_SIGNS" :: "is_name" :: "WHOLE" :: "MOST_CLASSES" :: "MOST_RANKS" :: "are_heads" :: "are_eighths" :: "is_pair" :: "is_scheme" :: "MOST_GROSS" :: "MOST_RATE" :: "MOST_HEADS" :: "MOST_BOUNTY" :: "is_part" :: "is_sale" :: "MOST_PAGES" :: "MOST_DAY" :: "MOST_HOUR" :: "MOST_MILES" :: "MOST_PENCE" :: "is_hour_pages" :: "is_day" :: "is_muster" :: "is_taking" :: "is_body" :: "is_page" :: "are_pages" :: "_law_pot_of" :: "_law_draw" :: "_law_whole" :: "_law_name" :: "_law_shuffled" :: "_law_log" :: "_law_scheme" :: "_law_sale" :: "_law_folk" :: "_law_core" :: "_law_more" :: "_law_book" :: "_law_spoilt" :: "_law_within" :: "_law_is_name" :: "_law_is_log" :: "_law_is_scheme" :: "_law_is_part" :: "_law_is_sale" :: "_law_is_body" :: "_law_is_page" :: "_law_are_pages" :: "_law_odds" :: []
theorem run (w : World) : HandSHeadRun.RunEq R (PySem.W.view R.prog [71]) hk ob 20000 loose w := by
  intro os
  kernel_rfl
def q_is_whole (thing : PyData) (K : PyData → Prop) : Prop :=
  vAnd (isiB thing "int") (fun k1 => k1 (.bool (!(isiB thing "bool")))) fun t2 =>
  K t2
def q_is_within (thing : PyData) (least : PyData) (most : PyData) (K : PyData → Prop) : Prop :=
  q_is_whole thing fun i1 =>
  bT i1 fun b2 =>
  vAnd b2 (fun k8 => oLe least thing fun t3 =>
  bT t3 fun b4 =>
  vAnd b4 (fun k6 => oLe thing most fun t5 =>
  k6 t5) fun t7 =>
  k8 t7) fun t9 =>
  K t9
def qb_are_wholes_1 (d : PyData) (i : PyData × PyData) (s : Unit) (sk : (PyData × PyData) → Unit → Prop) (yd : PyData → (PyData × PyData) → Unit → Prop) : Prop :=
  q_is_whole d fun i5 =>
  yd i5 (i.1, i.2) ()
def q_are_wholes (thing : PyData) (many : PyData) (K : PyData → Prop) : Prop :=
  vAnd (isiB thing "tuple") (fun k12 => nLen [thing] fun t1 =>
  oEq t1 many fun t2 =>
  bT t2 fun b3 =>
  vAnd b3 (fun k10 => itemsQ thing fun l4 =>
  qLc qb_are_wholes_1 (thing, many) l4 [] () fun l6 s8 =>
  nAll [(.list l6)] fun t9 =>
  k10 t9) fun t11 =>
  k12 t11) fun t13 =>
  K t13
def qb_divisor_of_1 (K : PyData → Prop) (i : Unit) (s : PyData × PyData) (nx bk : Unit → (PyData × PyData) → Prop) : Prop :=
  oGt s.2 (.int 0) fun t3 =>
  bT t3 fun b4 =>
  bIf b4
  (oMod s.1 s.2 fun t5 =>
  nx () (s.2, t5))
  (bk () (s.1, s.2))
def q_divisor_of (one : PyData) (other : PyData) (K : PyData → Prop) : Prop :=
  nAbs [one] fun t1 =>
  nAbs [other] fun t2 =>
  qWhile (qb_divisor_of_1 K) () (t1, t2) fun s7 =>
  K s7.1
def q_is_fraction (thing : PyData) (K : PyData → Prop) : Prop :=
  q_are_wholes thing (.int 2) fun a1 =>
  bT a1 fun b2 =>
  vAnd b2 (fun k12 => oIx thing (.int 1) fun t3 =>
  oGt t3 (.int 0) fun t4 =>
  bT t4 fun b5 =>
  vAnd b5 (fun k10 => oIx thing (.int 0) fun t6 =>
  oIx thing (.int 1) fun t7 =>
  q_divisor_of t6 t7 fun d8 =>
  oEq d8 (.int 1) fun t9 =>
  k10 t9) fun t11 =>
  k12 t11) fun t13 =>
  K t13
def q_is_hour_tracks (thing : PyData) (K : PyData → Prop) : Prop :=
  q_is_whole thing fun i1 =>
  bT i1 fun b2 =>
  vAnd b2 (fun k8 => oLe (.int 0) thing fun t3 =>
  bT t3 fun b4 =>
  vAnd b4 (fun k6 => oLe thing (.int (100000)) fun t5 =>
  k6 t5) fun t7 =>
  k8 t7) fun t9 =>
  K t9
def qb_is_log_row_1 (d : PyData) (i : PyData) (s : Unit) (sk : PyData → Unit → Prop) (yd : PyData → PyData → Unit → Prop) : Prop :=
  q_is_whole d fun i13 =>
  bT i13 fun b14 =>
  vAnd b14 (fun k17 => nAbs [d] fun t15 =>
  oLe t15 (.int (10000)) fun t16 =>
  k17 t16) fun t18 =>
  yd t18 i ()
def q_is_log_row (thing : PyData) (K : PyData → Prop) : Prop :=
  tOr (!(isiB thing "tuple")) (fun k9 => nLen [thing] fun t1 =>
  oNe t1 (.int 3) fun t2 =>
  bT t2 fun b3 =>
  tOr b3 (fun k7 => oIx thing (.int 0) fun t4 =>
  q_is_hour_tracks t4 fun i5 =>
  bT i5 fun b6 =>
  k7 (!b6)) fun b8 =>
  k9 b8) fun b10 =>
  bIf b10
  (K (.bool false))
  (oSl thing (some 1) none fun l11 =>
  itemsQ l11 fun l12 =>
  qLc qb_is_log_row_1 thing l12 [] () fun l19 s21 =>
  nAll [(.list l19)] fun t22 =>
  K t22)
def qb_is_log_1 (d : PyData) (i : PyData) (s : Unit) (sk : PyData → Unit → Prop) (yd : PyData → PyData → Unit → Prop) : Prop :=
  q_is_log_row d fun i9 =>
  yd i9 i ()
def qb_is_log_2 (d : PyData) (i : PyData) (s : Unit) (sk : PyData → Unit → Prop) (yd : PyData → PyData → Unit → Prop) : Prop :=
  tupQ d fun r =>
  consQ r fun one' r1 =>
  consQ r1 fun other' r2 =>
  nilQ r2 (oIx one' (.int 0) fun t21 =>
  oIx other' (.int 0) fun t22 =>
  oLt t21 t22 fun t23 =>
  yd t23 i ())
def q_is_log (thing : PyData) (K : PyData → Prop) : Prop :=
  tOr (!(isiB thing "tuple")) (fun k17 => nLen [thing] fun t1 =>
  oLe (.int 1) t1 fun t2 =>
  bT t2 fun b3 =>
  vAnd b3 (fun k5 => oLe t1 (.int (20)) fun t4 =>
  k5 t4) fun t6 =>
  bT t6 fun b7 =>
  tOr (!b7) (fun k15 => itemsQ thing fun l8 =>
  qLc qb_is_log_1 thing l8 [] () fun l10 s12 =>
  nAll [(.list l10)] fun t13 =>
  bT t13 fun b14 =>
  k15 (!b14)) fun b16 =>
  k17 b16) fun b18 =>
  bIf b18
  (K (.bool false))
  (oSl thing (some 1) none fun l19 =>
  zipQ [thing, l19] fun l20 =>
  qLc qb_is_log_2 thing l20 [] () fun l24 s26 =>
  nAll [(.list l24)] fun t27 =>
  K t27)
def qb_is_name_1 (d : PyData) (i : PyData) (s : Unit) (sk : PyData → Unit → Prop) (yd : PyData → PyData → Unit → Prop) : Prop :=
  oIn d (.str "abcdefghijklmnopqrstuvwxyz") fun t11 =>
  yd t11 i ()
def q_is_name (thing : PyData) (K : PyData → Prop) : Prop :=
  tOr (!(isiB thing "str")) (fun k8 => nLen [thing] fun t1 =>
  oLe (.int 1) t1 fun t2 =>
  bT t2 fun b3 =>
  vAnd b3 (fun k5 => oLe t1 (.int (8)) fun t4 =>
  k5 t4) fun t6 =>
  bT t6 fun b7 =>
  k8 (!b7)) fun b9 =>
  bIf b9
  (K (.bool false))
  (itemsQ thing fun l10 =>
  qLc qb_is_name_1 thing l10 [] () fun l12 s14 =>
  nAll [(.list l12)] fun t15 =>
  K t15)
def qb_are_heads_1 (d : PyData) (i : PyData) (s : Unit) (sk : PyData → Unit → Prop) (yd : PyData → PyData → Unit → Prop) : Prop :=
  q_is_whole d fun i7 =>
  bT i7 fun b8 =>
  vAnd b8 (fun k10 => oGe d (.int 0) fun t9 =>
  k10 t9) fun t11 =>
  yd t11 i ()
def q_are_heads (thing : PyData) (many : PyData) (K : PyData → Prop) : Prop :=
  tOr (!(isiB thing "tuple")) (fun k4 => nLen [thing] fun t1 =>
  oNe t1 many fun t2 =>
  bT t2 fun b3 =>
  k4 b3) fun b5 =>
  bIf b5
  (K (.bool false))
  (itemsQ thing fun l6 =>
  qLc qb_are_heads_1 thing l6 [] () fun l12 s14 =>
  nAll [(.list l12)] fun t15 =>
  K t15)
def q_are_eighths (thing : PyData) (K : PyData → Prop) : Prop :=
  tOr (!(isiB thing "tuple")) (fun k8 => nLen [thing] fun t1 =>
  oLe (.int 1) t1 fun t2 =>
  bT t2 fun b3 =>
  vAnd b3 (fun k5 => oLe t1 (.int (6)) fun t4 =>
  k5 t4) fun t6 =>
  bT t6 fun b7 =>
  k8 (!b7)) fun b9 =>
  bIf b9
  (K (.bool false))
  (nLen [thing] fun t10 =>
  q_are_heads thing t10 fun a11 =>
  bT a11 fun b12 =>
  vAnd b12 (fun k15 => nSum [thing] fun t13 =>
  oEq t13 (.int (8)) fun t14 =>
  k15 t14) fun t16 =>
  K t16)
def q_is_pair (thing : PyData) (classes : PyData) (K : PyData → Prop) : Prop :=
  tOr (!(isiB thing "tuple")) (fun k9 => nLen [thing] fun t1 =>
  oNe t1 (.int 2) fun t2 =>
  bT t2 fun b3 =>
  tOr b3 (fun k7 => oIx thing (.int 0) fun t4 =>
  q_is_name t4 fun i5 =>
  bT i5 fun b6 =>
  k7 (!b6)) fun b8 =>
  k9 b8) fun b10 =>
  bIf b10
  (K (.bool false))
  (oIx thing (.int 1) fun t11 =>
  q_is_whole t11 fun i12 =>
  bT i12 fun b13 =>
  vAnd b13 (fun k20 => oIx thing (.int 1) fun t14 =>
  oLe (.int 0) t14 fun t15 =>
  bT t15 fun b16 =>
  vAnd b16 (fun k18 => oLt t14 classes fun t17 =>
  k18 t17) fun t19 =>
  k20 t19) fun t21 =>
  K t21)
def qb_is_scheme_1 (d : PyData) (i : PyData × PyData) (s : Unit) (sk : (PyData × PyData) → Unit → Prop) (yd : PyData → (PyData × PyData) → Unit → Prop) : Prop :=
  nLen [i.1] fun t22 =>
  q_is_pair d t22 fun i23 =>
  yd i23 (i.1, i.2) ()
def qb_is_scheme_2 (d : PyData) (i : PyData) (s : Unit) (sk : PyData → Unit → Prop) (yd : PyData → PyData → Unit → Prop) : Prop :=
  tupQ d fun r =>
  consQ r fun one' r1 =>
  consQ r1 fun other' r2 =>
  nilQ r2 (oIx one' (.int 0) fun t31 =>
  oIx other' (.int 0) fun t32 =>
  oLt t31 t32 fun t33 =>
  yd t33 i ())
def q_is_scheme (thing : PyData) (K : PyData → Prop) : Prop :=
  tOr (!(isiB thing "tuple")) (fun k9 => nLen [thing] fun t1 =>
  oNe t1 (.int 2) fun t2 =>
  bT t2 fun b3 =>
  tOr b3 (fun k7 => oIx thing (.int 0) fun t4 =>
  q_are_eighths t4 fun a5 =>
  bT a5 fun b6 =>
  k7 (!b6)) fun b8 =>
  k9 b8) fun b10 =>
  bIf b10
  (K (.bool false))
  (tupQ thing fun r11 =>
  consQ r11 fun eighths12 r13 =>
  consQ r13 fun ranks14 r15 =>
  nilQ r15 (tOr (!(isiB ranks14 "tuple")) (fun k19 => nLen [ranks14] fun t16 =>
  oGt t16 (.int (20)) fun t17 =>
  bT t17 fun b18 =>
  k19 b18) fun b20 =>
  bIf b20
  (K (.bool false))
  (itemsQ ranks14 fun l21 =>
  qLc qb_is_scheme_1 (eighths12, ranks14) l21 [] () fun l24 s26 =>
  nAll [(.list l24)] fun t27 =>
  bT t27 fun b28 =>
  bIf (!b28)
  (K (.bool false))
  (oSl ranks14 (some 1) none fun l29 =>
  zipQ [ranks14, l29] fun l30 =>
  qLc qb_is_scheme_2 ranks14 l30 [] () fun l34 s36 =>
  nAll [(.list l34)] fun t37 =>
  K t37))))
def q_is_part (thing : PyData) (K : PyData → Prop) : Prop :=
  q_is_fraction thing fun i1 =>
  bT i1 fun b2 =>
  vAnd b2 (fun k10 => oIx thing (.int 0) fun t3 =>
  oLe (.int 0) t3 fun t4 =>
  bT t4 fun b5 =>
  vAnd b5 (fun k8 => oIx thing (.int 1) fun t6 =>
  oLe t3 t6 fun t7 =>
  k8 t7) fun t9 =>
  k10 t9) fun t11 =>
  K t11
def qb_is_sale_1 (d : PyData) (i : PyData × PyData) (s : Unit) (sk : (PyData × PyData) → Unit → Prop) (yd : PyData → (PyData × PyData) → Unit → Prop) : Prop :=
  tupQ d fun r =>
  consQ r fun number' r1 =>
  consQ r1 fun bound' r2 =>
  nilQ r2 (q_is_within number' (.int 0) bound' fun i12 =>
  yd i12 (i.1, i.2) ())
def q_is_sale (thing : PyData) (K : PyData → Prop) : Prop :=
  tOr (!(isiB thing "tuple")) (fun k9 => nLen [thing] fun t1 =>
  oNe t1 (.int 6) fun t2 =>
  bT t2 fun b3 =>
  tOr b3 (fun k7 => oIx thing (.int 5) fun t4 =>
  q_is_part t4 fun i5 =>
  bT i5 fun b6 =>
  k7 (!b6)) fun b8 =>
  k9 b8) fun b10 =>
  bIf b10
  (K (.bool false))
  (zipQ [thing, (.tuple [(.int (1000000000000)), (.int (1000000000000)), (.int (10000)), (.int (1000)), (.int (1000000000))])] fun l11 =>
  qLc qb_is_sale_1 (thing, (.tuple [(.int (1000000000000)), (.int (1000000000000)), (.int (10000)), (.int (1000)), (.int (1000000000))])) l11 [] () fun l13 s15 =>
  nAll [(.list l13)] fun t16 =>
  K t16)
def q_is_hour (thing : PyData) (K : PyData → Prop) : Prop :=
  q_is_within thing (.int 0) (.int (100000)) fun i1 =>
  K i1
def q_is_hour_pages (thing : PyData) (K : PyData → Prop) : Prop :=
  q_is_within thing (.int 0) (.int (100000)) fun i1 =>
  K i1
def q_is_day (thing : PyData) (K : PyData → Prop) : Prop :=
  q_is_within thing (.int 0) (.int (1000000)) fun i1 =>
  K i1
def q_is_muster (body : PyData) (K : PyData → Prop) : Prop :=
  oIx body (.int 1) fun t1 =>
  q_is_name t1 fun i2 =>
  bT i2 fun b3 =>
  vAnd b3 (fun k21 => oIx body (.int 2) fun t4 =>
  q_is_hour_pages t4 fun i5 =>
  bT i5 fun b6 =>
  vAnd b6 (fun k19 => oIx body (.int 3) fun t7 =>
  oEqS t7 (.str "") fun t8 =>
  bT t8 fun b9 =>
  vOr b9 (fun k12 => oIx body (.int 3) fun t10 =>
  q_is_name t10 fun i11 =>
  k12 i11) fun t13 =>
  bT t13 fun b14 =>
  vAnd b14 (fun k17 => oIx body (.int 4) fun t15 =>
  q_is_name t15 fun i16 =>
  k17 i16) fun t18 =>
  k19 t18) fun t20 =>
  k21 t20) fun t22 =>
  K t22
def q_is_taking (body : PyData) (K : PyData → Prop) : Prop :=
  oIx body (.int 1) fun t1 =>
  q_is_name t1 fun i2 =>
  bT i2 fun b3 =>
  tOr (!b3) (fun k17 => oIx body (.int 2) fun t4 =>
  q_is_name t4 fun i5 =>
  bT i5 fun b6 =>
  tOr (!b6) (fun k15 => oIx body (.int 3) fun t7 =>
  q_is_hour_pages t7 fun i8 =>
  bT i8 fun b9 =>
  tOr (!b9) (fun k13 => oIx body (.int 4) fun t10 =>
  q_is_hour_pages t10 fun i11 =>
  bT i11 fun b12 =>
  k13 (!b12)) fun b14 =>
  k15 b14) fun b16 =>
  k17 b16) fun b18 =>
  bIf b18
  (K (.bool false))
  (oIx body (.int 3) fun t19 =>
  oIx body (.int 4) fun t20 =>
  oLe t19 t20 fun t21 =>
  bT t21 fun b22 =>
  vAnd b22 (fun k25 => oIx body (.int 5) fun t23 =>
  q_is_within t23 (.int 0) (.int (100000)) fun i24 =>
  k25 i24) fun t26 =>
  K t26)
def q_is_body (number : PyData) (body : PyData) (K : PyData → Prop) : Prop :=
  oIx body (.int 0) fun t1 =>
  nLen [body] fun t2 =>
  oEq t1 (.str "log") fun t3 =>
  bT t3 fun b4 =>
  bIf b4
  (oEq t2 (.int 3) fun t5 =>
  bT t5 fun b6 =>
  vAnd b6 (fun k14 => oIx body (.int 1) fun t7 =>
  q_is_name t7 fun i8 =>
  bT i8 fun b9 =>
  vAnd b9 (fun k12 => oIx body (.int 2) fun t10 =>
  q_is_log t10 fun i11 =>
  k12 i11) fun t13 =>
  k14 t13) fun t15 =>
  K t15)
  (oEq t1 (.str "muster") fun t16 =>
  bT t16 fun b17 =>
  bIf b17
  (oEq t2 (.int 5) fun t18 =>
  bT t18 fun b19 =>
  vAnd b19 (fun k21 => q_is_muster body fun i20 =>
  k21 i20) fun t22 =>
  K t22)
  (oEq t1 (.str "scheme") fun t23 =>
  bT t23 fun b24 =>
  bIf b24
  (oEq t2 (.int 3) fun t25 =>
  bT t25 fun b26 =>
  vAnd b26 (fun k34 => oIx body (.int 1) fun t27 =>
  q_is_hour_pages t27 fun i28 =>
  bT i28 fun b29 =>
  vAnd b29 (fun k32 => oIx body (.int 2) fun t30 =>
  q_is_scheme t30 fun i31 =>
  k32 i31) fun t33 =>
  k34 t33) fun t35 =>
  K t35)
  (oEq t1 (.str "taking") fun t36 =>
  bT t36 fun b37 =>
  bIf b37
  (oEq t2 (.int 6) fun t38 =>
  bT t38 fun b39 =>
  vAnd b39 (fun k41 => q_is_taking body fun i40 =>
  k41 i40) fun t42 =>
  K t42)
  (oEq t1 (.str "sale") fun t43 =>
  bT t43 fun b44 =>
  bIf b44
  (oEq t2 (.int 8) fun t45 =>
  bT t45 fun b46 =>
  vAnd b46 (fun k54 => oIx body (.int 1) fun t47 =>
  q_is_name t47 fun i48 =>
  bT i48 fun b49 =>
  vAnd b49 (fun k52 => oSl body (some 2) none fun l50 =>
  q_is_sale l50 fun i51 =>
  k52 i51) fun t53 =>
  k54 t53) fun t55 =>
  K t55)
  (oEq t1 (.str "finding") fun t56 =>
  bT t56 fun b57 =>
  bIf b57
  (oEq t2 (.int 3) fun t58 =>
  bT t58 fun b59 =>
  vAnd b59 (fun k67 => oIx body (.int 1) fun t60 =>
  q_is_name t60 fun i61 =>
  bT i61 fun b62 =>
  vAnd b62 (fun k65 => oIx body (.int 2) fun t63 =>
  q_is_day t63 fun i64 =>
  k65 i64) fun t66 =>
  k67 t66) fun t68 =>
  K t68)
  (oEq t1 (.str "strike") fun t69 =>
  bT t69 fun b70 =>
  bIf b70
  (oEq t2 (.int 2) fun t71 =>
  bT t71 fun b72 =>
  vAnd b72 (fun k76 => oIx body (.int 1) fun t73 =>
  oSub number (.int 1) fun t74 =>
  q_is_within t73 (.int 0) t74 fun i75 =>
  k76 i75) fun t77 =>
  K t77)
  (oEq t1 (.str "had") fun t78 =>
  bT t78 fun b79 =>
  vAnd b79 (fun k96 => oEq t2 (.int 4) fun t80 =>
  bT t80 fun b81 =>
  vAnd b81 (fun k94 => oIx body (.int 1) fun t82 =>
  q_is_name t82 fun i83 =>
  bT i83 fun b84 =>
  vAnd b84 (fun k92 => oIx body (.int 2) fun t85 =>
  q_is_name t85 fun i86 =>
  bT i86 fun b87 =>
  vAnd b87 (fun k90 => oIx body (.int 3) fun t88 =>
  q_is_within t88 (.int 1) (.int (1000000000000)) fun i89 =>
  k90 i89) fun t91 =>
  k92 t91) fun t93 =>
  k94 t93) fun t95 =>
  k96 t95) fun t97 =>
  K t97)))))))
def q_is_page (thing : PyData) (K : PyData → Prop) : Prop :=
  tOr (!(isiB thing "tuple")) (fun k14 => nLen [thing] fun t1 =>
  oNe t1 (.int 3) fun t2 =>
  bT t2 fun b3 =>
  tOr b3 (fun k12 => oIx thing (.int 0) fun t4 =>
  q_is_day t4 fun i5 =>
  bT i5 fun b6 =>
  tOr (!b6) (fun k10 => oIx thing (.int 1) fun t7 =>
  q_is_day t7 fun i8 =>
  bT i8 fun b9 =>
  k10 (!b9)) fun b11 =>
  k12 b11) fun b13 =>
  k14 b13) fun b15 =>
  bIf b15
  (K (.bool false))
  (oIx thing (.int 2) fun t16 =>
  tOr (!(isiB t16 "tuple")) (fun k24 => oIx thing (.int 2) fun t17 =>
  oEmp false t17 (.tuple []) fun t18 =>
  bT t18 fun b19 =>
  tOr b19 (fun k22 => oIx thing (.int 2) fun t20 =>
  oIx t20 (.int 0) fun t21 =>
  k22 (!(isiB t21 "str"))) fun b23 =>
  k24 b23) fun b25 =>
  bIf b25
  (K (.bool false))
  (oIx thing (.int 1) fun t26 =>
  oIx thing (.int 2) fun t27 =>
  q_is_body t26 t27 fun i28 =>
  K i28))
def qb_are_pages_1 (d : PyData) (i : PyData) (s : Unit) (sk : PyData → Unit → Prop) (yd : PyData → PyData → Unit → Prop) : Prop :=
  q_is_page d fun i5 =>
  yd i5 i ()
def qb_are_pages_2 (d : PyData) (i : PyData) (s : Unit) (sk : PyData → Unit → Prop) (yd : PyData → PyData → Unit → Prop) : Prop :=
  oIx d (.int 1) fun t16 =>
  yd t16 i ()
def q_are_pages (thing : PyData) (K : PyData → Prop) : Prop :=
  tOr (!(isiB thing "tuple")) (fun k13 => nLen [thing] fun t1 =>
  oGt t1 (.int (60)) fun t2 =>
  bT t2 fun b3 =>
  tOr b3 (fun k11 => itemsQ thing fun l4 =>
  qLc qb_are_pages_1 thing l4 [] () fun l6 s8 =>
  nAll [(.list l6)] fun t9 =>
  bT t9 fun b10 =>
  k11 (!b10)) fun b12 =>
  k13 b12) fun b14 =>
  bIf b14
  (K (.bool false))
  (itemsQ thing fun l15 =>
  qLc qb_are_pages_2 thing l15 [] () fun l17 s19 =>
  lenSetIQ (.list l17) fun t20 =>
  nLen [thing] fun t21 =>
  oEq t20 t21 fun t22 =>
  K t22)
def q_law_pot_of (script : PyData) (k : PyData) (K : List PyData → Prop) : Prop :=
  nLen [script] fun t1 =>
  oLt k t1 fun t2 =>
  bT t2 fun b3 =>
  jn (fun J10 => bIf b3
  (oIx script k fun t4 =>
  nAbs [t4] fun t5 =>
  oPow (.int 10) (.int 60) fun t6 =>
  oPow t6 (.int 14) fun t7 =>
  oMod t5 t7 fun cell8 =>
  J10 cell8)
  (J10 (.int 0))) fun cell9 =>
  oPow (.int 10) (.int 18) fun t11 =>
  oGe cell9 t11 fun t12 =>
  nInt [t12] fun t13 =>
  oMul cell9 t13 fun t14 =>
  oMod cell9 (.int 2147483629) fun t15 =>
  oMul (.int 7919) k fun t16 =>
  oAdd t15 t16 fun t17 =>
  oAdd t17 (.int 1) fun t18 =>
  oPow t18 (.int 5) fun t19 =>
  oMod t19 (.int 2147483647) fun t20 =>
  K [t14, t20]
def q_law_draw (pot : List PyData) (many : PyData) (K : PyData → List PyData → Prop) : Prop :=
  ixQ pot (.int 0) fun t1 =>
  oGt t1 (.int 0) fun t2 =>
  bT t2 fun b3 =>
  bIf b3
  (ixQ pot (.int 0) fun t4 =>
  oMod t4 many fun found5 =>
  ixQ pot (.int 0) fun t6 =>
  oDiv t6 many fun t7 =>
  stQ pot (.int 0) t7 fun pot8 =>
  K found5 pot8)
  (ixQ pot (.int 1) fun t9 =>
  oMul t9 (.int 69621) fun t10 =>
  oAdd t10 (.int 12345) fun t11 =>
  oMod t11 (.int 2147483647) fun t12 =>
  stQ pot (.int 1) t12 fun pot13 =>
  ixQ pot13 (.int 1) fun t14 =>
  ixQ pot13 (.int 1) fun t15 =>
  oMul t14 t15 fun t16 =>
  oMod t16 (.int 2147483629) fun t17 =>
  oDiv t17 (.int 64) fun t18 =>
  oMod t18 many fun t19 =>
  K t19 pot13)
def q_law_whole (thing : PyData) (K : PyData → Prop) : Prop :=
  vAnd (isiB thing "int") (fun k1 => k1 (.bool (!(isiB thing "bool")))) fun t2 =>
  K t2
def qb_law_name_1 (d : PyData) (i : PyData × PyData) (s : List PyData) (sk : (PyData × PyData) → (List PyData) → Prop) (yd : PyData → (PyData × PyData) → (List PyData) → Prop) : Prop :=
  q_law_draw s (.int 26) fun d4 pot5 =>
  oIx i.2 d4 fun t6 =>
  yd t6 (i.1, i.2) pot5
def q_law_name (pot : List PyData) (last : PyData) (K : PyData → List PyData → Prop) : Prop :=
  q_law_draw pot (.int 8) fun d1 pot2 =>
  rng1 [d1] fun l3 =>
  qLc qb_law_name_1 (last, (.str "abcdefghijklmnopqrstuvwxyz")) l3 [] pot2 fun l7 s9 =>
  nJoin "" (.list l7) fun t10 =>
  oIx (.str "abcdefghijklmnopqrstuvwxyz") last fun t11 =>
  oAdd t10 t11 fun t12 =>
  K t12 s9
def qb_law_shuffled_1 (d : PyData) (i : PyData) (s : List PyData × List PyData) (sk : PyData → (List PyData × List PyData) → Prop) (yd : PyData → PyData → (List PyData × List PyData) → Prop) : Prop :=
  q_law_draw s.1 (.int ((List.length s.2 : Nat) : Int)) fun d4 pot5 =>
  popQ s.2 d4 fun t6 left7 =>
  yd t6 i (pot5, left7)
def q_law_shuffled (pot : List PyData) (some_ : PyData) (K : PyData → List PyData → Prop) : Prop :=
  nList [some_] fun l1 =>
  nLen [some_] fun t2 =>
  rng1 [t2] fun l3 =>
  qLc qb_law_shuffled_1 some_ l3 [] (pot, l1) fun l8 s10 =>
  nTuple [(.list l8)] fun t11 =>
  K t11 s10.1
def qb_law_log_1 (K : PyData → List PyData → Prop) (d : PyData) (i : Unit) (s : List PyData × PyData × List PyData) (nx bk : Unit → (List PyData × PyData × List PyData) → Prop) : Prop :=
  q_law_draw s.1 (.int 13) fun d7 pot8 =>
  oSub d7 (.int 6) fun t9 =>
  q_law_draw pot8 (.int 13) fun d10 pot11 =>
  oSub d10 (.int 6) fun t12 =>
  apQ s.2.2 (.tuple [s.2.1, t9, t12]) fun found13 =>
  oAdd s.2.1 (.int 1) fun t14 =>
  q_law_draw pot11 (.int 12) fun d15 pot16 =>
  oAdd t14 d15 fun hour17 =>
  nx () (pot16, hour17, found13)
def q_law_log (pot : List PyData) (K : PyData → List PyData → Prop) : Prop :=
  q_law_draw pot (.int 12) fun hour1 pot2 =>
  q_law_draw pot2 (.int 4) fun d3 pot4 =>
  oAdd (.int 1) d3 fun t5 =>
  rng1 [t5] fun l6 =>
  qFor (qb_law_log_1 K) () l6 (pot4, hour1, []) fun s19 =>
  K (.tuple s19.2.2) s19.1
def qb_law_scheme_1 (K : PyData → List PyData → Prop) (d : PyData) (i : PyData × PyData) (s : List PyData × List PyData) (nx bk : (PyData × PyData) → (List PyData × List PyData) → Prop) : Prop :=
  q_law_draw s.1 i.2 fun at_6 pot7 =>
  ixQ s.2 at_6 fun t8 =>
  oAdd t8 (.int 1) fun t9 =>
  stQ s.2 at_6 t9 fun eighths10 =>
  nx (i.1, i.2) (pot7, eighths10)
def qb_law_scheme_2 (d : PyData) (i : PyData × PyData × List PyData) (s : List PyData) (sk : (PyData × PyData × List PyData) → (List PyData) → Prop) (yd : PyData → (PyData × PyData × List PyData) → (List PyData) → Prop) : Prop :=
  q_law_draw s (.int 4) fun d15 pot16 =>
  oGt d15 (.int 0) fun t17 =>
  bT t17 fun b18 =>
  bIf b18
  (q_law_draw pot16 i.2.1 fun d19 pot20 =>
  yd (.tuple [d, d19]) (i.1, i.2.1, i.2.2) pot20)
  (sk (i.1, i.2.1, i.2.2) pot16)
def q_law_scheme (pot : List PyData) (ranks : PyData) (K : PyData → List PyData → Prop) : Prop :=
  q_law_draw pot (.int 4) fun d1 pot2 =>
  oAdd (.int 1) d1 fun classes3 =>
  repQ (.int 0) classes3 fun l4 =>
  rng1 [(.int 8)] fun l5 =>
  qFor (qb_law_scheme_1 K) (ranks, classes3) l5 (pot2, l4) fun s12 =>
  sortedQ ranks fun l13 =>
  itemsQ (.list l13) fun l14 =>
  qLc qb_law_scheme_2 (ranks, classes3, s12.2) l14 [] s12.1 fun l21 s23 =>
  K (.tuple [(.tuple s12.2), (.tuple l21)]) s23
def q_law_sale (pot : List PyData) (K : PyData → List PyData → Prop) : Prop :=
  q_law_draw pot (.int 4) fun way1 pot2 =>
  q_law_draw pot2 (.int 60) fun d3 pot4 =>
  q_law_draw pot4 (.int 60) fun d5 pot6 =>
  oPow (.int 10) (.int 12) fun t7 =>
  oAdd t7 (.int 1) fun t8 =>
  q_law_draw pot6 t8 fun d9 pot10 =>
  oPow (.int 10) (.int 12) fun t11 =>
  oIx (.tuple [d3, d5, d9, t11]) way1 fun gross12 =>
  q_law_draw pot10 (.int 20) fun d13 pot14 =>
  oPow (.int 10) (.int 12) fun t15 =>
  oAdd t15 (.int 1) fun t16 =>
  q_law_draw pot14 t16 fun d17 pot18 =>
  q_law_draw pot18 (.int 20) fun d19 pot20 =>
  q_law_draw pot20 (.int 4) fun d21 pot22 =>
  oIx (.tuple [(.int 0), d13, d17, d19]) d21 fun charges23 =>
  q_law_draw pot22 (.int 10001) fun d24 pot25 =>
  q_law_draw pot25 (.int 4) fun d26 pot27 =>
  oIx (.tuple [(.int 0), d24, (.int 500), (.int 10000)]) d26 fun rate28 =>
  q_law_draw pot27 (.int 4) fun d29 pot30 =>
  oIx (.tuple [(.tuple [(.int 1), (.int 1)]), (.tuple [(.int 1), (.int 8)]), (.tuple [(.int 1), (.int 2)]), (.tuple [(.int 0), (.int 1)])]) d29 fun part31 =>
  q_law_draw pot30 (.int 4) fun d32 pot33 =>
  q_law_draw pot33 (.int 9) fun d34 pot35 =>
  oPow (.int 10) (.int 9) fun t36 =>
  q_law_draw pot35 (.int 9) fun d37 pot38 =>
  oDiv d37 (.int 8) fun t39 =>
  oIx (.tuple [d34, t36]) t39 fun t40 =>
  K (.tuple [gross12, charges23, rate28, d32, t40, part31]) pot38
def qb_law_folk_1 (d : PyData) (i : Unit) (s : List PyData) (sk : Unit → (List PyData) → Prop) (yd : PyData → Unit → (List PyData) → Prop) : Prop :=
  q_law_name s d fun n5 pot6 =>
  yd n5 () pot6
def qb_law_folk_2 (d : PyData) (i : List PyData) (s : List PyData) (sk : (List PyData) → (List PyData) → Prop) (yd : PyData → (List PyData) → (List PyData) → Prop) : Prop :=
  oAdd (.int 5) d fun t14 =>
  q_law_name s t14 fun n15 pot16 =>
  yd n15 i pot16
def qb_law_folk_3 (d : PyData) (i : List PyData × List PyData) (s : List PyData) (sk : (List PyData × List PyData) → (List PyData) → Prop) (yd : PyData → (List PyData × List PyData) → (List PyData) → Prop) : Prop :=
  oAdd (.int 12) d fun t21 =>
  q_law_name s t21 fun n22 pot23 =>
  yd n22 (i.1, i.2) pot23
def q_law_folk (pot : List PyData) (K : PyData → List PyData → Prop) : Prop :=
  q_law_draw pot (.int 4) fun d1 pot2 =>
  oAdd (.int 1) d1 fun t3 =>
  rng1 [t3] fun l4 =>
  qLc qb_law_folk_1 () l4 [] pot2 fun l7 s9 =>
  q_law_draw s9 (.int 6) fun d10 pot11 =>
  oAdd (.int 1) d10 fun t12 =>
  rng1 [t12] fun l13 =>
  qLc qb_law_folk_2 l7 l13 [] pot11 fun l17 s19 =>
  rng1 [(.int 3)] fun l20 =>
  qLc qb_law_folk_3 (l7, l17) l20 [] s19 fun l24 s26 =>
  q_law_name s26 (.int 20) fun n27 pot28 =>
  q_law_name pot28 (.int 21) fun n29 pot30 =>
  K (.tuple [(.list l7), (.list l17), (.list l24), (.list [n27, n29])]) pot30
def qb_law_core_2 (d : PyData) (i : PyData × PyData × PyData × PyData × List PyData × PyData) (s : List PyData) (sk : (PyData × PyData × PyData × PyData × List PyData × PyData) → (List PyData) → Prop) (yd : PyData → (PyData × PyData × PyData × PyData × List PyData × PyData) → (List PyData) → Prop) : Prop :=
  q_law_log s fun l15 pot16 =>
  yd (.tuple [(.str "log"), i.2.2.2.2.2, l15]) (i.1, i.2.1, i.2.2.1, i.2.2.2.1, i.2.2.2.2.1, i.2.2.2.2.2) pot16
def qb_law_core_1 (K : PyData → List PyData → Prop) (d : PyData) (i : PyData × PyData × PyData × PyData) (s : List PyData × List PyData) (nx bk : (PyData × PyData × PyData × PyData) → (List PyData × List PyData) → Prop) : Prop :=
  q_law_draw s.1 (.int 3) fun d11 pot12 =>
  oAdd (.int 1) d11 fun t13 =>
  rng1 [t13] fun l14 =>
  qLc qb_law_core_2 (i.1, i.2.1, i.2.2.1, i.2.2.2, s.2, d) l14 [] pot12 fun l17 s19 =>
  exQ s.2 l17 fun found20 =>
  nx (i.1, i.2.1, i.2.2.1, i.2.2.2) (s19, found20)
def qb_law_core_3 (K : PyData → List PyData → Prop) (d : PyData) (i : PyData × PyData × PyData) (s : List PyData × List PyData) (nx bk : (PyData × PyData × PyData) → (List PyData × List PyData) → Prop) : Prop :=
  tupQ d fun r24 =>
  consQ r24 fun k25 r26 =>
  consQ r26 fun man27 r28 =>
  nilQ r28 (oIx i.1 (.int 0) fun t29 =>
  oAdd (.list [t29]) i.1 fun t30 =>
  oAdd t30 (.list [(.str "")]) fun t31 =>
  nLen [i.1] fun t32 =>
  oAdd t32 (.int 2) fun t33 =>
  q_law_draw s.1 t33 fun d34 pot35 =>
  oGt k25 (.int 0) fun t36 =>
  nInt [t36] fun t37 =>
  oMul d34 t37 fun t38 =>
  oIx t31 t38 fun ship39 =>
  q_law_draw pot35 (.int 8) fun d40 pot41 =>
  q_law_draw pot41 (.int 3) fun d42 pot43 =>
  oIx i.2.1 d42 fun t44 =>
  apQ s.2 (.tuple [(.str "muster"), man27, d40, ship39, t44]) fun found45 =>
  nx (i.1, i.2.1, i.2.2) (pot43, found45))
def q_law_core (pot : List PyData) (folk_here : PyData) (K : PyData → List PyData → Prop) : Prop :=
  tupQ folk_here fun r1 =>
  consQ r1 fun ships2 r3 =>
  consQ r3 fun men4 r5 =>
  consQ r5 fun ranks6 r7 =>
  consQ r7 fun prizes8 r9 =>
  nilQ r9 (itemsQ ships2 fun l10 =>
  qFor (qb_law_core_1 K) (ships2, men4, ranks6, prizes8) l10 (pot, []) fun s22 =>
  enumQ [men4] fun l23 =>
  qFor (qb_law_core_3 K) (ships2, ranks6, prizes8) l23 (s22.1, s22.2) fun s47 =>
  q_law_draw s47.1 (.int 6) fun d48 pot49 =>
  q_law_scheme pot49 ranks6 fun s50 pot51 =>
  apQ s47.2 (.tuple [(.str "scheme"), d48, s50]) fun found52 =>
  q_law_draw pot51 (.int 14) fun d53 pot54 =>
  oAdd (.int 6) d53 fun low55 =>
  oIx prizes8 (.int 0) fun t56 =>
  oIx ships2 (.int 0) fun t57 =>
  q_law_draw pot54 (.int 20) fun d58 pot59 =>
  oAdd low55 d58 fun t60 =>
  q_law_draw pot59 (.int 9) fun d61 pot62 =>
  apQ found52 (.tuple [(.str "taking"), t56, t57, low55, t60, d61]) fun found63 =>
  oIx prizes8 (.int 0) fun t64 =>
  q_law_sale pot62 fun s65 pot66 =>
  oAdd (.tuple [(.str "sale"), t64]) s65 fun t67 =>
  apQ found63 t67 fun found68 =>
  q_law_draw pot66 (.int 6) fun d69 pot70 =>
  oEq d69 (.int 0) fun t71 =>
  bT t71 fun b72 =>
  jn (fun J79 => bIf b72
  (q_law_draw pot70 (.int ((List.length found68 : Nat) : Int)) fun d73 pot74 =>
  popQ found68 d73 fun t75 found76 =>
  J79 pot74 found76)
  (J79 pot70 found68)) fun pot77 found78 =>
  K (.list found78) pot77)
def q_law_more (pot : List PyData) (folk_here : PyData) (numbers : PyData) (own : PyData) (K : PyData → List PyData → Prop) : Prop :=
  tupQ folk_here fun r1 =>
  consQ r1 fun ships2 r3 =>
  consQ r3 fun men4 r5 =>
  consQ r5 fun ranks6 r7 =>
  consQ r7 fun prizes8 r9 =>
  nilQ r9 (nLen [ships2] fun t10 =>
  q_law_draw pot t10 fun d11 pot12 =>
  oIx ships2 d11 fun ship13 =>
  nLen [men4] fun t14 =>
  q_law_draw pot12 t14 fun d15 pot16 =>
  oIx men4 d15 fun man17 =>
  q_law_draw pot16 (.int 5) fun d18 pot19 =>
  oDiv d18 (.int 4) fun t20 =>
  oIx prizes8 t20 fun prize21 =>
  nLen [numbers] fun t22 =>
  q_law_draw pot19 t22 fun d23 pot24 =>
  oIx numbers d23 fun number25 =>
  q_law_draw pot24 (.int 12) fun way26 pot27 =>
  oEq way26 (.int 0) fun t28 =>
  bT t28 fun b29 =>
  bIf b29
  (q_law_log pot27 fun l30 pot31 =>
  K (.tuple [(.str "log"), ship13, l30]) pot31)
  (oEq way26 (.int 1) fun t32 =>
  bT t32 fun b33 =>
  bIf b33
  (oAdd ships2 (.list [(.str "")]) fun t34 =>
  nLen [ships2] fun t35 =>
  oAdd t35 (.int 1) fun t36 =>
  q_law_draw pot27 t36 fun d37 pot38 =>
  oIx t34 d37 fun aboard39 =>
  q_law_draw pot38 (.int 40) fun d40 pot41 =>
  q_law_draw pot41 (.int 3) fun d42 pot43 =>
  oIx ranks6 d42 fun t44 =>
  K (.tuple [(.str "muster"), man17, d40, aboard39, t44]) pot43)
  (oEq way26 (.int 2) fun t45 =>
  bT t45 fun b46 =>
  bIf b46
  (q_law_draw pot27 (.int 30) fun d47 pot48 =>
  q_law_scheme pot48 ranks6 fun s49 pot50 =>
  K (.tuple [(.str "scheme"), d47, s49]) pot50)
  (oEq way26 (.int 3) fun t51 =>
  bT t51 fun b52 =>
  bIf b52
  (q_law_draw pot27 (.int 20) fun low53 pot54 =>
  q_law_draw pot54 (.int 20) fun d55 pot56 =>
  oAdd low53 d55 fun t57 =>
  q_law_draw pot56 (.int 9) fun d58 pot59 =>
  K (.tuple [(.str "taking"), prize21, ship13, low53, t57, d58]) pot59)
  (oEq way26 (.int 4) fun t60 =>
  bT t60 fun b61 =>
  bIf b61
  (q_law_sale pot27 fun s62 pot63 =>
  oAdd (.tuple [(.str "sale"), prize21]) s62 fun t64 =>
  K t64 pot63)
  (oLt way26 (.int 7) fun t65 =>
  bT t65 fun b66 =>
  bIf b66
  (q_law_draw pot27 (.int 9) fun d67 pot68 =>
  oPow (.int 10) (.int 12) fun t69 =>
  q_law_draw pot68 t69 fun d70 pot71 =>
  q_law_draw pot71 (.int 4) fun d72 pot73 =>
  oDiv d72 (.int 3) fun t74 =>
  oIx (.tuple [d67, d70]) t74 fun t75 =>
  oAdd (.int 1) t75 fun t76 =>
  K (.tuple [(.str "had"), man17, prize21, t76]) pot73)
  (oLt way26 (.int 9) fun t77 =>
  bT t77 fun b78 =>
  tAnd b78 (fun k81 => oLt number25 own fun t79 =>
  bT t79 fun b80 =>
  k81 b80) fun b82 =>
  bIf b82
  (K (.tuple [(.str "strike"), number25]) pot27)
  (K (.tuple [(.str "finding"), ship13, number25]) pot27))))))))
def qb_law_book_1 (K : PyData → List PyData → Prop) (d : PyData) (i : PyData × PyData × PyData) (s : List PyData × List PyData × PyData) (nx bk : (PyData × PyData × PyData) → (List PyData × List PyData × PyData) → Prop) : Prop :=
  q_law_draw s.1 i.2.2 fun d11 pot12 =>
  apQ s.2.1 (.tuple [d11, s.2.2, d]) fun found13 =>
  oAdd s.2.2 (.int 1) fun t14 =>
  q_law_draw pot12 (.int 3) fun d15 pot16 =>
  oAdd t14 d15 fun number17 =>
  nx (i.1, i.2.1, i.2.2) (pot16, found13, number17)
def qb_law_book_3 (d : PyData) (i : PyData × PyData × PyData × PyData × PyData) (s : Unit) (sk : (PyData × PyData × PyData × PyData × PyData) → Unit → Prop) (yd : PyData → (PyData × PyData × PyData × PyData × PyData) → Unit → Prop) : Prop :=
  oIx d (.int 1) fun t25 =>
  yd t25 (i.1, i.2.1, i.2.2.1, i.2.2.2.1, i.2.2.2.2) ()
def qb_law_book_2 (K : PyData → List PyData → Prop) (d : PyData) (i : PyData × PyData) (s : List PyData × List PyData × PyData) (nx bk : (PyData × PyData) → (List PyData × List PyData × PyData) → Prop) : Prop :=
  itemsQ (.list s.2.1) fun l24 =>
  qLc qb_law_book_3 ((.list s.1), i.1, i.2, (.list s.2.1), s.2.2) l24 [] () fun l26 s28 =>
  scalsQ l26 (oAdd s.2.2 (.int 1) fun t29 =>
  oAdd (.list l26) (.list [t29]) fun numbers30 =>
  q_law_draw s.1 i.2 fun d31 pot32 =>
  q_law_more pot32 i.1 numbers30 s.2.2 fun m33 pot34 =>
  apQ s.2.1 (.tuple [d31, s.2.2, m33]) fun found35 =>
  oAdd s.2.2 (.int 1) fun t36 =>
  q_law_draw pot34 (.int 3) fun d37 pot38 =>
  oAdd t36 d37 fun number39 =>
  nx (i.1, i.2) (pot38, found35, number39))
def q_law_book (pot : List PyData) (folk_here : PyData) (most : PyData) (K : PyData → List PyData → Prop) : Prop :=
  oPow (.int 10) (.int 6) fun t1 =>
  oAdd t1 (.int 1) fun t2 =>
  q_law_draw pot (.int 4) fun d3 pot4 =>
  oIx (.tuple [(.int 10), (.int 10), (.int 3), t2]) d3 fun far5 =>
  q_law_draw pot4 (.int 3) fun number6 pot7 =>
  q_law_core pot7 folk_here fun c8 pot9 =>
  itemsQ c8 fun l10 =>
  qFor (qb_law_book_1 K) (folk_here, most, far5) l10 (pot9, [], number6) fun s19 =>
  oAdd most (.int 1) fun t20 =>
  q_law_draw s19.1 t20 fun d21 pot22 =>
  rng1 [d21] fun l23 =>
  qFor (qb_law_book_2 K) (folk_here, far5) l23 (pot22, s19.2.1, s19.2.2) fun s41 =>
  q_law_shuffled s41.1 (.list s41.2.1) fun s42 pot43 =>
  K s42 pot43
def q_law_spoilt_step (rec : List PyData → PyData → PyData → PyData → (PyData → List PyData → Prop) → Prop) (pot : List PyData) (thing : PyData) (odds_here : PyData) (depth : PyData) (K : PyData → List PyData → Prop) : Prop :=
  oEq depth (.int 0) fun t1 =>
  bT t1 fun b2 =>
  tOr b2 (fun k7 => tOr (!(isiB thing "tuple")) (fun k5 => oEmp false thing (.tuple []) fun t3 =>
  bT t3 fun b4 =>
  k5 b4) fun b6 =>
  k7 b6) fun b8 =>
  bIf b8
  (nLen [odds_here] fun t9 =>
  q_law_draw pot t9 fun d10 pot11 =>
  oIx odds_here d10 fun t12 =>
  K t12 pot11)
  (nLen [thing] fun t13 =>
  q_law_draw pot t13 fun at_14 pot15 =>
  q_law_draw pot15 (.int 10) fun way16 pot17 =>
  oLt way16 (.int 5) fun t18 =>
  bT t18 fun b19 =>
  bIf b19
  (oIx thing at_14 fun t20 =>
  oSub depth (.int 1) fun t21 =>
  rec pot17 t20 odds_here t21 fun inner22 pot23 =>
  soQ at_14 fun o24 =>
  oSl thing none o24 fun l25 =>
  oAdd l25 (.tuple [inner22]) fun t26 =>
  oAdd at_14 (.int 1) fun t27 =>
  soQ t27 fun o28 =>
  oSl thing o28 none fun l29 =>
  oAdd t26 l29 fun t30 =>
  K t30 pot23)
  (oEq way16 (.int 5) fun t31 =>
  bT t31 fun b32 =>
  bIf b32
  (soQ at_14 fun o33 =>
  oSl thing none o33 fun l34 =>
  oAdd at_14 (.int 1) fun t35 =>
  soQ t35 fun o36 =>
  oSl thing o36 none fun l37 =>
  oAdd l34 l37 fun t38 =>
  K t38 pot17)
  (oEq way16 (.int 6) fun t39 =>
  bT t39 fun b40 =>
  bIf b40
  (soQ at_14 fun o41 =>
  oSl thing none o41 fun l42 =>
  soQ at_14 fun o43 =>
  oAdd at_14 (.int 1) fun t44 =>
  soQ t44 fun o45 =>
  oSl thing o43 o45 fun l46 =>
  oMul l46 (.int 2) fun t47 =>
  oAdd l42 t47 fun t48 =>
  oAdd at_14 (.int 1) fun t49 =>
  soQ t49 fun o50 =>
  oSl thing o50 none fun l51 =>
  oAdd t48 l51 fun t52 =>
  K t52 pot17)
  (oEq way16 (.int 7) fun t53 =>
  bT t53 fun b54 =>
  bIf b54
  (nList [thing] fun l55 =>
  K (.list l55) pot17)
  (oEq way16 (.int 8) fun t56 =>
  bT t56 fun b57 =>
  bIf b57
  (nLen [odds_here] fun t58 =>
  q_law_draw pot17 t58 fun d59 pot60 =>
  oIx odds_here d59 fun t61 =>
  oAdd thing (.tuple [t61]) fun t62 =>
  K t62 pot60)
  (soQ at_14 fun o63 =>
  oSl thing none o63 fun l64 =>
  nLen [odds_here] fun t65 =>
  q_law_draw pot17 t65 fun d66 pot67 =>
  oIx odds_here d66 fun t68 =>
  oAdd l64 (.tuple [t68]) fun t69 =>
  oAdd at_14 (.int 1) fun t70 =>
  soQ t70 fun o71 =>
  oSl thing o71 none fun l72 =>
  oAdd t69 l72 fun t73 =>
  K t73 pot67))))))
def q_law_spoilt_n : Nat → List PyData → PyData → PyData → PyData → (PyData → List PyData → Prop) → Prop
  | 0 => fun _ _ _ _ _ => False
  | n + 1 => q_law_spoilt_step (q_law_spoilt_n n)
def q_law_spoilt (pot : List PyData) (thing : PyData) (odds_here : PyData) (depth : PyData) (K : PyData → List PyData → Prop) : Prop :=
  q_law_spoilt_n 8 pot thing odds_here depth K
def q_law_within (thing : PyData) (least : PyData) (most : PyData) (K : PyData → Prop) : Prop :=
  q_law_whole thing fun w1 =>
  bT w1 fun b2 =>
  vAnd b2 (fun k8 => oLe least thing fun t3 =>
  bT t3 fun b4 =>
  vAnd b4 (fun k6 => oLe thing most fun t5 =>
  k6 t5) fun t7 =>
  k8 t7) fun t9 =>
  K t9
def qb_law_is_name_1 (d : PyData) (i : PyData) (s : Unit) (sk : PyData → Unit → Prop) (yd : PyData → PyData → Unit → Prop) : Prop :=
  oNin d (.str "abcdefghijklmnopqrstuvwxyz") fun t11 =>
  bT t11 fun b12 =>
  bIf b12
  (yd d i ())
  (sk i ())
def q_law_is_name (thing : PyData) (K : PyData → Prop) : Prop :=
  tOr (!(isiB thing "str")) (fun k8 => nLen [thing] fun t1 =>
  oLe (.int 1) t1 fun t2 =>
  bT t2 fun b3 =>
  vAnd b3 (fun k5 => oLe t1 (.int 8) fun t4 =>
  k5 t4) fun t6 =>
  bT t6 fun b7 =>
  k8 (!b7)) fun b9 =>
  bIf b9
  (K (.bool false))
  (itemsQ thing fun l10 =>
  qLc qb_law_is_name_1 thing l10 [] () fun l13 s15 =>
  oEmp false (.list l13) (.list []) fun t16 =>
  K t16)
def qb_law_is_log_1 (K : PyData → Prop) (d : PyData) (i : Unit) (s : PyData) (nx bk : Unit → PyData → Prop) : Prop :=
  tOr (!(isiB d "tuple")) (fun k21 => nLen [d] fun t11 =>
  oNe t11 (.int 3) fun t12 =>
  bT t12 fun b13 =>
  tOr b13 (fun k19 => oIx d (.int 0) fun t14 =>
  oAdd s (.int 1) fun t15 =>
  oPow (.int 10) (.int 5) fun t16 =>
  q_law_within t14 t15 t16 fun w17 =>
  bT w17 fun b18 =>
  k19 (!b18)) fun b20 =>
  k21 b20) fun b22 =>
  bIf b22
  (K (.bool false))
  (oIx d (.int 1) fun t23 =>
  oPow (.int 10) (.int 4) fun t24 =>
  oNeg t24 fun t25 =>
  oPow (.int 10) (.int 4) fun t26 =>
  q_law_within t23 t25 t26 fun w27 =>
  bT w27 fun b28 =>
  tOr (!b28) (fun k35 => oIx d (.int 2) fun t29 =>
  oPow (.int 10) (.int 4) fun t30 =>
  oNeg t30 fun t31 =>
  oPow (.int 10) (.int 4) fun t32 =>
  q_law_within t29 t31 t32 fun w33 =>
  bT w33 fun b34 =>
  k35 (!b34)) fun b36 =>
  bIf b36
  (K (.bool false))
  (oIx d (.int 0) fun ahead37 =>
  nx () ahead37))
def q_law_is_log (thing : PyData) (K : PyData → Prop) : Prop :=
  tOr (!(isiB thing "tuple")) (fun k8 => nLen [thing] fun t1 =>
  oLe (.int 1) t1 fun t2 =>
  bT t2 fun b3 =>
  vAnd b3 (fun k5 => oLe t1 (.int 20) fun t4 =>
  k5 t4) fun t6 =>
  bT t6 fun b7 =>
  k8 (!b7)) fun b9 =>
  bIf b9
  (K (.bool false))
  (itemsQ thing fun l10 =>
  qFor (qb_law_is_log_1 K) () l10 (.int (-1)) fun s39 =>
  K (.bool true))
def qb_law_is_scheme_1 (d : PyData) (i : PyData × PyData) (s : Unit) (sk : (PyData × PyData) → Unit → Prop) (yd : PyData → (PyData × PyData) → Unit → Prop) : Prop :=
  q_law_within d (.int 0) (.int 8) fun w22 =>
  yd w22 (i.1, i.2) ()
def qb_law_is_scheme_2 (K : PyData → Prop) (d : PyData) (i : PyData) (s : PyData) (nx bk : PyData → PyData → Prop) : Prop :=
  tOr (!(isiB d "tuple")) (fun k54 => nLen [d] fun t41 =>
  oNe t41 (.int 2) fun t42 =>
  bT t42 fun b43 =>
  tOr b43 (fun k52 => oIx d (.int 0) fun t44 =>
  q_law_is_name t44 fun i45 =>
  bT i45 fun b46 =>
  tOr (!b46) (fun k50 => oIx d (.int 0) fun t47 =>
  oLeA t47 s fun t48 =>
  bT t48 fun b49 =>
  k50 b49) fun b51 =>
  k52 b51) fun b53 =>
  k54 b53) fun b55 =>
  bIf b55
  (K (.bool false))
  (oIx d (.int 1) fun t56 =>
  nLen [i] fun t57 =>
  oSub t57 (.int 1) fun t58 =>
  q_law_within t56 (.int 0) t58 fun w59 =>
  bT w59 fun b60 =>
  bIf (!b60)
  (K (.bool false))
  (oIx d (.int 0) fun ahead61 =>
  nx i ahead61))
def q_law_is_scheme (thing : PyData) (K : PyData → Prop) : Prop :=
  tOr (!(isiB thing "tuple")) (fun k7 => nLen [thing] fun t1 =>
  oNe t1 (.int 2) fun t2 =>
  bT t2 fun b3 =>
  tOr b3 (fun k5 => oIx thing (.int 0) fun t4 =>
  k5 (!(isiB t4 "tuple"))) fun b6 =>
  k7 b6) fun b8 =>
  bIf b8
  (K (.bool false))
  (tupQ thing fun r9 =>
  consQ r9 fun eighths10 r11 =>
  consQ r11 fun ranks12 r13 =>
  nilQ r13 (nLen [eighths10] fun t14 =>
  oLeA (.int 1) t14 fun t15 =>
  bT t15 fun b16 =>
  vAnd b16 (fun k18 => oLeA t14 (.int 6) fun t17 =>
  k18 t17) fun t19 =>
  bT t19 fun b20 =>
  tOr (!b20) (fun k33 => itemsQ eighths10 fun l21 =>
  qLc qb_law_is_scheme_1 (eighths10, ranks12) l21 [] () fun l23 s25 =>
  nAll [(.list l23)] fun t26 =>
  bT t26 fun b27 =>
  tOr (!b27) (fun k31 => nSum [eighths10] fun t28 =>
  oNe t28 (.int 8) fun t29 =>
  bT t29 fun b30 =>
  k31 b30) fun b32 =>
  k33 b32) fun b34 =>
  bIf b34
  (K (.bool false))
  (tOr (!(isiB ranks12 "tuple")) (fun k38 => nLen [ranks12] fun t35 =>
  oGt t35 (.int 20) fun t36 =>
  bT t36 fun b37 =>
  k38 b37) fun b39 =>
  bIf b39
  (K (.bool false))
  (itemsQ ranks12 fun l40 =>
  qFor (qb_law_is_scheme_2 K) eighths10 l40 (.str "") fun s63 =>
  K (.bool true)))))
def qb_law_is_part_1 (K : PyData → Prop) (i : Unit) (s : PyData × PyData) (nx bk : Unit → (PyData × PyData) → Prop) : Prop :=
  oGt s.1 (.int 0) fun t27 =>
  bT t27 fun b28 =>
  bIf b28
  (oMod s.2 s.1 fun t29 =>
  nx () (t29, s.1))
  (bk () (s.1, s.2))
def q_law_is_part (thing : PyData) (K : PyData → Prop) : Prop :=
  tOr (!(isiB thing "tuple")) (fun k10 => nLen [thing] fun t1 =>
  oNe t1 (.int 2) fun t2 =>
  bT t2 fun b3 =>
  tOr b3 (fun k8 => oIx thing (.int 0) fun t4 =>
  oPow (.int 10) (.int 60) fun t5 =>
  q_law_within t4 (.int 0) t5 fun w6 =>
  bT w6 fun b7 =>
  k8 (!b7)) fun b9 =>
  k10 b9) fun b11 =>
  bIf b11
  (K (.bool false))
  (oIx thing (.int 1) fun t12 =>
  oPow (.int 10) (.int 60) fun t13 =>
  q_law_within t12 (.int 1) t13 fun w14 =>
  bT w14 fun b15 =>
  tOr (!b15) (fun k20 => oIx thing (.int 0) fun t16 =>
  oIx thing (.int 1) fun t17 =>
  oGt t16 t17 fun t18 =>
  bT t18 fun b19 =>
  k20 b19) fun b21 =>
  bIf b21
  (K (.bool false))
  (tupQ thing fun r22 =>
  consQ r22 fun one23 r24 =>
  consQ r24 fun other25 r26 =>
  nilQ r26 (qWhile (qb_law_is_part_1 K) () (one23, other25) fun s31 =>
  oEq s31.2 (.int 1) fun t32 =>
  K t32)))
def qb_law_is_sale_1 (d : PyData) (i : PyData) (s : Unit) (sk : PyData → Unit → Prop) (yd : PyData → PyData → Unit → Prop) : Prop :=
  tupQ d fun r =>
  consQ r fun one' r1 =>
  consQ r1 fun most' r2 =>
  nilQ r2 (q_law_within one' (.int 0) most' fun w14 =>
  yd w14 i ())
def q_law_is_sale (thing : PyData) (K : PyData → Prop) : Prop :=
  nLen [thing] fun t1 =>
  oNe t1 (.int 6) fun t2 =>
  bT t2 fun b3 =>
  tOr b3 (fun k7 => oIx thing (.int 5) fun t4 =>
  q_law_is_part t4 fun i5 =>
  bT i5 fun b6 =>
  k7 (!b6)) fun b8 =>
  bIf b8
  (K (.bool false))
  (oPow (.int 10) (.int 12) fun t9 =>
  oPow (.int 10) (.int 12) fun t10 =>
  oPow (.int 10) (.int 4) fun t11 =>
  oPow (.int 10) (.int 9) fun t12 =>
  zipQ [thing, (.tuple [t9, t10, t11, (.int 1000), t12])] fun l13 =>
  qLc qb_law_is_sale_1 thing l13 [] () fun l15 s17 =>
  nAll [(.list l15)] fun t18 =>
  K t18)
def qb_law_is_body_1 (d : PyData) (i : PyData × PyData × PyData × PyData × PyData) (s : Unit) (sk : (PyData × PyData × PyData × PyData × PyData) → Unit → Prop) (yd : PyData → (PyData × PyData × PyData × PyData × PyData) → Unit → Prop) : Prop :=
  oIx i.2.1 d fun t30 =>
  q_law_is_name t30 fun i31 =>
  yd i31 (i.1, i.2.1, i.2.2.1, i.2.2.2.1, i.2.2.2.2) ()
def q_law_is_body (number : PyData) (body : PyData) (K : PyData → Prop) : Prop :=
  oIx body (.int 0) fun word1 =>
  keyQ (.str "log") fun k2 =>
  keyQ (.str "muster") fun k3 =>
  keyQ (.str "scheme") fun k4 =>
  keyQ (.str "taking") fun k5 =>
  keyQ (.str "sale") fun k6 =>
  keyQ (.str "finding") fun k7 =>
  dispQ [(k2, (.tuple [(.int 1)])), (k3, (.tuple [(.int 1), (.int 4)])), (k4, (.tuple [])), (k5, (.tuple [(.int 1), (.int 2)])), (k6, (.tuple [(.int 1)])), (k7, (.tuple [(.int 1)]))] fun m8 =>
  keyQ (.str "strike") fun k9 =>
  keyQ (.str "had") fun k10 =>
  dispQ [(k9, (.tuple [])), (k10, (.tuple [(.int 1), (.int 2)]))] fun m11 =>
  updMQ m8 m11 fun names12 =>
  keyQ (.str "log") fun k13 =>
  keyQ (.str "muster") fun k14 =>
  keyQ (.str "scheme") fun k15 =>
  keyQ (.str "taking") fun k16 =>
  keyQ (.str "sale") fun k17 =>
  keyQ (.str "finding") fun k18 =>
  keyQ (.str "strike") fun k19 =>
  keyQ (.str "had") fun k20 =>
  dispQ [(k13, (.int 3)), (k14, (.int 5)), (k15, (.int 3)), (k16, (.int 6)), (k17, (.int 8)), (k18, (.int 3)), (k19, (.int 2)), (k20, (.int 4))] fun m21 =>
  oInM true word1 (.dict m21) fun t22 =>
  bT t22 fun b23 =>
  tOr b23 (fun k39 => nLen [body] fun t24 =>
  oIxM (.dict m21) word1 fun t25 =>
  oNe t24 t25 fun t26 =>
  bT t26 fun b27 =>
  tOr b27 (fun k37 => oIxM (.dict names12) word1 fun t28 =>
  itemsQ t28 fun l29 =>
  qLc qb_law_is_body_1 (number, body, word1, (.dict names12), (.dict m21)) l29 [] () fun l32 s34 =>
  nAll [(.list l32)] fun t35 =>
  bT t35 fun b36 =>
  k37 (!b36)) fun b38 =>
  k39 b38) fun b40 =>
  bIf b40
  (K (.bool false))
  (oEqS word1 (.str "log") fun t41 =>
  bT t41 fun b42 =>
  bIf b42
  (oIx body (.int 2) fun t43 =>
  q_law_is_log t43 fun i44 =>
  K i44)
  (oEqS word1 (.str "muster") fun t45 =>
  bT t45 fun b46 =>
  bIf b46
  (oIx body (.int 2) fun t47 =>
  oPow (.int 10) (.int 5) fun t48 =>
  q_law_within t47 (.int 0) t48 fun w49 =>
  bT w49 fun b50 =>
  vAnd b50 (fun k58 => oIx body (.int 3) fun t51 =>
  q_law_is_name t51 fun i52 =>
  bT i52 fun b53 =>
  vOr b53 (fun k56 => oIx body (.int 3) fun t54 =>
  oEqS t54 (.str "") fun t55 =>
  k56 t55) fun t57 =>
  k58 t57) fun t59 =>
  K t59)
  (oEqS word1 (.str "scheme") fun t60 =>
  bT t60 fun b61 =>
  bIf b61
  (oIx body (.int 1) fun t62 =>
  oPow (.int 10) (.int 5) fun t63 =>
  q_law_within t62 (.int 0) t63 fun w64 =>
  bT w64 fun b65 =>
  vAnd b65 (fun k68 => oIx body (.int 2) fun t66 =>
  q_law_is_scheme t66 fun i67 =>
  k68 i67) fun t69 =>
  K t69)
  (oEqS word1 (.str "taking") fun t70 =>
  bT t70 fun b71 =>
  bIf b71
  (oIx body (.int 3) fun t72 =>
  oPow (.int 10) (.int 5) fun t73 =>
  q_law_within t72 (.int 0) t73 fun w74 =>
  bT w74 fun b75 =>
  tOr (!b75) (fun k80 => oIx body (.int 4) fun t76 =>
  oPow (.int 10) (.int 5) fun t77 =>
  q_law_within t76 (.int 0) t77 fun w78 =>
  bT w78 fun b79 =>
  k80 (!b79)) fun b81 =>
  bIf b81
  (K (.bool false))
  (oIx body (.int 3) fun t82 =>
  oIx body (.int 4) fun t83 =>
  oLe t82 t83 fun t84 =>
  bT t84 fun b85 =>
  vAnd b85 (fun k89 => oIx body (.int 5) fun t86 =>
  oPow (.int 10) (.int 5) fun t87 =>
  q_law_within t86 (.int 0) t87 fun w88 =>
  k89 w88) fun t90 =>
  K t90))
  (oEqS word1 (.str "sale") fun t91 =>
  bT t91 fun b92 =>
  bIf b92
  (oSl body (some 2) none fun l93 =>
  q_law_is_sale l93 fun i94 =>
  K i94)
  (oEqS word1 (.str "finding") fun t95 =>
  bT t95 fun b96 =>
  bIf b96
  (oIx body (.int 2) fun t97 =>
  oPow (.int 10) (.int 6) fun t98 =>
  q_law_within t97 (.int 0) t98 fun w99 =>
  K w99)
  (oEqS word1 (.str "strike") fun t100 =>
  bT t100 fun b101 =>
  vIf b101 (fun k109 => oIx body (.int 1) fun t102 =>
  oSub number (.int 1) fun t103 =>
  q_law_within t102 (.int 0) t103 fun w104 =>
  k109 w104) (fun k109 => oIx body (.int 3) fun t105 =>
  oPow (.int 10) (.int 12) fun t106 =>
  q_law_within t105 (.int 1) t106 fun w107 =>
  k109 w107) fun t108 =>
  K t108)))))))
def q_law_is_page (thing : PyData) (K : PyData → Prop) : Prop :=
  tOr (!(isiB thing "tuple")) (fun k12 => nLen [thing] fun t1 =>
  oNe t1 (.int 3) fun t2 =>
  bT t2 fun b3 =>
  tOr b3 (fun k10 => oIx thing (.int 2) fun t4 =>
  tOr (!(isiB t4 "tuple")) (fun k8 => oIx thing (.int 2) fun t5 =>
  oEmp false t5 (.tuple []) fun t6 =>
  bT t6 fun b7 =>
  k8 b7) fun b9 =>
  k10 b9) fun b11 =>
  k12 b11) fun b13 =>
  bIf b13
  (K (.bool false))
  (oIx thing (.int 0) fun t14 =>
  oPow (.int 10) (.int 6) fun t15 =>
  q_law_within t14 (.int 0) t15 fun w16 =>
  bT w16 fun b17 =>
  tOr (!b17) (fun k22 => oIx thing (.int 1) fun t18 =>
  oPow (.int 10) (.int 6) fun t19 =>
  q_law_within t18 (.int 0) t19 fun w20 =>
  bT w20 fun b21 =>
  k22 (!b21)) fun b23 =>
  bIf b23
  (K (.bool false))
  (oIx thing (.int 2) fun t24 =>
  oIx t24 (.int 0) fun t25 =>
  vAnd (isiB t25 "str") (fun k29 => oIx thing (.int 1) fun t26 =>
  oIx thing (.int 2) fun t27 =>
  q_law_is_body t26 t27 fun i28 =>
  k29 i28) fun t30 =>
  K t30))
def qb_law_are_pages_1 (d : PyData) (i : PyData) (s : Unit) (sk : PyData → Unit → Prop) (yd : PyData → PyData → Unit → Prop) : Prop :=
  q_law_is_page d fun i5 =>
  yd i5 i ()
def qb_law_are_pages_2 (d : PyData) (i : PyData) (s : Unit) (sk : PyData → Unit → Prop) (yd : PyData → PyData → Unit → Prop) : Prop :=
  oIx d (.int 1) fun t16 =>
  yd t16 i ()
def q_law_are_pages (thing : PyData) (K : PyData → Prop) : Prop :=
  tOr (!(isiB thing "tuple")) (fun k13 => nLen [thing] fun t1 =>
  oGt t1 (.int 60) fun t2 =>
  bT t2 fun b3 =>
  tOr b3 (fun k11 => itemsQ thing fun l4 =>
  qLc qb_law_are_pages_1 thing l4 [] () fun l6 s8 =>
  nAll [(.list l6)] fun t9 =>
  bT t9 fun b10 =>
  k11 (!b10)) fun b12 =>
  k13 b12) fun b14 =>
  bIf b14
  (K (.bool false))
  (itemsQ thing fun l15 =>
  qLc qb_law_are_pages_2 thing l15 [] () fun l17 s19 =>
  lenSetIQ (.list l17) fun t20 =>
  nLen [thing] fun t21 =>
  oEq t20 t21 fun t22 =>
  K t22)
def q_law_odds (pot : List PyData) (K : PyData → List PyData → Prop) : Prop :=
  oPow (.int 10) (.int 39) fun t1 =>
  q_law_draw pot t1 fun far2 pot3 =>
  oPow (.int 10) (.int 4) fun t4 =>
  oPow (.int 10) (.int 4) fun t5 =>
  oAdd t5 (.int 1) fun t6 =>
  oPow (.int 10) (.int 4) fun t7 =>
  oNeg t7 fun t8 =>
  oSub t8 (.int 1) fun t9 =>
  oPow (.int 10) (.int 5) fun t10 =>
  oPow (.int 10) (.int 5) fun t11 =>
  oAdd t11 (.int 1) fun t12 =>
  oPow (.int 10) (.int 6) fun t13 =>
  oPow (.int 10) (.int 6) fun t14 =>
  oAdd t14 (.int 1) fun t15 =>
  oNeg far2 fun t16 =>
  oPow (.int 10) (.int 9) fun t17 =>
  oPow (.int 10) (.int 9) fun t18 =>
  oAdd t18 (.int 1) fun t19 =>
  oPow (.int 10) (.int 12) fun t20 =>
  oPow (.int 10) (.int 12) fun t21 =>
  oAdd t21 (.int 1) fun t22 =>
  oAdd (.list [(.int 0), (.int 1), (.int (-1)), (.int 2), (.int 8), t4, t6, t9, t10, t12, t13, t15]) (.list [far2, t16, t17, t19, t20, t22, (.int 1000), (.int 1001), (.int 10001), (.bool true), (.bool false)]) fun found23 =>
  oAdd found23 (.list [.none, (.tuple []), (.dict []), (.list [])]) fun found24 =>
  oAdd found24 (.list [(.str ""), (.str "a"), (.str "abcdefgh"), (.str "abcdefghi"), (.str "a1"), (.str "A"), (.str "a b"), (.str "-"), (.str "log"), (.str "had"), (.str "strike"), (.str "hads")]) fun found25 =>
  oAdd found25 (.list [(.tuple [(.int 0)]), (.tuple [(.int 1), (.int 2)]), (.tuple [(.int 2), (.int 4)]), (.tuple [(.int 0), (.int 0)]), (.tuple [(.str "a"), (.int 0)]), (.tuple [(.tuple [(.int 0), (.int 0), (.int 0)])]), (.tuple [(.int 0), (.int 0), (.int 0)]), (.list [(.int 0)]), (.tuple [(.str "log")]), (.tuple [(.str "strike"), (.int 0)])]) fun t26 =>
  K t26 pot3
def qb_law_2 (K : PyData → Prop) (d : PyData) (i : PyData × List PyData × PyData × PyData × PyData) (s : List PyData) (nx bk : (PyData × List PyData × PyData × PyData × PyData) → (List PyData) → Prop) : Prop :=
  tupQ d fun r20 =>
  consQ r20 fun low21 r22 =>
  consQ r22 fun high23 r24 =>
  nilQ r24 (oPow (.int 10) (.int 6) fun t25 =>
  oPow (.int 10) (.int 6) fun t26 =>
  oPow (.int 10) (.int 5) fun t27 =>
  apQ s (.tuple [t25, t26, (.tuple [(.str "taking"), (.str "abcdefgh"), (.str "z"), low21, high23, t27])]) fun things28 =>
  nx (i.1, i.2.1, i.2.2.1, i.2.2.2.1, i.2.2.2.2) things28)
def qb_law_3 (K : PyData → Prop) (d : PyData) (i : PyData × PyData × PyData × PyData) (s : List PyData × List PyData) (nx bk : (PyData × PyData × PyData × PyData) → (List PyData × List PyData) → Prop) : Prop :=
  oMul (.int 7) d fun t32 =>
  oAdd i.2.1 t32 fun t33 =>
  nLen [i.2.2.1] fun t34 =>
  oMod t33 t34 fun t35 =>
  oIx i.2.2.1 t35 fun page36 =>
  apQ s.2 page36 fun things37 =>
  q_law_spoilt s.1 page36 i.2.2.2 (.int 5) fun s38 pot39 =>
  apQ things37 s38 fun things40 =>
  ixQ things40 (.int (-1)) fun t41 =>
  q_law_spoilt pot39 t41 i.2.2.2 (.int 5) fun s42 pot43 =>
  apQ things40 s42 fun things44 =>
  nx (i.1, i.2.1, i.2.2.1, i.2.2.2) (pot43, things44)
def qb_law_4 (K : PyData → Prop) (d : PyData) (i : PyData × List PyData × PyData × PyData × PyData) (s : Unit) (nx bk : (PyData × List PyData × PyData × PyData × PyData) → Unit → Prop) : Prop :=
  q_is_page d fun told48 =>
  tOr (!(isiB told48 "bool")) (fun k52 => q_law_is_page d fun i49 =>
  oNe told48 i49 fun t50 =>
  bT t50 fun b51 =>
  k52 b51) fun b53 =>
  bIf b53
  (K (.bool false))
  (nx (i.1, i.2.1, i.2.2.1, i.2.2.2.1, i.2.2.2.2) ())
def qb_law_5 (d : PyData) (i : PyData × List PyData × PyData × PyData × PyData) (s : Unit) (sk : (PyData × List PyData × PyData × PyData × PyData) → Unit → Prop) (yd : PyData → (PyData × List PyData × PyData × PyData × PyData) → Unit → Prop) : Prop :=
  yd (.tuple [(.int 0), d, (.tuple [(.str "strike"), (.int 0)])]) (i.1, i.2.1, i.2.2.1, i.2.2.2.1, i.2.2.2.2) ()
def qb_law_6 (K : PyData → Prop) (d : PyData) (i : PyData × PyData × PyData) (s : List PyData × List PyData) (nx bk : (PyData × PyData × PyData) → (List PyData × List PyData) → Prop) : Prop :=
  q_law_spoilt s.1 i.2.1 i.2.2 (.int 6) fun s75 pot76 =>
  apQ s.2 s75 fun books77 =>
  nx (i.1, i.2.1, i.2.2) (pot76, books77)
def qb_law_7 (K : PyData → Prop) (d : PyData) (i : PyData) (s : Unit) (nx bk : PyData → Unit → Prop) : Prop :=
  q_are_pages d fun told82 =>
  tOr (!(isiB told82 "bool")) (fun k86 => q_law_are_pages d fun a83 =>
  oNe told82 a83 fun t84 =>
  bT t84 fun b85 =>
  k86 b85) fun b87 =>
  bIf b87
  (K (.bool false))
  (nx i ())
def qb_law_1 (K : PyData → Prop) (d : PyData) (i : PyData) (s : Unit) (nx bk : PyData → Unit → Prop) : Prop :=
  q_law_pot_of i d fun pot5 =>
  q_law_draw pot5 (.int 40) fun way6 pot7 =>
  q_law_folk pot7 fun f8 pot9 =>
  q_law_book pot9 f8 (.int 12) fun pages10 pot11 =>
  q_law_odds pot11 fun odds_here12 pot13 =>
  catN odds_here12 (.list [(.tuple [(.int 0), (.int 7), (.tuple [(.str "strike"), (.int 7)])]), (.tuple [(.int 0), (.int 7), (.tuple [(.str "strike"), (.int 6)])]), (.tuple [(.int 0), (.int 0), (.tuple [(.str "strike"), (.int 0)])])]) fun l14 =>
  apQ l14 (.tuple [(.int 0), (.int 7), (.tuple [(.str "had"), (.str "a"), (.str "b"), (.int 0)])]) fun things15 =>
  oPow (.int 10) (.int 5) fun t16 =>
  oPow (.int 10) (.int 5) fun t17 =>
  oAdd t17 (.int 1) fun t18 =>
  itemsQ (.tuple [(.tuple [(.int 4), (.int 4)]), (.tuple [(.int 5), (.int 4)]), (.tuple [(.int 0), t16]), (.tuple [(.int 0), t18]), (.tuple [(.int (-1)), (.int 3)])]) fun l19 =>
  qFor (qb_law_2 K) (i, pot13, way6, pages10, odds_here12) l19 things15 fun s30 =>
  rng1 [(.int 16)] fun l31 =>
  qFor (qb_law_3 K) (i, way6, pages10, odds_here12) l31 (pot13, s30) fun s46 =>
  itemsQ (.list s46.2) fun l47 =>
  qFor (qb_law_4 K) (i, s46.1, way6, pages10, odds_here12) l47 () fun s55 =>
  rng2 [(.int 1), (.int 61)] fun l56 =>
  qLc qb_law_5 (i, s46.1, way6, pages10, odds_here12) l56 [] () fun l57 s59 =>
  nTuple [(.list l57)] fun t60 =>
  oAdd (.list l57) (.list [(.tuple [(.int 0), (.int 0), (.tuple [(.str "had"), (.str "a"), (.str "b"), (.int 1)])])]) fun t61 =>
  nTuple [t61] fun t62 =>
  nList [pages10] fun l63 =>
  oSl pages10 none (some 1) fun l64 =>
  oAdd pages10 l64 fun t65 =>
  oPow (.int 10) (.int 6) fun t66 =>
  nLen [pages10] fun t67 =>
  oMod way6 t67 fun t68 =>
  oIx pages10 t68 fun t69 =>
  oIx t69 (.int 1) fun t70 =>
  oPow (.int 10) (.int 12) fun t71 =>
  oAdd pages10 (.tuple [(.tuple [t66, t70, (.tuple [(.str "had"), (.str "a"), (.str "b"), t71])])]) fun t72 =>
  apQ [pages10, (.tuple []), t60, t62, (.list l63), t65] t72 fun books73 =>
  rng1 [(.int 6)] fun l74 =>
  qFor (qb_law_6 K) (i, pages10, odds_here12) l74 (s46.1, books73) fun s79 =>
  oAdd (.list s79.2) odds_here12 fun t80 =>
  itemsQ t80 fun l81 =>
  qFor (qb_law_7 K) i l81 () fun s89 =>
  nx i ()
def q_law (script : PyData) (K : PyData → Prop) : Prop :=
  nLen [script] fun t1 =>
  nMin2 [t1, (.int 8)] fun t2 =>
  nMax2 [(.int 1), t2] fun t3 =>
  rng1 [t3] fun l4 =>
  qFor (qb_law_1 K) script l4 () fun s91 =>
  K (.bool true)
local macro_rules | `(tactic| walk_at "q") => `(tactic| try simp only [q_bT, q_add, q_addT, q_addL, q_addS, q_sub, q_mul, q_mulT, q_div, q_mod, q_pow, q_neg, q_lt, q_le, q_gt, q_ge, q_oI, q_eq, q_ne, q_eqS, q_neS, q_isN, q_isNi, q_isNt, q_isNs, q_notN, q_notNi, q_notNt, q_ix, q_ixL, q_ixQ, q_len, q_lenT, q_lenS, q_abs, q_min, q_max, q_tupleOf, q_tupleOfT, q_int, q_intB, q_list, q_listT, q_tup, q_cons, q_nil, q_so, q_lst, q_items, q_itemsT, q_rev, q_zip, q_zipT, q_rng1, q_rng2, q_sumI, q_sumTI, q_allB, q_anyB, q_ap, q_jn, q_fd, q_rep, q_slT, q_slL, q_max3, q_min3, q_str, q_cat, q_catN, q_scalN, q_scalB, q_scalI, q_scalS, q_enumL, q_enumT, q_inL, q_inT, q_inS, q_ninL, q_ninT, q_ninS, Bool.true_eq_false, Bool.false_eq_true, false_imp_iff, true_imp_iff, q_eqB, q_neB, q_empL, q_empT, q_isB, q_revL, q_revT, List.isEmpty_cons, List.isEmpty_nil, bne_self_eq_false, Bool.bne_false, Bool.bne_true, q_same, q_tAnd_k, q_tOr_k, q_vAnd_k, q_vOr_k, q_tAnd_s, q_tOr_s, q_vAnd_s, q_vOr_s, q_vIf_k, q_tAnd_t, q_tAnd_f, q_tOr_t, q_tOr_f, q_vAnd_t, q_vAnd_f, q_vOr_t, q_vOr_f, q_vIf_t, q_vIf_f, at0, at1, at2, at3, at4, at5, at6, atLast, st0, st1, st2, st3, st4, bIf_t, bIf_f, true_and, and_true, Bool.not_true, Bool.not_false, Bool.true_and, Bool.false_and, Bool.and_true, Bool.and_false, Bool.true_or, Bool.or_true, Bool.false_or, Bool.or_false, Bool.not_not, decide_true, decide_false, List.length_cons, List.cons_append, List.nil_append, List.length_nil, List.length_map, List.length_append, isi_non_int, isi_non_bool, isi_non_str, isi_non_list, isi_non_tuple, isi_non_dict, isi_bl_int, isi_bl_bool, isi_bl_str, isi_bl_list, isi_bl_tuple, isi_bl_dict, isi_int_int, isi_int_bool, isi_int_str, isi_int_list, isi_int_tuple, isi_int_dict, isi_str_int, isi_str_bool, isi_str_str, isi_str_list, isi_str_tuple, isi_str_dict, isi_lst_int, isi_lst_bool, isi_lst_str, isi_lst_list, isi_lst_tuple, isi_lst_dict, isi_tup_int, isi_tup_bool, isi_tup_str, isi_tup_list, isi_tup_tuple, isi_tup_dict, isi_dct_int, isi_dct_bool, isi_dct_str, isi_dct_list, isi_dct_tuple, isi_dct_dict])
local macro_rules | `(tactic| walk_at "side") => `(tactic| first | assumption | exact rfl | omega | exact sz_of (by omega) (by omega) | decide | (refine ⟨?_, ?_⟩ <;> walk_at "side"))
local macro_rules | `(tactic| walk_at "sides") => `(tactic| repeat ((with_reducible refine And.intro ?_ ?_); (· walk_at "side"); walk_at "q"))
local macro_rules | `(tactic| walk_at "go") => `(tactic| (walk_at "q"; walk_at "sides"))
local macro_rules | `(tactic| walk_at "j") => `(tactic| try simp only [q_bT, q_add, q_addT, q_addL, q_addS, q_sub, q_mul, q_mulT, q_div, q_mod, q_pow, q_neg, q_lt, q_le, q_gt, q_ge, q_oI, q_eq, q_ne, q_eqS, q_neS, q_isN, q_isNi, q_isNt, q_isNs, q_notN, q_notNi, q_notNt, q_ix, q_ixL, q_ixQ, q_len, q_lenT, q_lenS, q_abs, q_min, q_max, q_tupleOf, q_tupleOfT, q_int, q_intB, q_list, q_listT, q_tup, q_cons, q_nil, q_so, q_lst, q_items, q_itemsT, q_rev, q_zip, q_zipT, q_rng1, q_rng2, q_sumI, q_sumTI, q_allB, q_anyB, q_ap, q_fd, q_rep, q_slT, q_slL, q_max3, q_min3, q_str, q_cat, q_catN, q_scalN, q_scalB, q_scalI, q_scalS, q_enumL, q_enumT, q_inL, q_inT, q_inS, q_ninL, q_ninT, q_ninS, Bool.true_eq_false, Bool.false_eq_true, false_imp_iff, true_imp_iff, q_eqB, q_neB, q_empL, q_empT, q_isB, q_revL, q_revT, List.isEmpty_cons, List.isEmpty_nil, bne_self_eq_false, Bool.bne_false, Bool.bne_true, q_same, q_tAnd_k, q_tOr_k, q_vAnd_k, q_vOr_k, q_tAnd_s, q_tOr_s, q_vAnd_s, q_vOr_s, q_vIf_k, q_tAnd_t, q_tAnd_f, q_tOr_t, q_tOr_f, q_vAnd_t, q_vAnd_f, q_vOr_t, q_vOr_f, q_vIf_t, q_vIf_f, at0, at1, at2, at3, at4, at5, at6, atLast, st0, st1, st2, st3, st4, bIf_t, bIf_f, true_and, and_true, Bool.not_true, Bool.not_false, Bool.true_and, Bool.false_and, Bool.and_true, Bool.and_false, Bool.true_or, Bool.or_true, Bool.false_or, Bool.or_false, Bool.not_not, decide_true, decide_false, List.length_cons, List.cons_append, List.nil_append, List.length_nil, List.length_map, List.length_append, isi_non_int, isi_non_bool, isi_non_str, isi_non_list, isi_non_tuple, isi_non_dict, isi_bl_int, isi_bl_bool, isi_bl_str, isi_bl_list, isi_bl_tuple, isi_bl_dict, isi_int_int, isi_int_bool, isi_int_str, isi_int_list, isi_int_tuple, isi_int_dict, isi_str_int, isi_str_bool, isi_str_str, isi_str_list, isi_str_tuple, isi_str_dict, isi_lst_int, isi_lst_bool, isi_lst_str, isi_lst_list, isi_lst_tuple, isi_lst_dict, isi_tup_int, isi_tup_bool, isi_tup_str, isi_tup_list, isi_tup_tuple, isi_tup_dict, isi_dct_int, isi_dct_bool, isi_dct_str, isi_dct_list, isi_dct_tuple, isi_dct_dict])
def isW : PyData → Bool
  | .int _ => true
  | _ => false
def isIn (a : PyData) (l m : Int) : Bool := match a with
  | .int i => decide (l ≤ i) && decide (i ≤ m)
  | _ => false
def areW (a : PyData) (n : Int) : Bool := match a with
  | .tuple ds => decide ((ds.length : Int) = n) && ds.all isW
  | _ => false
def isFr (a : PyData) : Bool := match a with
  | .tuple [.int p, .int q] => decide (0 < q) && decide (Int.gcd p q = 1)
  | _ => false
def isPart (a : PyData) : Bool := match a with
  | .tuple [.int p, .int q] => isFr a && (decide (0 ≤ p) && decide (p ≤ q))
  | _ => false
structure Sale (g c r h b p q : Int) : Prop where
  g0 : 0 ≤ g
  g1 : g ≤ 10 ^ 12
  c0 : 0 ≤ c
  c1 : c ≤ 10 ^ 12
  r0 : 0 ≤ r
  r1 : r ≤ 10000
  h0 : 0 ≤ h
  h1 : h ≤ 1000
  b0 : 0 ≤ b
  b1 : b ≤ 10 ^ 9
  p0 : 0 ≤ p
  pq : p ≤ q
  q0 : 0 < q
  q1 : q ≤ 10 ^ 40
  co : Int.gcd p q = 1
structure SaleB (g c r h b p q : Int) : Prop where
  g0 : 0 ≤ g
  g1 : g ≤ 10 ^ 70
  c0 : 0 ≤ c
  c1 : c ≤ 10 ^ 12
  r0 : 0 ≤ r
  r1 : r ≤ 10000
  h0 : 0 ≤ h
  h1 : h ≤ 1000
  b0 : 0 ≤ b
  b1 : b ≤ 10 ^ 9
  p0 : 0 ≤ p
  pq : p ≤ q
  q0 : 0 < q
  q1 : q ≤ 10 ^ 40
theorem Sale.B {g c r h b p q : Int} (s : Sale g c r h b p q) : SaleB g c r h b p q := ⟨s.g0, Int.le_trans s.g1 (by decide), s.c0, s.c1, s.r0, s.r1, s.h0, s.h1, s.b0, s.b1, s.p0, s.pq, s.q0, s.q1⟩
def saleD (g c r h b p q : Int) : PyData := .tuple [.int g, .int c, .int r, .int h, .int b, .tuple [.int p, .int q]]
def paid (g c : Int) : Int := if g < c then g else c
def caps (g c p q : Int) : Int := (g - paid g c) * p / q
def pot (g c h b p q : Int) : Int := caps g c p q + h * b
def fee (g c r h b p q : Int) : Int := pot g c h b p q * r / 10000
def PotOk (n : Int) (xs : List PyData) : Prop := ∃ g s t : Int, xs = [.int g, .int s, .int t] ∧ 0 ≤ s ∧ s ≤ 10 ^ 12 ∧ 0 ≤ t ∧ t ≤ n
theorem PotOk.mono {n m : Int} {xs : List PyData} (h : PotOk n xs) (e : n ≤ m) : PotOk m xs := by
  obtain ⟨g, s, t, h1, h2, h3, h4, h5⟩ := h
  exact ⟨g, s, t, h1, h2, h3, h4, by omega⟩
theorem gcd_step (i j : Int) (h0 : 0 < j) (hi : 0 ≤ i) : Int.gcd j (i % j) = Int.gcd i j := by
  obtain ⟨a, rfl⟩ := Int.eq_ofNat_of_zero_le hi
  obtain ⟨b, rfl⟩ := Int.eq_ofNat_of_zero_le (Int.le_of_lt h0)
  have e : ((a : Int) % (b : Int)) = ((a % b : Nat) : Int) := by simp
  rw [e]
  show Nat.gcd b (a % b) = Nat.gcd a b
  rw [Nat.gcd_comm a b, Nat.gcd_comm b (a % b)]
  exact (Nat.gcd_rec b a).symm
theorem caps_le {x p q : Int} (h0 : 0 ≤ x) (h1 : 0 ≤ p) (h2 : p ≤ q) (h3 : 0 < q) : 0 ≤ x * p / q ∧ x * p / q ≤ x := by
  refine ⟨Int.ediv_nonneg (Int.mul_nonneg h0 h1) (by omega), ?_⟩
  have : x * p ≤ x * q := Int.mul_le_mul_of_nonneg_left h2 h0
  exact Int.le_trans (Int.ediv_le_ediv h3 this) (by rw [Int.mul_ediv_cancel _ (by omega)]; exact Int.le_refl x)
theorem paid_in {g c : Int} (h0 : 0 ≤ g) (h1 : 0 ≤ c) : 0 ≤ paid g c ∧ paid g c ≤ g := by
  unfold paid
  split <;> omega
theorem sale_caps {g c r h b p q : Int} (s : Sale g c r h b p q) : 0 ≤ caps g c p q ∧ caps g c p q ≤ 10 ^ 12 := by
  have h1 := paid_in s.g0 s.c0
  have h2 := s.g1
  have h3 := caps_le (x := g - paid g c) (by omega) s.p0 s.pq s.q0
  unfold caps
  constructor
  · exact h3.1
  · exact Int.le_trans h3.2 (by omega)
theorem sale_pot {g c r h b p q : Int} (s : Sale g c r h b p q) : 0 ≤ pot g c h b p q ∧ pot g c h b p q ≤ 10 ^ 13 := by
  have h1 := sale_caps s
  have h2 : 0 ≤ h * b := Int.mul_nonneg s.h0 s.b0
  have h3 : h * b ≤ 1000 * 10 ^ 9 := Int.mul_le_mul s.h1 s.b1 s.b0 (by decide)
  unfold pot
  constructor <;> omega
def sharedOf (g c r h b p q : Int) : Int := pot g c h b p q - fee g c r h b p q
theorem Sale.sh {g c r h b p q : Int} (s : Sale g c r h b p q) : 0 ≤ sharedOf g c r h b p q ∧ sharedOf g c r h b p q ≤ 10 ^ 13 := by
  have h1 := sale_pot s
  have h2 := caps_le (x := pot g c h b p q) h1.1 s.r0 s.r1 (by decide : (0 : Int) < 10000)
  unfold sharedOf fee
  omega
theorem Sale.zero {g c r h b p q : Int} (s : Sale g c r h b p q) : Sale 0 c r h b p q := ⟨by omega, by omega, s.c0, s.c1, s.r0, s.r1, s.h0, s.h1, s.b0, s.b1, s.p0, s.pq, s.q0, s.q1, s.co⟩
theorem is_whole_q (a : PyData) (K : PyData → Prop) : q_is_whole a K = K (.bool (isW a)) := by
  cases a with
  | dict kv => rcases kv with _ | ⟨⟨kz, vz⟩, rz⟩ <;> (try cases kz) <;> rfl
  | _ => rfl
theorem is_within_q (a : PyData) (l m : Int) (K : PyData → Prop) : q_is_within a (.int l) (.int m) K = K (.bool (isIn a l m)) := by
  unfold q_is_within
  simp only [is_whole_q]
  cases a <;> simp only [isW, isIn] <;> walk_at "q"
def short (a : PyData) : Prop := match a with
  | .tuple ds => ds.length ≤ 100000
  | _ => True
theorem are_wholes_q (a : PyData) (n : Int) (hs : short a) (K : PyData → Prop) (h : K (.bool (areW a n))) : q_are_wholes a (.int n) K := by
  unfold q_are_wholes
  cases a with
  | tuple ds =>
    walk_at "q"
    by_cases hn : (ds.length : Int) = n
    · rw [decide_eq_true hn]
      walk_at "q"
      refine qLc_map (fun d => .bool (isW d)) hs (fun d hd sk yd hy => ?_) ?_
      · unfold qb_are_wholes_1
        rw [is_whole_q]
        exact hy
      · walk_at "q"
        have e : areW (.tuple ds) n = ds.all isW := by simp only [areW, hn, decide_true, Bool.true_and]
        rw [e] at h
        exact h
    · rw [decide_eq_false hn]
      walk_at "q"
      have e : areW (.tuple ds) n = false := by simp only [areW, hn, decide_false, Bool.false_and]
      rw [e] at h
      exact h
  | dict kv => rcases kv with _ | ⟨⟨kz, vz⟩, rz⟩ <;> (try cases kz) <;> (walk_at "q"; exact h)
  | _ => walk_at "q"; exact h
theorem divisor_of_q (i j : Int) (K : PyData → Prop) (h : K (.int (Int.gcd i j : Nat))) : q_divisor_of (.int i) (.int j) K := by
  unfold q_divisor_of
  walk_at "q"
  have ea : (if i < 0 then -i else i) = (i.natAbs : Int) := by split <;> omega
  have eb : (if j < 0 then -j else j) = (j.natAbs : Int) := by split <;> omega
  rw [ea, eb]
  refine qWhile_ind (m := j.natAbs) (fun m s => ∃ a b : Int, s = (.int a, .int b) ∧ 0 ≤ a ∧ 0 ≤ b ∧ b.toNat = m ∧ Int.gcd a b = Int.gcd i j) ⟨_, _, rfl, by omega, by omega, by omega, by simp [Int.gcd]⟩ ?_
  rintro m _ nx ⟨a, b, rfl, ha, hb, hm, hg⟩ hn
  unfold qb_divisor_of_1
  walk_at "q"
  refine bIf_d (fun h0 => ?_) fun h0 => ?_
  · walk_at "go"
    have hm1 := Int.emod_lt_of_pos a h0
    have hm0 := Int.emod_nonneg a (by omega : b ≠ 0)
    exact hn (a % b).toNat _ (by omega) ⟨b, a % b, rfl, by omega, hm0, rfl, by rw [gcd_step a b h0 ha]; exact hg⟩
  · have e : b = 0 := by omega
    subst e
    have : Int.gcd a 0 = a.natAbs := Int.gcd_zero_right a
    rw [← hg, this] at h
    have e2 : ((a.natAbs : Nat) : Int) = a := by omega
    rw [e2] at h
    exact h
theorem is_fraction_q (a : PyData) (hs : short a) (K : PyData → Prop) (h : K (.bool (isFr a))) : q_is_fraction a K := by
  unfold q_is_fraction
  refine are_wholes_q a 2 hs _ ?_
  walk_at "q"
  cases e : areW a 2 with
  | false =>
    have : isFr a = false := by
      unfold isFr
      split
      · exact absurd e (by simp [areW, isW])
      · rfl
    rw [this] at h
    exact h
  | true =>
    obtain ⟨p, q, rfl⟩ : ∃ p q, a = .tuple [.int p, .int q] := by
      unfold areW at e
      split at e
      · rename_i ds
        simp only [Bool.and_eq_true, decide_eq_true_eq] at e
        obtain ⟨h1, h2⟩ := e
        match ds, h1, h2 with
        | [x, y], _, h2 =>
          simp only [List.all_cons, List.all_nil, Bool.and_true, Bool.and_eq_true] at h2
          cases x <;> cases y <;> first | exact ⟨_, _, rfl⟩ | (exfalso; have := h2.1; have := h2.2; simp [isW] at *)
        | [], h1, _ => simp at h1
        | [_], h1, _ => simp at h1
        | _ :: _ :: _ :: _, h1, _ => simp at h1; omega
      · cases e
    walk_at "q"
    by_cases h1 : 0 < q
    · rw [decide_eq_true h1]
      walk_at "q"
      refine divisor_of_q p q _ ?_
      walk_at "q"
      have e2 : isFr (.tuple [.int p, .int q]) = decide ((Int.gcd p q : Int) = 1) := by
        simp only [isFr, h1, decide_true, Bool.true_and]
        exact decide_eq_decide.mpr ⟨fun h => by omega, fun h => by omega⟩
      rw [e2] at h
      exact h
    · rw [decide_eq_false h1]
      walk_at "q"
      have e2 : isFr (.tuple [.int p, .int q]) = false := by simp only [isFr, h1, decide_false, Bool.false_and]
      rw [e2] at h
      exact h
def alph : Str := "abcdefghijklmnopqrstuvwxyz"
theorem al_one (c : Nat) : inStr ⟨#[c]⟩ alph = decide (c ∈ alph.cps.toList) := by
  unfold inStr
  exact PySem.StrLaws.found_one alph c
def goodN (x : Str) : Bool := decide (1 ≤ x.length) && decide (x.length ≤ 8) && x.cps.toList.all fun c => decide (c ∈ alph.cps.toList)
def isNm : PyData → Bool
  | .str x => goodN x
  | _ => false
def isAl : PyData → Bool
  | .str x => inStr x alph
  | _ => false
theorem isNm_inv {d : PyData} (h : isNm d = true) : ∃ x, d = .str x ∧ goodN x = true := by
  cases d with
  | str x => exact ⟨x, rfl, h⟩
  | _ => cases h
theorem isi_s {d : PyData} (h : isiB d "str" = true) : ∃ x, d = .str x := by
  cases d with
  | str x => exact ⟨x, rfl⟩
  | dict kv => rcases kv with _ | ⟨⟨kz, vz⟩, rz⟩ <;> (try cases kz) <;> cases h
  | _ => cases h
theorem isNm_no {d : PyData} (h : isiB d "str" = false) : isNm d = false := by
  cases d with
  | str x => cases h
  | _ => rfl
theorem signs_len {x : Str} : (signsD x).length = x.length := by unfold signsD; simp [Str.length]
theorem signs_mem {x : Str} {d : PyData} (h : d ∈ signsD x) : ∃ c, d = .str ⟨#[c]⟩ ∧ c ∈ x.cps.toList := by
  unfold signsD at h
  obtain ⟨c, hc, rfl⟩ := List.mem_map.mp h
  exact ⟨c, rfl, hc⟩
theorem signs_all {x : Str} : (signsD x).all isAl = x.cps.toList.all fun c => decide (c ∈ alph.cps.toList) := by
  unfold signsD
  rw [List.all_map]
  congr 1
  funext c
  exact al_one c
theorem q_itemsS {x : Str} {K : List PyData → Prop} : itemsQ (.str x) K = K (signsD x) := At.eq
/-- texts short enough to be measured -/
def shS : PyData → Prop
  | .str x => x.length ≤ 100000
  | _ => True
theorem is_name_q (d : PyData) (hs : shS d) (K : PyData → Prop) (h : K (.bool (isNm d))) : q_is_name d K := by
  unfold q_is_name
  cases e : isiB d "str" with
  | false =>
    rw [isNm_no e] at h
    walk_at "q"
    exact h
  | true =>
    obtain ⟨x, rfl⟩ := isi_s e
    have hs : x.length ≤ 100000 := hs
    walk_at "q"
    have h : K (.bool (goodN x)) := h
    unfold goodN at h
    refine ⟨hs, bIf_of (fun hc => ?_) fun hc => ?_⟩
    · have e : (decide (1 ≤ x.length) && decide (x.length ≤ 8)) = false := by
        simp only [Bool.not_eq_true', Bool.and_eq_false_iff, decide_eq_false_iff_not] at hc ⊢
        omega
      rwa [e, Bool.false_and] at h
    · have e : (decide (1 ≤ x.length) && decide (x.length ≤ 8)) = true := by
        simp only [Bool.not_eq_false', Bool.and_eq_true, decide_eq_true_eq] at hc ⊢
        omega
      rw [e, Bool.true_and] at h
      rw [q_itemsS]
      refine qLc_map (fun d => .bool (isAl d)) (by rw [signs_len]; exact hs) (fun d hd sk yd hy => ?_) ?_
      · obtain ⟨c, rfl, _⟩ := signs_mem hd
        unfold qb_is_name_1
        rw [q_inS, Bool.bne_false]
        exact hy
      · walk_at "q"
        rw [signs_all]
        exact h
theorem law_is_name_q (d : PyData) (hs : shS d) (K : PyData → Prop) (h : K (.bool (isNm d))) : q_law_is_name d K := by
  unfold q_law_is_name
  cases e : isiB d "str" with
  | false =>
    rw [isNm_no e] at h
    walk_at "q"
    exact h
  | true =>
    obtain ⟨x, rfl⟩ := isi_s e
    have hs : x.length ≤ 100000 := hs
    walk_at "q"
    have h : K (.bool (goodN x)) := h
    unfold goodN at h
    refine ⟨hs, bIf_of (fun hc => ?_) fun hc => ?_⟩
    · have e : (decide (1 ≤ x.length) && decide (x.length ≤ 8)) = false := by
        simp only [Bool.not_eq_true', Bool.and_eq_false_iff, decide_eq_false_iff_not] at hc ⊢
        omega
      rwa [e, Bool.false_and] at h
    · have e : (decide (1 ≤ x.length) && decide (x.length ≤ 8)) = true := by
        simp only [Bool.not_eq_false', Bool.and_eq_true, decide_eq_true_eq] at hc ⊢
        omega
      rw [e, Bool.true_and] at h
      rw [q_itemsS]
      refine qLc_fmap (fun d => if isAl d then none else some d) (by rw [signs_len]; exact hs) (fun d hd sk yd hy hn => ?_) ?_
      · obtain ⟨c, rfl, _⟩ := signs_mem hd
        unfold qb_law_is_name_1
        rw [q_ninS, Bool.bne_true]
        walk_at "q"
        refine bIf_of (fun hc => ?_) fun hc => ?_
        · refine hy _ ?_
          rw [if_neg]
          show ¬ inStr _ alph = true
          have hc : (!inStr ⟨#[c]⟩ alph) = true := hc
          have hc : inStr ⟨#[c]⟩ alph = false := by simpa using hc
          rw [hc]
          exact Bool.false_ne_true
        · refine hn ?_
          rw [if_pos]
          show inStr _ alph = true
          have hc : (!inStr ⟨#[c]⟩ alph) = false := hc
          simpa using hc
      · walk_at "q"
        have e : (List.filterMap (fun d => if isAl d then none else some d) (signsD x)).isEmpty = (signsD x).all isAl := by
          induction signsD x with
          | nil => rfl
          | cons d l ih =>
            cases q : isAl d with
            | true => rw [List.filterMap_cons]; simp only [q, if_true, List.all_cons, Bool.true_and]; exact ih
            | false => rw [List.filterMap_cons]; simp [q]
        rw [e, signs_all]
        exact h
def rise : List Str → Bool
  | [] => true
  | [_] => true
  | x :: y :: r => strLt x y && rise (y :: r)
theorem pw_rise : ∀ {l : List Str}, (l.Pairwise fun a b => strLt a b = true) → rise l = true
  | [], _ => rfl
  | [x], _ => rfl
  | x :: y :: r, h => by
    obtain ⟨h1, h2⟩ := List.pairwise_cons.mp h
    rw [rise, h1 y List.mem_cons_self, pw_rise h2]
    rfl
def isNt : PyData → Bool
  | .int i => decide (0 ≤ i)
  | _ => false
def toI : PyData → Int
  | .int i => i
  | _ => 0
def ltN (d : PyData) (n : Nat) : Bool := match d with
  | .int i => decide (i < (n : Int))
  | _ => false
def isPr (n : Nat) : PyData → Bool
  | .tuple [a, b] => isNm a && (isNt b && ltN b n)
  | _ => false
def nmD : PyData → Str
  | .tuple (.str x :: _) => x
  | _ => ""
def isEi : PyData → Bool
  | .tuple es => decide (1 ≤ es.length) && decide (es.length ≤ 6) && (es.all isNt && decide ((es.map toI).sum = 8))
  | _ => false
def isRk (n : Nat) : PyData → Bool
  | .tuple rs => decide (rs.length ≤ 20) && (rs.all (isPr n) && rise (rs.map nmD))
  | _ => false
def tln : PyData → Nat
  | .tuple es => es.length
  | _ => 0
def isSc : PyData → Bool
  | .tuple [a, b] => isEi a && isRk (tln a) b
  | _ => false
theorem isi_tp {d : PyData} (h : isiB d "tuple" = true) : ∃ xs, d = .tuple xs := by
  cases d with
  | tuple xs => exact ⟨xs, rfl⟩
  | dict kv => rcases kv with _ | ⟨⟨kz, vz⟩, rz⟩ <;> (try cases kz) <;> cases h
  | _ => cases h
theorem isSc_no {d : PyData} (h : isiB d "tuple" = false) : isSc d = false := by
  cases d with
  | tuple xs => cases h
  | _ => rfl
theorem isEi_no {d : PyData} (h : isiB d "tuple" = false) : isEi d = false := by
  cases d with
  | tuple xs => cases h
  | _ => rfl
theorem isRk_no {n : Nat} {d : PyData} (h : isiB d "tuple" = false) : isRk n d = false := by
  cases d with
  | tuple xs => cases h
  | _ => rfl
theorem isPr_no {n : Nat} {d : PyData} (h : isiB d "tuple" = false) : isPr n d = false := by
  cases d with
  | tuple xs => cases h
  | _ => rfl
theorem isSc_len {xs : List PyData} (h : xs.length ≠ 2) : isSc (.tuple xs) = false := by
  unfold isSc
  split
  · rename_i e; cases e; simp at h
  · rfl
theorem isPr_len {n : Nat} {xs : List PyData} (h : xs.length ≠ 2) : isPr n (.tuple xs) = false := by
  unfold isPr
  split
  · rename_i e; cases e; simp at h
  · rfl
theorem len2 {xs : List PyData} (h : xs.length = 2) : ∃ a b, xs = [a, b] := by
  match xs, h with
  | [a, b], _ => exact ⟨a, b, rfl⟩
theorem nt_ints : ∀ {es : List PyData}, es.all isNt = true → es = (es.map toI).map .int
  | [], _ => rfl
  | d :: r, h => by
    rw [List.all_cons, Bool.and_eq_true] at h
    rw [List.map_cons, List.map_cons, ← nt_ints h.2]
    cases d with
    | int i => rfl
    | _ => cases h.1
theorem isNt_W {d : PyData} : isNt d = (isW d && isNt d) := by
  cases d with
  | int i => simp [isW]
  | _ => rfl
theorem isNt_inv {d : PyData} (h : isNt d = true) : ∃ i : Int, d = .int i ∧ 0 ≤ i := by
  cases d with
  | int i => exact ⟨i, rfl, of_decide_eq_true h⟩
  | _ => cases h
theorem isW_inv {d : PyData} (h : isW d = true) : ∃ i : Int, d = .int i := by
  cases d with
  | int i => exact ⟨i, rfl⟩
  | _ => cases h
theorem sum_nt {es : List PyData} (h : es.all isNt = true) {P : PyData → Prop} : nSum [.tuple es] P = P (.int (es.map toI).sum) := by
  have e := nt_ints h
  generalize es.map toI = ns at e ⊢
  rw [e, q_sumTI]
theorem shS_of {b k : Nat} {d : PyData} (h : Sm b k d) (hb : b ≤ 100000 := by omega) : shS d := by
  cases d with
  | str x => have := h.bulk; rw [PyData.bulk] at this; exact Nat.le_trans this hb
  | _ => trivial
theorem are_heads_q (es : List PyData) (m : Nat) (hm : m ≤ 1000) (K : PyData → Prop) (h : K (.bool (decide (es.length = m) && es.all isNt))) : q_are_heads (.tuple es) (.int m) K := by
  unfold q_are_heads
  walk_at "q"
  by_cases e : es.length = m
  · rw [decide_eq_true (show ((es.length : Int) = (m : Int)) by omega)]
    walk_at "q"
    rw [decide_eq_true e, Bool.true_and] at h
    refine qLc_map (fun d => .bool (isNt d)) (by omega) (fun d hd sk yd hy => ?_) ?_
    · unfold qb_are_heads_1
      rw [is_whole_q]
      cases w : isW d with
      | false =>
        rw [isNt_W, w] at hy
        walk_at "q"
        exact hy
      | true =>
        obtain ⟨i, rfl⟩ := isW_inv w
        walk_at "q"
        exact hy
    · walk_at "q"
      exact h
  · rw [decide_eq_false (show ¬ ((es.length : Int) = (m : Int)) by omega)]
    walk_at "q"
    rw [decide_eq_false e, Bool.false_and] at h
    exact h
theorem are_eighths_q (d : PyData) (K : PyData → Prop) (h : K (.bool (isEi d))) : q_are_eighths d K := by
  unfold q_are_eighths
  cases e : isiB d "tuple" with
  | false =>
    rw [isEi_no e] at h
    walk_at "q"
    exact h
  | true =>
    obtain ⟨es, rfl⟩ := isi_tp e
    walk_at "q"
    unfold isEi at h
    dsimp only at h
    refine bIf_of (fun hc => ?_) fun hc => ?_
    · have e : (decide (1 ≤ es.length) && decide (es.length ≤ 6)) = false := by
        simp only [Bool.not_eq_true', Bool.and_eq_false_iff, decide_eq_false_iff_not] at hc ⊢
        omega
      rwa [e, Bool.false_and] at h
    · have e : (decide (1 ≤ es.length) && decide (es.length ≤ 6)) = true := by
        simp only [Bool.not_eq_false', Bool.and_eq_true, decide_eq_true_eq] at hc ⊢
        omega
      rw [e, Bool.true_and] at h
      simp only [Bool.and_eq_true, decide_eq_true_eq] at e
      refine are_heads_q es es.length (by omega) _ ?_
      rw [decide_eq_true rfl, Bool.true_and]
      walk_at "q"
      cases a : es.all isNt with
      | false => rw [a] at h; exact h
      | true =>
        rw [a] at h
        walk_at "q"
        rw [sum_nt a]
        walk_at "q"
        exact h
theorem is_pair_q {b k : Nat} (d : PyData) (n : Nat) (hs : Sm b k d) (hb : b ≤ 100000) (K : PyData → Prop) (h : K (.bool (isPr n d))) : q_is_pair d (.int n) K := by
  unfold q_is_pair
  cases e : isiB d "tuple" with
  | false =>
    rw [isPr_no e] at h
    walk_at "q"
    exact h
  | true =>
    obtain ⟨xs, rfl⟩ := isi_tp e
    walk_at "q"
    by_cases hl : xs.length = 2
    · obtain ⟨u, v, rfl⟩ := len2 hl
      have hu : shS u := shS_of (hs.inT u (by simp))
      walk_at "q"
      rw [decide_eq_true (show (((0 + 1 + 1 : Nat) : Int) = 2) from rfl)]
      walk_at "q"
      unfold isPr at h
      dsimp only at h
      refine is_name_q u hu _ ?_
      cases eu : isNm u with
      | false =>
        rw [eu] at h
        walk_at "q"
        exact h
      | true =>
        rw [eu, Bool.true_and] at h
        walk_at "q"
        rw [is_whole_q]
        cases w : isW v with
        | false =>
          rw [isNt_W, w] at h
          walk_at "q"
          exact h
        | true =>
          obtain ⟨i, rfl⟩ := isW_inv w
          walk_at "q"
          exact h
    · rw [decide_eq_false (show ¬ ((xs.length : Int) = 2) by omega)]
      rw [isPr_len hl] at h
      walk_at "q"
      exact h
theorem isPr_inv {n : Nat} {d : PyData} (h : isPr n d = true) : ∃ (x : Str) (i : Int), d = .tuple [.str x, .int i] ∧ goodN x = true ∧ 0 ≤ i ∧ i < n := by
  unfold isPr at h
  split at h
  · rename_i a b
    simp only [Bool.and_eq_true] at h
    obtain ⟨h1, h2, h3⟩ := h
    obtain ⟨x, rfl, hx⟩ := isNm_inv h1
    obtain ⟨i, rfl, hi⟩ := isNt_inv h2
    exact ⟨x, i, rfl, hx, hi, of_decide_eq_true h3⟩
  · cases h
/-- the names of two rows, told apart -/
def ltP : PyData → Bool
  | .tuple [.tuple (.str x :: _), .tuple (.str y :: _)] => strLt x y
  | _ => false
theorem rise_zip {n : Nat} : ∀ {rs : List PyData}, rs.all (isPr n) = true → (zipD rs (DL.cutD rs (some 1) none)).all ltP = rise (rs.map nmD)
  | [], _ => by
    have : DL.cutD [] (some 1) none = ([] : List PyData) := by unfold DL.cutD; simp
    rw [this]; rfl
  | [a], _ => by rw [cut1]; rfl
  | a :: b :: r, h => by
    rw [cut1]
    rw [List.all_cons, Bool.and_eq_true] at h
    have ih := rise_zip h.2
    rw [cut1] at ih
    rw [zipD, List.all_cons, ih]
    have hb := h.2
    rw [List.all_cons, Bool.and_eq_true] at hb
    obtain ⟨x, i, rfl, _⟩ := isPr_inv h.1
    obtain ⟨y, j, rfl, _⟩ := isPr_inv hb.1
    rfl
theorem zip_prs {n : Nat} : ∀ {rs ss : List PyData}, rs.all (isPr n) = true → ss.all (isPr n) = true → ∀ d ∈ zipD rs ss, ∃ (x y : Str) (i j : Int), d = .tuple [.tuple [.str x, .int i], .tuple [.str y, .int j]]
  | [], _, _, _, d, hd => by simp [zipD] at hd
  | _ :: _, [], _, _, d, hd => by simp [zipD] at hd
  | a :: r, b :: s, h, h', d, hd => by
    rw [List.all_cons, Bool.and_eq_true] at h h'
    rw [zipD] at hd
    rcases List.mem_cons.mp hd with rfl | hd
    · obtain ⟨x, i, rfl, _⟩ := isPr_inv h.1
      obtain ⟨y, j, rfl, _⟩ := isPr_inv h'.1
      exact ⟨x, y, i, j, rfl⟩
    · exact zip_prs h.2 h'.2 d hd
theorem is_scheme_q {b k : Nat} (d : PyData) (hs : Sm b k d) (hb : b ≤ 100000) (K : PyData → Prop) (h : K (.bool (isSc d))) : q_is_scheme d K := by
  unfold q_is_scheme
  cases e : isiB d "tuple" with
  | false =>
    rw [isSc_no e] at h
    walk_at "q"
    exact h
  | true =>
    obtain ⟨xs, rfl⟩ := isi_tp e
    walk_at "q"
    by_cases hl : xs.length = 2
    · obtain ⟨u, v, rfl⟩ := len2 hl
      have hv := hs.inT v (by simp)
      walk_at "q"
      rw [decide_eq_true (show (((0 + 1 + 1 : Nat) : Int) = 2) from rfl)]
      walk_at "q"
      unfold isSc at h
      dsimp only at h
      refine are_eighths_q u _ ?_
      cases eu : isEi u with
      | false =>
        rw [eu] at h
        walk_at "q"
        exact h
      | true =>
        rw [eu, Bool.true_and] at h
        obtain ⟨es, rfl⟩ : ∃ es, u = .tuple es := by
          cases u with
          | tuple es => exact ⟨es, rfl⟩
          | _ => cases eu
        walk_at "q"
        have h : K (.bool (isRk es.length v)) := h
        cases ev : isiB v "tuple" with
        | false =>
          rw [isRk_no ev] at h
          walk_at "q"
          exact h
        | true =>
          obtain ⟨rs, rfl⟩ := isi_tp ev
          walk_at "q"
          unfold isRk at h
          dsimp only at h
          refine bIf_d (fun h0 => ?_) fun h0 => ?_
          · rw [decide_eq_false (show ¬ rs.length ≤ 20 by omega)] at h
            exact h
          · rw [decide_eq_true (show rs.length ≤ 20 by omega), Bool.true_and] at h
            refine qLc_map (fun d => .bool (isPr es.length d)) (by omega) (fun d hd sk yd hy => ?_) ?_
            · unfold qb_is_scheme_1
              walk_at "q"
              exact is_pair_q d _ (hv.inT d hd) hb _ hy
            · walk_at "q"
              cases a : rs.all (isPr es.length) with
              | false => rw [a] at h; exact h
              | true =>
                rw [a, Bool.true_and] at h
                walk_at "q"
                have hc : (DL.cutD rs (some 1) none).all (isPr es.length) = true := List.all_eq_true.mpr fun x hx => List.all_eq_true.mp a x (cut_mem hx)
                refine qLc_map (fun d => .bool (ltP d)) (by rw [zipD_length]; omega) (fun d hd sk yd hy => ?_) ?_
                · obtain ⟨x, y, i, j, rfl⟩ := zip_prs a hc d hd
                  unfold qb_is_scheme_2
                  walk_at "q"
                  exact hy
                · walk_at "q"
                  rw [rise_zip a]
                  exact h
    · rw [decide_eq_false (show ¬ ((xs.length : Int) = 2) by omega)]
      rw [isSc_len hl] at h
      walk_at "q"
      exact h
theorem jn_by {α : Type} {f : (α → Prop) → Prop} {K : α → Prop} (P : α → Prop) (h : ∀ J : α → Prop, (∀ x, P x → J x) → f J) (k : ∀ x, P x → K x) : jn f K := h K k
def MPot (xs : List PyData) : Prop := ∃ g s : Int, xs = [.int g, .int s] ∧ 0 ≤ s ∧ s < 2147483647
theorem pickS_of {z : Str} {k : Int} {P : PyData → Prop} (h0 : 0 ≤ k) (h1 : k < z.cps.toList.length) (hz : z.length ≤ 100000) (h : ∀ c ∈ z.cps.toList, P (.str ⟨#[c]⟩)) : pickS z k P := by
  have hl : k.toNat < z.cps.toList.length := by omega
  have e : atI z.cps.toList k = some z.cps.toList[k.toNat] := by
    unfold atI
    rw [ixN_in h0 h1]
    exact List.getElem?_eq_getElem hl
  unfold pickS
  rw [e]
  exact ⟨hz, h _ (List.getElem_mem hl)⟩
theorem q_ixS {z : Str} {k : Int} {P : PyData → Prop} : oIx (.str z) (.int k) P = pickS z k P := rfl
theorem al_len : alph.cps.toList.length = 26 := by decide +kernel
theorem join_signs : ∀ cs : List Nat, (Str.join "" (cs.map fun c => (⟨#[c]⟩ : Str))).cps.toList = cs
  | [] => rfl
  | [c] => rfl
  | c :: d :: r => by
    have ih := join_signs (d :: r)
    rw [List.map_cons] at ih
    rw [List.map_cons, List.map_cons]
    show (((⟨#[c]⟩ : Str) ++ "" ++ Str.join "" (_ :: _)).cps.toList) = _
    show (#[c] ++ ("" : Str).cps ++ (Str.join "" ((⟨#[d]⟩ : Str) :: r.map fun c => (⟨#[c]⟩ : Str))).cps).toList = _
    rw [Array.toList_append, Array.toList_append, ih]
    rfl
theorem sgl_map : ∀ {ds : List PyData}, (∀ d ∈ ds, ∃ c ∈ alph.cps.toList, d = .str ⟨#[c]⟩) → ∃ cs : List Nat, (∀ c ∈ cs, c ∈ alph.cps.toList) ∧ ds = (cs.map fun c => (⟨#[c]⟩ : Str)).map .str
  | [], _ => ⟨[], by simp, rfl⟩
  | d :: r, h => by
    obtain ⟨cs, h1, h2⟩ := sgl_map (ds := r) fun x hx => h x (List.mem_cons_of_mem _ hx)
    obtain ⟨c, hc, rfl⟩ := h d List.mem_cons_self
    refine ⟨c :: cs, fun x hx => ?_, by rw [h2]; rfl⟩
    rcases List.mem_cons.mp hx with rfl | hx
    · exact hc
    · exact h1 x hx
theorem cut_dropS {xs : List PyData} {k : Nat} : DL.cutD xs (some (k : Int)) none = xs.drop k := by
  unfold DL.cutD
  rw [HT.sIx_none, HT.sIx_nat]
  rcases Nat.le_total k xs.length with h | h
  · rw [Nat.min_eq_left h]
    exact List.take_of_length_le (by simp)
  · rw [Nat.min_eq_right h, List.drop_length, List.drop_eq_nil_of_le h]; simp
theorem ssum_set : ∀ {l : List Int} {i : Nat} {a b : Int}, l[i]? = some a → (l.set i b).sum = l.sum - a + b
  | [], i, a, b, h => by simp at h
  | x :: r, 0, a, b, h => by
    simp at h
    subst h
    rw [List.set_cons_zero, List.sum_cons, List.sum_cons]
    omega
  | x :: r, i + 1, a, b, h => by
    have := ssum_set (l := r) (i := i) (b := b) (by simpa using h)
    rw [List.set_cons_succ, List.sum_cons, List.sum_cons, this]
    omega
theorem le_ssum : ∀ {l : List Int}, (∀ x ∈ l, 0 ≤ x) → 0 ≤ l.sum ∧ ∀ x ∈ l, x ≤ l.sum
  | [], _ => by simp
  | a :: r, h => by
    obtain ⟨h1, h2⟩ := le_ssum (l := r) fun x hx => h x (List.mem_cons_of_mem _ hx)
    have ha := h a List.mem_cons_self
    rw [List.sum_cons]
    refine ⟨by omega, fun x hx => ?_⟩
    rcases List.mem_cons.mp hx with rfl | hx
    · omega
    · have := h2 x hx; omega
theorem ints_sum (ns : List Int) : (ns.map PyData.int).map toI = ns := by
  induction ns with
  | nil => rfl
  | cons a b ih => rw [List.map_cons, List.map_cons, ih]; rfl
theorem ints_nt {ns : List Int} (h : ∀ x ∈ ns, 0 ≤ x) : (ns.map PyData.int).all isNt = true := by
  rw [List.all_map, List.all_eq_true]
  exact fun x hx => decide_eq_true (h x hx)
structure Sch (es rs : List PyData) : Prop where
  ok : isSc (.tuple [.tuple es, .tuple rs]) = true
  l1 : 1 ≤ es.length
  l6 : es.length ≤ 6
  l20 : rs.length ≤ 20
  pr : rs.all (isPr es.length) = true
  smE : Sm 6 1 (.tuple es)
  smR : Sm 400 3 (.tuple rs)
  few : ∀ x ∈ es, ∃ i : Int, x = .int i ∧ 0 ≤ i ∧ i ≤ 8
  smP : ∀ x ∈ rs, Sm 18 2 x
theorem good_rp {x : Str} (h : goodN x = true) (k : Nat) : Sm 8 k (.str x) := by
  unfold goodN at h
  simp only [Bool.and_eq_true, decide_eq_true_eq, List.all_eq_true] at h
  refine ⟨?_, by rw [PyData.bulk]; exact h.1.2, by rw [PyData.depth]; omega⟩
  rw [DL.rp]
  have a : ∀ c ∈ alph.cps.toList, c < 16 ^ 8 := by decide +kernel
  exact List.all_eq_true.mpr fun c hc => decide_eq_true (a c (h.2 c hc))
theorem pr_sm {n : Nat} (hn : n ≤ 6) {x : PyData} (h : isPr n x = true) : Sm 18 2 x := by
  obtain ⟨y, i, rfl, hy, i0, i1⟩ := isPr_inv h
  exact (Sm.tup (n := 2) (b := 8) (k := 1) (by simp) fun z hz => by
    simp only [List.mem_cons, List.not_mem_nil, or_false] at hz
    rcases hz with rfl | rfl
    · exact good_rp hy 1
    · exact Sm.int' (by omega) (by omega)).mono
theorem sch_of {ns : List Int} {rs : List PyData} (n1 : 1 ≤ ns.length) (n6 : ns.length ≤ 6) (h0 : ∀ x ∈ ns, 0 ≤ x) (h8 : ns.sum = 8) (r20 : rs.length ≤ 20) (hr : rs.all (isPr ns.length) = true) (hs : rise (rs.map nmD) = true) :
    Sch (ns.map .int) rs where
  ok := by
    unfold isSc isEi isRk tln
    dsimp only
    rw [ints_nt h0, ints_sum, h8, List.length_map, hr, hs]
    simp [n1, n6, r20]
  l1 := by simpa using n1
  l6 := by simpa using n6
  l20 := r20
  pr := by rw [List.length_map]; exact hr
  smE := (Sm.tup (n := 6) (b := 0) (k := 0) (by simpa using n6) fun x hx => by
    obtain ⟨i, hi, rfl⟩ := List.mem_map.mp hx
    have := (le_ssum h0).2 i hi
    have := h0 i hi
    exact Sm.int' (by omega) (by omega)).mono
  smR := (Sm.tup (n := 20) (b := 18) (k := 2) r20 fun x hx => pr_sm n6 (List.all_eq_true.mp hr x hx)).mono
  few := fun x hx => by
    obtain ⟨i, hi, rfl⟩ := List.mem_map.mp hx
    have := (le_ssum h0).2 i hi
    have := h0 i hi
    exact ⟨i, rfl, by omega, by omega⟩
  smP := fun x hx => pr_sm n6 (List.all_eq_true.mp hr x hx)
theorem Sch.sm {es rs : List PyData} (h : Sch es rs) : Sm 900 4 (.tuple [.tuple es, .tuple rs]) := (Sm.tup (n := 2) (b := 400) (k := 3) (by simp) fun z hz => by
  simp only [List.mem_cons, List.not_mem_nil, or_false] at hz
  rcases hz with rfl | rfl
  · exact h.smE.mono
  · exact h.smR).mono
theorem is_part_q {p q : Int} (h0 : 0 ≤ p) (h1 : p ≤ q) (h2 : 0 < q) (h3 : Int.gcd p q = 1) (K : PyData → Prop) (h : K (.bool true)) : q_is_part (.tuple [.int p, .int q]) K := by
  unfold q_is_part
  refine is_fraction_q _ (show short (.tuple [.int p, .int q]) from (by decide : 2 ≤ 100000)) _ ?_
  have : isFr (.tuple [.int p, .int q]) = true := by simp only [isFr, decide_eq_true h2, decide_eq_true h3]; rfl
  rw [this]
  walk_at "q"
  rw [decide_eq_true h0, decide_eq_true h1]
  exact h
theorem within_t {x m : Int} (h0 : 0 ≤ x) (h1 : x ≤ m) : isIn (.int x) 0 m = true := by simp only [isIn, decide_eq_true h0, decide_eq_true h1]; rfl
theorem is_sale_q {g c r h b p q : Int} (s : Sale g c r h b p q) (K : PyData → Prop) (hK : K (.bool true)) : q_is_sale (saleD g c r h b p q) K := by
  unfold q_is_sale saleD
  walk_at "q"
  rw [decide_eq_true (show (((0 + 1 + 1 + 1 + 1 + 1 + 1 : Nat) : Int) = 6) by rfl)]
  walk_at "q"
  refine is_part_q s.p0 s.pq s.q0 s.co _ ?_
  walk_at "q"
  refine qLc_map (fun _ => .bool true) (by simp [zipD]) (fun d hd sk yd hy => ?_) ?_
  · have in_ : ∀ x m : Int, 0 ≤ x → x ≤ m → qb_is_sale_1 (.tuple [.int x, .int m]) (saleD g c r h b p q, .tuple [.int 1000000000000, .int 1000000000000, .int 10000, .int 1000, .int 1000000000]) () sk yd := fun x m h0 h1 => by
      unfold qb_is_sale_1
      walk_at "q"
      rw [is_within_q, within_t h0 h1]
      exact hy
    simp only [zipD, List.mem_cons, List.not_mem_nil, or_false] at hd
    rcases hd with rfl | rfl | rfl | rfl | rfl
    · exact in_ _ _ s.g0 s.g1
    · exact in_ _ _ s.c0 s.c1
    · exact in_ _ _ s.r0 s.r1
    · exact in_ _ _ s.h0 s.h1
    · exact in_ _ _ s.b0 s.b1
  · exact hK
def hourOf : PyData → Int
  | .tuple (.int h :: _) => h
  | _ => 0
def isFar : PyData → Bool
  | .int i => decide ((if i < 0 then -i else i) ≤ 10000)
  | _ => false
def isRow : PyData → Bool
  | .tuple [h, x, y] => isIn h 0 100000 && (isFar x && isFar y)
  | _ => false
/-- rows, each behind the one ahead -/
def rowsFrom : Int → List PyData → Bool
  | _, [] => true
  | l, r :: rs => isRow r && (decide (l < hourOf r) && rowsFrom (hourOf r) rs)
def isLog : PyData → Bool
  | .tuple xs => decide (1 ≤ xs.length) && decide (xs.length ≤ 20) && rowsFrom (-1) xs
  | _ => false
theorem isRow_inv {d : PyData} (h : isRow d = true) : ∃ h x y : Int, d = .tuple [.int h, .int x, .int y] ∧ 0 ≤ h ∧ h ≤ 100000 := by
  unfold isRow at h
  split at h
  · rename_i a b c
    simp only [Bool.and_eq_true] at h
    obtain ⟨h1, h2, h3⟩ := h
    cases a <;> simp only [isIn, Bool.and_eq_true, decide_eq_true_eq, Bool.false_eq_true] at h1
    cases b <;> simp only [isFar, Bool.false_eq_true] at h2
    cases c <;> simp only [isFar, Bool.false_eq_true] at h3
    exact ⟨_, _, _, rfl, h1.1, h1.2⟩
  · cases h
theorem rows_split : ∀ (l : Int) (xs : List PyData), l < 0 ∨ xs = [] ∨ True → rowsFrom l xs = (xs.all isRow && ((xs.head?.all fun r => decide (l < hourOf r)) && (zipD xs (xs.drop 1)).all fun d => match d with | .tuple [a, b] => decide (hourOf a < hourOf b) | _ => false))
  | _, [], _ => rfl
  | l, [r], _ => by simp [rowsFrom, zipD]
  | l, r :: r2 :: rs, _ => by
    have := rows_split (hourOf r) (r2 :: rs) (.inr (.inr trivial))
    rw [rowsFrom, this]
    simp only [List.all_cons, List.drop_succ_cons, List.drop_zero, List.head?_cons, Option.all_some, zipD]
    cases isRow r <;> cases isRow r2 <;> cases rs.all isRow <;> cases decide (l < hourOf r) <;> cases decide (hourOf r < hourOf r2) <;> rfl
theorem is_hour_t (a : PyData) (K : PyData → Prop) : q_is_hour_tracks a K = K (.bool (isIn a 0 100000)) := by
  unfold q_is_hour_tracks
  simp only [is_whole_q]
  cases a <;> simp only [isW, isIn] <;> walk_at "q"
theorem is_log_row_q (a : PyData) (K : PyData → Prop) (h : K (.bool (isRow a))) : q_is_log_row a K := by
  unfold q_is_log_row
  cases a with
  | tuple xs =>
    walk_at "q"
    by_cases hn : (xs.length : Int) = 3
    · rw [decide_eq_true hn]
      walk_at "q"
      match xs, hn, h with
      | [a, b, c], _, h =>
        walk_at "q"
        rw [is_hour_t]
        walk_at "q"
        cases e : isIn a 0 100000 with
        | false =>
          walk_at "q"
          simpa only [isRow, e, Bool.false_and] using h
        | true =>
          walk_at "q"
          simp only [cut1]
          refine qLc_map (fun d => .bool (isFar d)) (by simp) (fun d hd sk yd hy => ?_) ?_
          · unfold qb_is_log_row_1
            rw [is_whole_q]
            cases d <;> simp only [isW] <;> walk_at "q" <;> exact hy
          · walk_at "q"
            simpa only [isRow, e, Bool.true_and, List.all_cons, List.all_nil, Bool.and_true] using h
    · rw [decide_eq_false hn]
      walk_at "q"
      have e : isRow (.tuple xs) = false := by
        unfold isRow
        split
        · rename_i e
          cases e
          exact absurd rfl hn
        · rfl
      rwa [e] at h
  | dict kv => rcases kv with _ | ⟨⟨kz, vz⟩, rz⟩ <;> (try cases kz) <;> exact h
  | _ => walk_at "q"; exact h
theorem is_log_q (a : PyData) (K : PyData → Prop) (h : K (.bool (isLog a))) : q_is_log a K := by
  unfold q_is_log
  cases a with
  | tuple xs =>
    walk_at "q"
    by_cases hn : decide (1 ≤ (xs.length : Int)) && decide ((xs.length : Int) ≤ 20)
    · rw [hn]
      simp only [Bool.and_eq_true, decide_eq_true_eq] at hn
      walk_at "q"
      refine qLc_map (fun d => .bool (isRow d)) (by omega) (fun d hd sk yd hy => by unfold qb_is_log_1; exact is_log_row_q d _ hy) ?_
      walk_at "q"
      have e0 : isLog (.tuple xs) = rowsFrom (-1) xs := by
        simp only [isLog, decide_eq_true (show 1 ≤ xs.length by omega), decide_eq_true (show xs.length ≤ 20 by omega), Bool.true_and]
      rw [e0, rows_split _ _ (.inl (by decide))] at h
      cases ea : xs.all isRow with
      | false =>
        walk_at "q"
        simpa only [ea, Bool.false_and] using h
      | true =>
        walk_at "q"
        have ec : DL.cutD xs (some 1) none = xs.drop 1 := by
          match xs, hn with
          | a :: l, _ => rw [cut1]; rfl
        rw [ec]
        walk_at "q"
        have hr : ∀ d ∈ xs, isRow d = true := List.all_eq_true.mp ea
        refine qLc_map (fun d => .bool (match d with | .tuple [a, b] => decide (hourOf a < hourOf b) | _ => false)) (by rw [zipD_length]; omega) (fun d hd sk yd hy => ?_) ?_
        · obtain ⟨i, hi⟩ := List.mem_iff_getElem?.mp hd
          obtain ⟨x, y, e1, e2, rfl⟩ := zipD_get hi
          obtain ⟨h1, _, _, rfl, _⟩ := isRow_inv (hr x (List.mem_of_getElem? e1))
          obtain ⟨h2, _, _, rfl, _⟩ := isRow_inv (hr y (List.mem_of_mem_drop (List.mem_of_getElem? e2)))
          unfold qb_is_log_2
          walk_at "q"
          exact hy
        · rw [q_allB]
          have eh : (xs.head?.all fun r => decide (-1 < hourOf r)) = true := by
            match xs, hr with
            | [], _ => rfl
            | a :: l, hr =>
              obtain ⟨h1, _, _, rfl, h0, _⟩ := isRow_inv (hr a List.mem_cons_self)
              simp only [List.head?_cons, Option.all_some, hourOf]
              exact decide_eq_true (by omega)
          rw [eh] at h
          simpa only [ea, Bool.true_and] using h
    · rw [Bool.not_eq_true] at hn
      rw [hn]
      walk_at "q"
      have e0 : isLog (.tuple xs) = false := by
        have : (decide (1 ≤ xs.length) && decide (xs.length ≤ 20)) = false := by
          rw [← hn]
          congr 1 <;> exact decide_eq_decide.mpr (by omega)
        simp only [isLog, this, Bool.false_and]
      rwa [e0] at h
  | dict kv => rcases kv with _ | ⟨⟨kz, vz⟩, rz⟩ <;> (try cases kz) <;> exact h
  | _ => walk_at "q"; exact h
structure Rw where
  h : Int
  x : Int
  y : Int
def rowD (r : Rw) : PyData := .tuple [.int r.h, .int r.x, .int r.y]
structure RowOk (r : Rw) : Prop where
  h0 : 0 ≤ r.h
  h1 : r.h ≤ 100000
  x0 : -10000 ≤ r.x
  x1 : r.x ≤ 10000
  y0 : -10000 ≤ r.y
  y1 : r.y ≤ 10000
theorem rowOk {h x y : Int} (h0 : 0 ≤ h) (h1 : h ≤ 100000) (x0 : -10000 ≤ x) (x1 : x ≤ 10000) (y0 : -10000 ≤ y) (y1 : y ≤ 10000) : RowOk ⟨h, x, y⟩ := ⟨h0, h1, x0, x1, y0, y1⟩
def Rises (rs : List Rw) : Prop := rs.Pairwise fun a b => a.h < b.h
structure LogOk (rs : List Rw) : Prop where
  n0 : 1 ≤ rs.length
  n1 : rs.length ≤ 20
  ok : ∀ r ∈ rs, RowOk r
  up : Rises rs
abbrev logD (rs : List Rw) : PyData := .tuple (rs.map rowD)
theorem isFar_iff {i : Int} : isFar (.int i) = true ↔ -10000 ≤ i ∧ i ≤ 10000 := by
  unfold isFar
  rw [decide_eq_true_eq]
  split <;> omega
theorem isRow_iff {r : Rw} : isRow (rowD r) = true ↔ RowOk r := by
  unfold isRow rowD
  simp only [Bool.and_eq_true, isFar_iff, isIn, decide_eq_true_eq]
  exact ⟨fun ⟨⟨h1, h2⟩, ⟨h3, h4⟩, h5, h6⟩ => ⟨h1, h2, h3, h4, h5, h6⟩, fun h => ⟨⟨h.h0, h.h1⟩, ⟨h.x0, h.x1⟩, h.y0, h.y1⟩⟩
theorem rows_of : ∀ (rs : List Rw) (l : Int), (∀ r ∈ rs, RowOk r ∧ l < r.h) → Rises rs → rowsFrom l (rs.map rowD) = true
  | [], _, _, _ => rfl
  | r :: rs, l, h, u => by
    obtain ⟨u1, u2⟩ := List.pairwise_cons.mp u
    rw [List.map_cons, rowsFrom, isRow_iff.mpr (h r (by simp)).1]
    have e : hourOf (rowD r) = r.h := rfl
    rw [e, decide_eq_true (h r (by simp)).2, rows_of rs r.h (fun q hq => ⟨(h q (by simp [hq])).1, u1 q hq⟩) u2]
    rfl
theorem LogOk.is {rs : List Rw} (h : LogOk rs) : isLog (logD rs) = true := by
  have e : isLog (logD rs) = (decide (1 ≤ (rs.map rowD).length) && decide ((rs.map rowD).length ≤ 20) && rowsFrom (-1) (rs.map rowD)) := rfl
  rw [e, List.length_map, decide_eq_true h.n0, decide_eq_true h.n1, rows_of rs (-1) (fun r hr => ⟨h.ok r hr, by have := (h.ok r hr).h0; omega⟩) h.up]
  rfl
theorem Rises.lt {rs : List Rw} (u : Rises rs) {i j : Nat} {a b : Rw} (ha : rs[i]? = some a) (hb : rs[j]? = some b) (h : i < j) : a.h < b.h := by
  obtain ⟨h1, rfl⟩ := List.getElem?_eq_some_iff.mp ha
  obtain ⟨h2, rfl⟩ := List.getElem?_eq_some_iff.mp hb
  exact List.pairwise_iff_getElem.mp u i j h1 h2 h
theorem Rises.push {rs : List Rw} (u : Rises rs) {r : Rw} (h : ∀ q ∈ rs, q.h < r.h) : Rises (rs ++ [r]) :=
  List.pairwise_append.mpr ⟨u, List.pairwise_singleton _ _, fun a ha b hb => by rw [List.mem_singleton.mp hb]; exact h a ha⟩
/-- the first row, the last row -/
theorem LogOk.first {rs : List Rw} (h : 1 ≤ rs.length) : ∃ r, rs[0]? = some r ∧ r ∈ rs ∧ ∀ P : PyData → Prop, pick (rs.map rowD) 0 P = P (.tuple [.int r.h, .int r.x, .int r.y]) := by
  cases rs with
  | nil => simp at h
  | cons r rs => exact ⟨r, rfl, by simp, fun P => at0⟩
theorem LogOk.last {rs : List Rw} (h : 1 ≤ rs.length) : ∃ r, rs[rs.length - 1]? = some r ∧ r ∈ rs ∧ ∀ P : PyData → Prop, pick (rs.map rowD) (-1) P = P (.tuple [.int r.h, .int r.x, .int r.y]) := by
  have hne : rs ≠ [] := fun e => by rw [e] at h; simp at h
  have e := List.dropLast_concat_getLast hne
  refine ⟨rs.getLast hne, ?_, List.getLast_mem hne, fun P => ?_⟩
  · rw [List.getLast_eq_getElem]
    simp
  · have e2 : rs.map rowD = rs.dropLast.map rowD ++ [rowD (rs.getLast hne)] := by
      rw [← List.map_singleton, ← List.map_append, e]
    rw [e2]
    exact atLast
theorem pot_of_q (ns : List Int) (k : Int) (k0 : 0 ≤ k) (k1 : k ≤ 1000) (K : List PyData → Prop) (h : ∀ xs, MPot xs → K xs) : q_law_pot_of (.list (ns.map .int)) (.int k) K := by
  unfold q_law_pot_of
  walk_at "j"
  have z := sz_of (i := 10) (by decide) (by decide)
  have z60 : Sz (10 ^ Int.toNat 60) := sz_of (by decide) (by decide)
  have zz : (0 : Int) < (10 ^ Int.toNat 60) ^ Int.toNat 14 := by decide +kernel
  refine jn_by (fun d => ∃ c : Int, d = .int c ∧ 0 ≤ c ∧ c < (10 ^ Int.toNat 60) ^ Int.toNat 14) (fun J hJ => ?_) ?_
  · refine bIf_d (fun hk => ?_) fun _ => ?_
    · refine pick_mem k0 (by simpa using hk) fun d mem => ?_
      obtain ⟨c, _, rfl⟩ := List.mem_map.mp mem
      walk_at "q"
      refine ⟨⟨z, by decide, by decide⟩, ⟨z60, by decide, by decide⟩, zz, ?_⟩
      exact hJ _ ⟨_, rfl, Int.emod_nonneg _ (Int.ne_of_gt zz), Int.emod_lt_of_pos _ zz⟩
    · exact hJ _ ⟨0, rfl, Int.le_refl _, zz⟩
  · rintro _ ⟨c, rfl, c0, c1⟩
    have zc : Sz c := by
      unfold Sz
      have e : (10 : Int) ^ 1000 = (((10 : Nat) ^ 1000 : Nat) : Int) := by rw [Int.natCast_pow]; rfl
      have : (10 ^ Int.toNat 60 : Int) ^ Int.toNat 14 ≤ 10 ^ 1000 := by decide +kernel
      rw [e] at this
      omega
    walk_at "q"
    have b1 := Int.emod_nonneg c (by decide : (2147483629 : Int) ≠ 0)
    have b2 := Int.emod_lt_of_pos c (by decide : (0 : Int) < 2147483629)
    generalize c % 2147483629 = m at b1 b2 ⊢
    refine ⟨⟨z, by decide, by decide⟩, ⟨zc, ?_⟩, by decide, ⟨sz_of (by decide) (by decide), sz_of (by omega) (by omega)⟩, ⟨sz_of (by omega) (by omega), by decide, by decide⟩, by decide, ?_⟩
    · split <;> exact sz_of (by decide) (by decide)
    · exact h _ ⟨_, _, rfl, Int.emod_nonneg _ (by decide), Int.emod_lt_of_pos _ (by decide)⟩
theorem draw_q {m : Int} {xs : List PyData} (hp : MPot xs) (m0 : 0 < m) (m1 : m ≤ 10 ^ 50) (K : PyData → List PyData → Prop) (h : ∀ r xs', 0 ≤ r → r < m → MPot xs' → K (.int r) xs') : q_law_draw xs (.int m) K := by
  obtain ⟨g, s, rfl, s0, s1⟩ := hp
  unfold q_law_draw
  walk_at "q"
  refine bIf_d (fun h0 => ?_) fun h0 => ?_
  · walk_at "sides"
    exact h _ _ (Int.emod_nonneg _ (by omega)) (Int.emod_lt_of_pos _ m0) ⟨_, s, rfl, s0, s1⟩
  · have b1 := Int.emod_nonneg (s * 69621 + 12345) (by decide : (2147483647 : Int) ≠ 0)
    have b2 := Int.emod_lt_of_pos (s * 69621 + 12345) (by decide : (0 : Int) < 2147483647)
    generalize (s * 69621 + 12345) % 2147483647 = A at b1 b2 ⊢
    walk_at "sides"
    exact h _ _ (Int.emod_nonneg _ (by omega)) (Int.emod_lt_of_pos _ m0) ⟨g, A, rfl, b1, b2⟩
theorem pickS_b {z : Str} {k c : Nat} {P : PyData → Prop} (h : z.cps.toList[k]? = some c) (hz : z.length ≤ 100000) (hP : P (.str ⟨#[c]⟩)) : pickS z (k : Int) P := by
  have hl := (List.getElem?_eq_some_iff.mp h).1
  have e : atI z.cps.toList (k : Int) = some c := by
    unfold atI
    rw [ixN_in (by omega) (by omega), Int.toNat_natCast]
    exact h
  unfold pickS
  rw [e]
  exact ⟨hz, hP⟩
def letB (k : Nat) : Nat := alph.cps.toList.getD k 0
theorem letB_get {k : Nat} (h : k < 26) : alph.cps.toList[k]? = some (letB k) := by
  unfold letB
  rw [List.getD_eq_getElem?_getD, List.getElem?_eq_getElem (by rw [al_len]; exact h)]
  rfl
/-- a name that ends so -/
def NmB (k : Nat) (x : Str) : Prop := goodN x = true ∧ ∃ cs : List Nat, x.cps.toList = cs ++ [letB k]
theorem name_b {xs : List PyData} (hp : MPot xs) {k : Nat} (k1 : k < 26) (K : PyData → List PyData → Prop) (h : ∀ x xs', NmB k x → MPot xs' → K (.str x) xs') : q_law_name xs (.int (k : Int)) K := by
  unfold q_law_name
  have hal : ("abcdefghijklmnopqrstuvwxyz" : Str).cps.toList.length = 26 := al_len
  refine draw_q hp (by decide) (by decide) _ fun m xs m0 m1 hp => ?_
  walk_at "q"
  refine ⟨⟨by omega, by omega⟩, ?_⟩
  refine qLc_each (fun y => ∃ c ∈ alph.cps.toList, y = .str ⟨#[c]⟩) (fun _ s => MPot s) hp (by rw [range_len]; omega) (fun k d s sk yd hd hs hy => ?_) fun acc s hl ha hs => ?_
  · unfold qb_law_name_1
    refine draw_q hs (by decide) (by decide) _ fun r xs r0 r1 hp => ?_
    rw [q_ixS]
    refine pickS_of r0 ?_ (by decide +kernel) fun c hc => hy _ _ ⟨c, hc, rfl⟩ hp
    rw [hal]
    exact r1
  · rw [range_len] at hl
    obtain ⟨cs, hc, rfl⟩ := sgl_map ha
    rw [List.length_map, List.length_map] at hl
    unfold nJoin
    dsimp only
    rw [DL.strs_map]
    refine ⟨?_, ?_⟩
    · unfold joinOk
      have e : (((cs.map fun c => (⟨#[c]⟩ : Str)).map (·.length)).sum) = cs.length := by
        clear hl hc ha
        induction cs with
        | nil => rfl
        | cons c r ih => rw [List.map_cons, List.map_cons, List.sum_cons, ih, List.length_cons]; show 1 + r.length = _; omega
      rw [e]
      have : ("" : Str).length = 0 := rfl
      rw [this]
      omega
    · dsimp only
      rw [q_ixS]
      refine pickS_b (letB_get k1) (by decide +kernel) ?_
      have hc2 : letB k ∈ alph.cps.toList := List.mem_of_getElem? (letB_get k1)
      obtain ⟨c, hcB⟩ : ∃ c, c = letB k := ⟨_, rfl⟩
      rw [← hcB] at hc2 ⊢
      have ejn : (Txt.join "" (cs.map fun c => (⟨#[c]⟩ : Str))).cps.toList = cs := by
        unfold Txt.join
        rw [PySem.StrLaws.glued_eq_join]
        exact join_signs cs
      have ej : (Txt.join "" (cs.map fun c => (⟨#[c]⟩ : Str)) ++ (⟨#[c]⟩ : Str)).cps.toList = cs ++ [c] := by
        show ((Txt.join "" (cs.map fun c => (⟨#[c]⟩ : Str))).cps ++ #[c]).toList = _
        rw [Array.toList_append, ejn]
      have hl2 : (Txt.join "" (cs.map fun c => (⟨#[c]⟩ : Str)) ++ (⟨#[c]⟩ : Str)).length = cs.length + 1 := by
        show (Txt.join "" (cs.map fun c => (⟨#[c]⟩ : Str)) ++ (⟨#[c]⟩ : Str)).cps.size = _
        rw [← Array.length_toList, ej]
        simp
      have hg : goodN (Txt.join "" (cs.map fun c => (⟨#[c]⟩ : Str)) ++ (⟨#[c]⟩ : Str)) = true := by
        unfold goodN
        rw [hl2, ej]
        simp only [Bool.and_eq_true, decide_eq_true_eq, List.all_eq_true]
        refine ⟨⟨by omega, by omega⟩, fun x hx => ?_⟩
        rcases List.mem_append.mp hx with z | z
        · exact hc x z
        · rw [List.mem_singleton.mp z]; exact hc2
      rw [q_addS]
      refine ⟨?_, h _ _ ⟨hg, cs, by rw [ej, hcB]⟩ hs⟩
      have : (Txt.join "" (cs.map fun c => (⟨#[c]⟩ : Str))).length = cs.length := by
        show (Txt.join "" (cs.map fun c => (⟨#[c]⟩ : Str))).cps.size = _
        rw [← Array.length_toList, ejn]
      rw [this]
      show cs.length + 1 ≤ 100000
      omega
theorem popQ_b {xs : List PyData} {t : Int} {d : PyData} {K : PyData → List PyData → Prop} (h0 : 0 ≤ t) (h1 : t < xs.length) (hl : xs.length ≤ 100000) (hd : xs[t.toNat]? = some d) (h : K d (xs.eraseIdx t.toNat)) : popQ xs (.int t) K := by
  unfold popQ
  dsimp only
  rw [ixN_in h0 h1]
  dsimp only
  rw [hd]
  exact ⟨hl, h⟩
theorem erase_permB {α : Type} : ∀ {l : List α} {i : Nat} (h : i < l.length), (l[i] :: l.eraseIdx i).Perm l
  | [], _, h => absurd h (Nat.not_lt_zero _)
  | a :: l, 0, _ => List.Perm.refl _
  | a :: l, i + 1, h => by
    have ih := erase_permB (l := l) (i := i) (by simpa using h)
    show (l[i]'(by simpa using h) :: a :: l.eraseIdx i).Perm (a :: l)
    exact (List.Perm.swap a _ _).trans (List.Perm.cons a ih)
theorem shuffled_b {xs ds : List PyData} {D : PyData} (hD : D = .list ds ∨ D = .tuple ds) (hl : ds.length ≤ 1000) (hp : MPot xs) (K : PyData → List PyData → Prop) (h : ∀ es xs', es.Perm ds → MPot xs' → K (.tuple es) xs') : q_law_shuffled xs D K := by
  have main : qLc qb_law_shuffled_1 D (rangeD 0 ds.length) [] (xs, ds) fun l8 s10 => nTuple [(.list l8)] fun t11 => K t11 s10.1 := by
    refine qLc_ind (fun k acc s => ∃ xs gs, s = (xs, gs) ∧ acc.length = k ∧ (acc ++ gs).Perm ds ∧ MPot xs) ⟨xs, ds, rfl, rfl, List.Perm.refl _, hp⟩ (fun k acc s hk hi => ?_) (fun k d acc s sk yd hd hi hsk hyd => ?_) fun acc s hi => ?_
    · obtain ⟨_, _, _, e, _⟩ := hi
      rw [range_len] at hk
      omega
    · obtain ⟨hk, rfl⟩ := range_get hd
      obtain ⟨xs, gs, rfl, al, pm, hp⟩ := hi
      have pl := pm.length_eq
      rw [List.length_append] at pl
      unfold qb_law_shuffled_1
      dsimp only
      refine draw_q hp (by omega) (by omega) _ fun t xs t0 t1 hp => ?_
      have ht : t.toNat < gs.length := by omega
      refine popQ_b t0 (by omega) (by omega) (List.getElem?_eq_getElem ht) ?_
      refine hyd _ _ ⟨xs, gs.eraseIdx t.toNat, rfl, by rw [List.length_append, al]; rfl, ?_, hp⟩
      rw [List.append_assoc]
      exact (List.Perm.append_left acc (erase_permB ht)).trans pm
    · obtain ⟨xs, gs, rfl, al, pm, hp⟩ := hi
      rw [range_len] at al
      have : gs = [] := List.length_eq_zero_iff.mp (by have := pm.length_eq; rw [List.length_append] at this; omega)
      subst this
      rw [List.append_nil] at pm
      walk_at "q"
      exact h _ _ pm hp
  unfold q_law_shuffled
  rcases hD with rfl | rfl
  · walk_at "q"
    refine ⟨by omega, ?_⟩
    rw [Int.toNat_natCast]

    exact main
  · walk_at "q"
    refine ⟨by omega, ?_⟩
    rw [Int.toNat_natCast]
    exact main
theorem log_b {xs : List PyData} (hp : MPot xs) (K : PyData → List PyData → Prop) (h : ∀ rs xs', LogOk rs → rs.length ≤ 4 → MPot xs' → K (logD rs) xs') : q_law_log xs K := by
  unfold q_law_log
  refine draw_q hp (by decide) (by decide) _ fun hr xs h0 h1 hp => ?_
  refine draw_q hp (by decide) (by decide) _ fun m xs m0 m1 hp => ?_
  walk_at "q"
  refine ⟨by omega, ?_⟩
  refine qFor_range (fun k s => ∃ (xs : List PyData) (t : Int) (rs : List Rw), s = (xs, .int t, rs.map rowD) ∧ MPot xs ∧ rs.length = k ∧ 0 ≤ t ∧ t ≤ 12 + 12 * (k : Int) ∧ (∀ r ∈ rs, RowOk r ∧ r.h < t) ∧ Rises rs) ⟨_, hr, [], rfl, hp, rfl, h0, by omega, by simp, List.Pairwise.nil⟩ (fun k s nx hk hs hnx => ?_) fun s hs => ?_
  · obtain ⟨xs, t, rs, rfl, hp, hl, t0, t1, ok, up⟩ := hs
    unfold qb_law_log_1
    dsimp only
    refine draw_q hp (by decide) (by decide) _ fun x xs x0 x1 hp => ?_
    walk_at "q"
    refine draw_q hp (by decide) (by decide) _ fun y xs y0 y1 hp => ?_
    walk_at "q"
    refine ⟨by omega, ?_⟩
    refine draw_q hp (by decide) (by decide) _ fun z xs z0 z1 hp => ?_
    walk_at "q"
    refine hnx _ ⟨xs, t + 1 + z, rs ++ [⟨t, x - 6, y - 6⟩], ?_, hp, by rw [List.length_append, hl]; rfl, by omega, by omega, fun r hr => ?_, up.push fun q hq => (ok q hq).2⟩
    · rw [List.map_append]
      rfl
    · rcases List.mem_append.mp hr with w | w
      · exact ⟨(ok r w).1, by have := (ok r w).2; omega⟩
      · rw [List.mem_singleton.mp w]
        exact ⟨rowOk t0 (by omega) (by omega) (by omega) (by omega) (by omega), by show t < t + 1 + z; omega⟩
  · obtain ⟨xs, t, rs, rfl, hp, hl, t0, t1, ok, up⟩ := hs
    exact h rs xs ⟨by omega, by omega, fun r hr => (ok r hr).1, up⟩ (by omega) hp
theorem log_ok {rs : List Rw} (h : LogOk rs) (K : PyData → Prop) (hK : K (.bool true)) : q_is_log (logD rs) K := by
  refine is_log_q _ _ ?_
  rw [h.is]
  exact hK
theorem sale_b {xs : List PyData} (hp : MPot xs) (K : PyData → List PyData → Prop) (hK : ∀ g c r h b p q xs', Sale g c r h b p q → MPot xs' → K (saleD g c r h b p q) xs') : q_law_sale xs K := by
  unfold q_law_sale
  have e12 : (10 : Int) ^ Int.toNat 12 = 1000000000000 := by decide
  have e9 : (10 : Int) ^ Int.toNat 9 = 1000000000 := by decide
  have z10 : Sz 10 := sz_of (by decide) (by decide)
  refine draw_q hp (by decide) (by decide) _ fun way xs w0 w1 hp => ?_
  refine draw_q hp (by decide) (by decide) _ fun d3 xs a0 a1 hp => ?_
  refine draw_q hp (by decide) (by decide) _ fun d5 xs b0 b1 hp => ?_
  walk_at "q"
  refine ⟨⟨z10, by decide, by decide⟩, ?_⟩
  simp only [e12, e9]
  refine draw_q hp (by decide) (by decide) _ fun d9 xs c0 c1 hp => ?_
  walk_at "q"
  refine ⟨⟨z10, by decide, by decide⟩, ?_⟩
  refine pick_mem w0 (by simpa using w1) fun d hd => ?_
  obtain ⟨g, rfl, g0, g1⟩ : ∃ g : Int, d = .int g ∧ 0 ≤ g ∧ g ≤ 1000000000000 := by
    simp only [List.mem_cons, List.not_mem_nil, or_false] at hd
    rcases hd with rfl | rfl | rfl | rfl <;> exact ⟨_, rfl, by omega, by omega⟩
  refine draw_q hp (by decide) (by decide) _ fun d13 xs f0 f1 hp => ?_
  walk_at "q"
  refine ⟨⟨z10, by decide, by decide⟩, ?_⟩
  refine draw_q hp (by decide) (by decide) _ fun d17 xs h0 h1 hp => ?_
  refine draw_q hp (by decide) (by decide) _ fun d19 xs i0 i1 hp => ?_
  refine draw_q hp (by decide) (by decide) _ fun d21 xs j0 j1 hp => ?_
  walk_at "q"
  refine pick_mem j0 (by simpa using j1) fun d hd => ?_
  obtain ⟨c, rfl, c0, c1⟩ : ∃ c : Int, d = .int c ∧ 0 ≤ c ∧ c ≤ 1000000000000 := by
    simp only [List.mem_cons, List.not_mem_nil, or_false] at hd
    rcases hd with rfl | rfl | rfl | rfl <;> exact ⟨_, rfl, by omega, by omega⟩
  refine draw_q hp (by decide) (by decide) _ fun d24 xs k0 k1 hp => ?_
  refine draw_q hp (by decide) (by decide) _ fun d26 xs l0 l1 hp => ?_
  walk_at "q"
  refine pick_mem l0 (by simpa using l1) fun d hd => ?_
  obtain ⟨r, rfl, r0, r1⟩ : ∃ r : Int, d = .int r ∧ 0 ≤ r ∧ r ≤ 10000 := by
    simp only [List.mem_cons, List.not_mem_nil, or_false] at hd
    rcases hd with rfl | rfl | rfl | rfl <;> exact ⟨_, rfl, by omega, by omega⟩
  refine draw_q hp (by decide) (by decide) _ fun d29 xs m0 m1 hp => ?_
  walk_at "q"
  refine pick_mem m0 (by simpa using m1) fun d hd => ?_
  obtain ⟨p, q, rfl, p0, pq, q0, q8, co⟩ : ∃ p q : Int, d = .tuple [.int p, .int q] ∧ 0 ≤ p ∧ p ≤ q ∧ 0 < q ∧ q ≤ 8 ∧ Int.gcd p q = 1 := by
    simp only [List.mem_cons, List.not_mem_nil, or_false] at hd
    rcases hd with rfl | rfl | rfl | rfl <;> exact ⟨_, _, rfl, by decide, by decide, by decide, by decide, by decide⟩
  refine draw_q hp (by decide) (by decide) _ fun hh xs n0 n1 hp => ?_
  refine draw_q hp (by decide) (by decide) _ fun d34 xs o0 o1 hp => ?_
  walk_at "q"
  refine ⟨⟨z10, by decide, by decide⟩, ?_⟩
  refine draw_q hp (by decide) (by decide) _ fun d37 xs s0 s1 hp => ?_
  walk_at "q"
  refine ⟨⟨by decide, sz_of (by decide) (by decide)⟩, ?_⟩
  refine pick_mem (by omega) (by simp; omega) fun d hd => ?_
  obtain ⟨b, rfl, b0, b1⟩ : ∃ b : Int, d = .int b ∧ 0 ≤ b ∧ b ≤ 1000000000 := by
    simp only [List.mem_cons, List.not_mem_nil, or_false] at hd
    rcases hd with rfl | rfl <;> exact ⟨_, rfl, by omega, by omega⟩
  exact hK g c r hh b p q xs ⟨g0, by omega, c0, by omega, r0, r1, n0, by omega, b0, by omega, p0, pq, q0, by omega, co⟩ hp
theorem NmB.ne {a b : Nat} {x y : Str} (h : NmB a x) (k : NmB b y) (ne : letB a ≠ letB b) : x ≠ y := fun e => by
  obtain ⟨cs, hc⟩ := h.2
  obtain ⟨ds, hd⟩ := k.2
  subst e
  rw [hc] at hd
  have := congrArg List.getLast? hd
  rw [List.getLast?_append, List.getLast?_append] at this
  simp at this
  exact ne this
theorem strs_ofB : ∀ {ds : List PyData}, (∀ d ∈ ds, ∃ x, goodN x = true ∧ d = .str x) → ∃ ts : List Str, (∀ x ∈ ts, goodN x = true) ∧ ds = ts.map .str
  | [], _ => ⟨[], by simp, rfl⟩
  | d :: ds, h => by
    obtain ⟨x, hx, rfl⟩ := h d List.mem_cons_self
    obtain ⟨ts, ht, rfl⟩ := strs_ofB fun y hy => h y (List.mem_cons_of_mem _ hy)
    exact ⟨x :: ts, fun y hy => by
      rcases List.mem_cons.mp hy with rfl | hy
      · exact hx
      · exact ht y hy, rfl⟩
structure Folk (ships men ranks prizes : List Str) : Prop where
  s1 : 1 ≤ ships.length
  s4 : ships.length ≤ 4
  m1 : 1 ≤ men.length
  m6 : men.length ≤ 6
  r3 : ranks.length = 3
  p2 : prizes.length = 2
  sg : ∀ x ∈ ships, goodN x = true
  mg : ∀ x ∈ men, goodN x = true
  rg : ∀ x ∈ ranks, goodN x = true
  pg : ∀ x ∈ prizes, goodN x = true
  rn : ranks.Nodup
abbrev strsD (l : List Str) : PyData := .list (l.map .str)
def folkD (ships men ranks prizes : List Str) : PyData := .tuple [strsD ships, strsD men, strsD ranks, strsD prizes]
theorem folk_b {xs : List PyData} (hp : MPot xs) (K : PyData → List PyData → Prop) (h : ∀ ships men ranks prizes xs', Folk ships men ranks prizes → MPot xs' → K (folkD ships men ranks prizes) xs') : q_law_folk xs K := by
  unfold q_law_folk
  refine draw_q hp (by decide) (by decide) _ fun a xs a0 a1 hp => ?_
  walk_at "q"
  refine ⟨by omega, ?_⟩
  refine qLc_each (fun y => ∃ x, goodN x = true ∧ y = .str x) (fun _ s => MPot s) hp (by rw [range_len]; omega) (fun k d s sk yd hd hs hy => ?_) fun acc s hl ha hp => ?_
  · obtain ⟨hk, rfl⟩ := range_get hd
    unfold qb_law_folk_1
    rw [show (0 : Int) + (k : Int) = (k : Int) by omega]
    exact name_b hs (by omega) _ fun x xs hx hp => hy _ _ ⟨x, hx.1, rfl⟩ hp
  obtain ⟨ships, sg, rfl⟩ := strs_ofB ha
  rw [List.length_map, range_len] at hl
  refine draw_q hp (by decide) (by decide) _ fun b xs b0 b1 hp => ?_
  walk_at "q"
  refine ⟨by omega, ?_⟩
  refine qLc_each (fun y => ∃ x, goodN x = true ∧ y = .str x) (fun _ s => MPot s) hp (by rw [range_len]; omega) (fun k d s sk yd hd hs hy => ?_) fun acc s hl2 ha hp => ?_
  · obtain ⟨hk, rfl⟩ := range_get hd
    unfold qb_law_folk_2
    walk_at "q"
    rw [show (5 : Int) + (0 + (k : Int)) = ((5 + k : Nat) : Int) by omega]
    exact name_b hs (by omega) _ fun x xs hx hp => hy _ _ ⟨x, hx.1, rfl⟩ hp
  obtain ⟨men, mg, rfl⟩ := strs_ofB ha
  rw [List.length_map, range_len] at hl2
  walk_at "q"
  refine ⟨by decide, ?_⟩
  refine qLc_ind (fun k acc s => MPot s ∧ ∃ ts : List Str, acc = ts.map .str ∧ ts.length = k ∧ ∀ (i : Nat) (x : Str), ts[i]? = some x → NmB (12 + i) x) ⟨hp, [], rfl, rfl, by simp⟩ (fun k acc s hk hi => ?_) (fun k d acc s sk yd hd hi hsk hyd => ?_) fun acc s hi => ?_
  · obtain ⟨_, ts, rfl, e, _⟩ := hi
    rw [range_len] at hk
    rw [List.length_map, e]
    have : Int.toNat 3 = 3 := rfl
    omega
  · obtain ⟨hk, rfl⟩ := range_get hd
    have hk : k < 3 := hk
    obtain ⟨hp, ts, rfl, e, hts⟩ := hi
    unfold qb_law_folk_3
    walk_at "q"
    rw [show (12 : Int) + (0 + (k : Int)) = ((12 + k : Nat) : Int) by omega]
    refine name_b hp (by omega) _ fun x xs hx hp => hyd _ _ ⟨hp, ts ++ [x], by rw [List.map_append]; rfl, by rw [List.length_append, e]; rfl, fun i y hy => ?_⟩
    rcases Nat.lt_or_ge i k with z | z
    · rw [List.getElem?_append_left (by omega)] at hy
      exact hts i y hy
    · rw [List.getElem?_append_right (by omega), e] at hy
      have hz : i - k = 0 := by
        have := (List.getElem?_eq_some_iff.mp hy).1
        simp at this
        exact this
      rw [hz] at hy
      injection hy with hy
      subst hy
      rw [show i = k by omega]
      exact hx
  · rw [range_len] at hi
    obtain ⟨hp, ts, rfl, e, hts⟩ := hi
    have e3 : ts.length = 3 := e
    match ts, e3, hts with
    | [r0, r1, r2], _, hts =>
      have h0 := hts 0 r0 rfl
      have h1 := hts 1 r1 rfl
      have h2 := hts 2 r2 rfl
      refine name_b (k := 20) hp (by decide) _ fun p0 xs hp0 hp => ?_
      refine name_b (k := 21) hp (by decide) _ fun p1 xs hp1 hp => ?_
      refine h ships men [r0, r1, r2] [p0, p1] xs ⟨by omega, by omega, by omega, by omega, rfl, rfl, sg, mg, fun x hx => ?_, fun x hx => ?_, ?_⟩ hp
      · simp only [List.mem_cons, List.not_mem_nil, or_false] at hx
        rcases hx with rfl | rfl | rfl
        · exact h0.1
        · exact h1.1
        · exact h2.1
      · simp only [List.mem_cons, List.not_mem_nil, or_false] at hx
        rcases hx with rfl | rfl
        · exact hp0.1
        · exact hp1.1
      · have a := h0.ne h1 (by decide +kernel)
        have b := h0.ne h2 (by decide +kernel)
        have c := h1.ne h2 (by decide +kernel)
        simp [a, b, c]
theorem map_perm {α β : Type} {f : α → β} : ∀ {l : List β} {m : List α}, l.Perm (m.map f) → ∃ k : List α, l = k.map f ∧ k.Perm m := by
  intro l m h
  obtain ⟨xs, hx⟩ : ∃ xs, xs = m.map f := ⟨_, rfl⟩
  rw [← hx] at h
  induction h generalizing m with
  | nil => exact ⟨m, hx, List.Perm.refl _⟩
  | cons x _ ih =>
    cases m with
    | nil => simp at hx
    | cons y m =>
      rw [List.map_cons] at hx
      injection hx with e1 e2
      obtain ⟨k, rfl, p⟩ := ih e2
      exact ⟨y :: k, by rw [e1]; rfl, p.cons y⟩
  | swap x y l =>
    match m, hx with
    | a :: b :: m, hx =>
      rw [List.map_cons, List.map_cons] at hx
      injection hx with e1 e2
      injection e2 with e2 e3
      exact ⟨b :: a :: m, by rw [e1, e2, e3]; rfl, List.Perm.swap ..⟩
  | trans _ _ ih1 ih2 =>
    obtain ⟨k2, e2, p2⟩ := ih2 hx
    obtain ⟨k1, e1, p1⟩ := ih1 e2
    exact ⟨k1, e1, p1.trans p2⟩
theorem sort_ok_strs (l : List Str) : sortOk (l.map .str) := by
  refine ⟨PySem.W.AllAlike.of fun a b => by simp [PySem.W.alike], .inr fun d hd => ?_, fun d hd => ?_, ?_⟩
  · obtain ⟨p, _, rfl⟩ := List.mem_map.mp hd
    exact ⟨nofun, fun _ => nofun⟩
  · obtain ⟨p, _, rfl⟩ := List.mem_map.mp hd
    simp [PyData.depth]
  · induction l with
    | nil => rfl
    | cons a l ih => rw [List.map_cons, PyData.hasDictAll, ih]; rfl
theorem sort_strs {l : List Str} (nd : l.Nodup) : ∃ os : List Str, sortD (l.map .str) = os.map .str ∧ (os.Pairwise fun a b => strLt a b = true) ∧ os.Perm l := by
  obtain ⟨os, e, p⟩ := map_perm (sortD_perm (l.map PyData.str))
  refine ⟨os, e, ?_, p⟩
  have pw := sortD_pair (l.map PyData.str)
  rw [e, List.pairwise_map] at pw
  refine (pw.and (p.nodup_iff.mpr nd)).imp fun {a b} ⟨h1, h2⟩ => ?_
  have : PySem.W.dataLe false id (PyData.str a) (PyData.str b) = !PySem.W.dataLt (.str b) (.str a) := rfl
  rw [this, PySem.W.dataLt_str, Bool.not_eq_true'] at h1
  exact strLt_or (by rw [strLt_eq]; exact h1) h2
theorem st_inB {xs : List PyData} {i : Int} {d : PyData} {K : List PyData → Prop} (h0 : 0 ≤ i) (h1 : i < xs.length) (h : K (xs.set i.toNat d)) : stQ xs (.int i) d K := by
  show (match ixN xs.length i with | some j => K (xs.set j d) | none => False)
  rw [ixN_in h0 h1]
  exact h
theorem scheme_b {xs : List PyData} {ranks : List Str} (r3 : ranks.length = 3) (rn : ranks.Nodup) (rg : ∀ x ∈ ranks, goodN x = true) (hp : MPot xs) (K : PyData → List PyData → Prop) (h : ∀ es rs xs', Sch es rs → MPot xs' → K (.tuple [.tuple es, .tuple rs]) xs') : q_law_scheme xs (.list (ranks.map .str)) K := by
  unfold q_law_scheme
  refine draw_q hp (by decide) (by decide) _ fun c xs c0 c1 hp => ?_
  walk_at "q"
  refine ⟨by omega, by decide, ?_⟩
  obtain ⟨n, hn⟩ : ∃ n : Nat, (1 + c) = (n : Int) := ⟨(1 + c).toNat, by omega⟩
  rw [hn]
  refine qFor_range (fun k s => ∃ xs ns, s = (xs, ns.map .int) ∧ MPot xs ∧ ns.length = n ∧ (∀ x ∈ ns, 0 ≤ x) ∧ ns.sum = (k : Int)) ⟨xs, List.replicate n 0, by simp, hp, by simp, by simp, by simp⟩ (fun k s nx hk hs hnx => ?_) fun s hs => ?_
  · obtain ⟨xs, ns, rfl, hp, nl, n0, nsum⟩ := hs
    unfold qb_law_scheme_1
    dsimp only
    refine draw_q hp (by omega) (by omega) _ fun t xs t0 t1 hp => ?_
    walk_at "q"
    have ht : t.toNat < ns.length := by omega
    have hgt : ns[t.toNat]? = some ns[t.toNat] := List.getElem?_eq_getElem ht
    have e := pick_at (xs := ns.map PyData.int) (k := t.toNat) (d := .int ns[t.toNat]) (P := fun t8 => oAdd t8 (.int 1) fun t9 => stQ (ns.map .int) (.int t) t9 fun eighths10 => nx (.list (ranks.map .str), .int n) (xs, eighths10)) (by rw [List.getElem?_map, hgt]; rfl)
    rw [show ((t.toNat : Nat) : Int) = t by omega] at e
    refine e ?_
    walk_at "q"
    refine st_inB t0 (by rw [List.length_map]; omega) (hnx _ ⟨xs, ns.set t.toNat (ns[t.toNat] + 1), ?_, hp, by rw [List.length_set, nl], fun x hx => ?_, ?_⟩)
    · rw [List.map_set]
    · rcases List.mem_or_eq_of_mem_set hx with z | z
      · exact n0 x z
      · have := n0 _ (List.getElem_mem ht)
        omega
    · rw [ssum_set hgt, nsum]
      omega
  · obtain ⟨xs, ns, rfl, hp, nl, n0, nsum⟩ := hs
    rw [q_sorted]
    refine ⟨sort_ok_strs ranks, ?_⟩
    obtain ⟨os, eo, hup, pm⟩ := sort_strs rn
    have ol := pm.length_eq
    rw [eo]
    walk_at "q"
    refine qLc_ind (fun k acc s => MPot s ∧ acc.length ≤ k ∧ ∃ rs : List PyData, acc = rs ∧ rs.all (isPr n) = true ∧ (rs.map nmD).Sublist (os.take k)) ⟨hp, Nat.le_refl _, [], rfl, rfl, List.Sublist.refl _⟩ (fun k acc s hk hi => ?_) (fun k d acc s sk yd hd hi hsk hyd => ?_) fun acc s hi => ?_
    · rw [List.length_map] at hk
      have := hi.2.1
      omega
    · obtain ⟨hp, hl, rs, rfl, hall, hsub⟩ := hi
      rw [List.getElem?_map] at hd
      obtain ⟨x, hx, rfl⟩ := Option.map_eq_some_iff.mp hd
      have hg := rg x (pm.mem_iff.mp (List.mem_of_getElem? hx))
      have e : os.take (k + 1) = os.take k ++ [x] := by rw [List.take_add_one, hx]; rfl
      unfold qb_law_scheme_2
      dsimp only
      refine draw_q hp (by decide) (by decide) _ fun a xs a0 a1 hp => ?_
      walk_at "q"
      refine bIf_d (fun _ => ?_) fun _ => hsk _ ⟨hp, by omega, _, rfl, hall, by rw [e]; exact hsub.trans (List.sublist_append_left _ _)⟩
      refine draw_q hp (by omega) (by omega) _ fun b xs b0 b1 hp => ?_
      refine hyd _ _ ⟨hp, by rw [List.length_append]; simp; omega, _, rfl, ?_, ?_⟩
      · rw [List.all_append, hall, Bool.true_and, List.all_cons, List.all_nil, Bool.and_true]
        show (isNm (.str x) && _) = true
        rw [show isNm (.str x) = true from hg]
        simp [isNt, ltN, b0, b1]
      · rw [e, List.map_append]
        exact hsub.append (List.Sublist.refl _)
    · obtain ⟨hp, hl, rs, rfl, hall, hsub⟩ := hi
      rw [List.length_map] at hl hsub
      rw [List.take_length] at hsub
      have n8 : ns.sum = 8 := nsum
      exact h _ _ _ (sch_of (by omega) (by omega) n0 n8 (by omega) (by rw [nl]; exact hall) (pw_rise (hup.sublist hsub))) hp
theorem kd_log : decide ((Str.ofString "log") = (Str.ofString "log")) = true := by decide +kernel
theorem kd_muster_log : decide ((Str.ofString "muster") = (Str.ofString "log")) = false := by decide +kernel
theorem kd_muster : decide ((Str.ofString "muster") = (Str.ofString "muster")) = true := by decide +kernel
theorem kd_scheme_log : decide ((Str.ofString "scheme") = (Str.ofString "log")) = false := by decide +kernel
theorem kd_scheme_muster : decide ((Str.ofString "scheme") = (Str.ofString "muster")) = false := by decide +kernel
theorem kd_scheme : decide ((Str.ofString "scheme") = (Str.ofString "scheme")) = true := by decide +kernel
theorem kd_taking_log : decide ((Str.ofString "taking") = (Str.ofString "log")) = false := by decide +kernel
theorem kd_taking_muster : decide ((Str.ofString "taking") = (Str.ofString "muster")) = false := by decide +kernel
theorem kd_taking_scheme : decide ((Str.ofString "taking") = (Str.ofString "scheme")) = false := by decide +kernel
theorem kd_taking : decide ((Str.ofString "taking") = (Str.ofString "taking")) = true := by decide +kernel
theorem kd_sale_log : decide ((Str.ofString "sale") = (Str.ofString "log")) = false := by decide +kernel
theorem kd_sale_muster : decide ((Str.ofString "sale") = (Str.ofString "muster")) = false := by decide +kernel
theorem kd_sale_scheme : decide ((Str.ofString "sale") = (Str.ofString "scheme")) = false := by decide +kernel
theorem kd_sale_taking : decide ((Str.ofString "sale") = (Str.ofString "taking")) = false := by decide +kernel
theorem kd_sale : decide ((Str.ofString "sale") = (Str.ofString "sale")) = true := by decide +kernel
theorem kd_finding_log : decide ((Str.ofString "finding") = (Str.ofString "log")) = false := by decide +kernel
theorem kd_finding_muster : decide ((Str.ofString "finding") = (Str.ofString "muster")) = false := by decide +kernel
theorem kd_finding_scheme : decide ((Str.ofString "finding") = (Str.ofString "scheme")) = false := by decide +kernel
theorem kd_finding_taking : decide ((Str.ofString "finding") = (Str.ofString "taking")) = false := by decide +kernel
theorem kd_finding_sale : decide ((Str.ofString "finding") = (Str.ofString "sale")) = false := by decide +kernel
theorem kd_finding : decide ((Str.ofString "finding") = (Str.ofString "finding")) = true := by decide +kernel
theorem kd_strike_log : decide ((Str.ofString "strike") = (Str.ofString "log")) = false := by decide +kernel
theorem kd_strike_muster : decide ((Str.ofString "strike") = (Str.ofString "muster")) = false := by decide +kernel
theorem kd_strike_scheme : decide ((Str.ofString "strike") = (Str.ofString "scheme")) = false := by decide +kernel
theorem kd_strike_taking : decide ((Str.ofString "strike") = (Str.ofString "taking")) = false := by decide +kernel
theorem kd_strike_sale : decide ((Str.ofString "strike") = (Str.ofString "sale")) = false := by decide +kernel
theorem kd_strike_finding : decide ((Str.ofString "strike") = (Str.ofString "finding")) = false := by decide +kernel
theorem kd_strike : decide ((Str.ofString "strike") = (Str.ofString "strike")) = true := by decide +kernel
theorem kd_had_log : decide ((Str.ofString "had") = (Str.ofString "log")) = false := by decide +kernel
theorem kd_had_muster : decide ((Str.ofString "had") = (Str.ofString "muster")) = false := by decide +kernel
theorem kd_had_scheme : decide ((Str.ofString "had") = (Str.ofString "scheme")) = false := by decide +kernel
theorem kd_had_taking : decide ((Str.ofString "had") = (Str.ofString "taking")) = false := by decide +kernel
theorem kd_had_sale : decide ((Str.ofString "had") = (Str.ofString "sale")) = false := by decide +kernel
theorem kd_had_finding : decide ((Str.ofString "had") = (Str.ofString "finding")) = false := by decide +kernel
theorem kd_had_strike : decide ((Str.ofString "had") = (Str.ofString "strike")) = false := by decide +kernel
theorem kd_had : decide ((Str.ofString "had") = (Str.ofString "had")) = true := by decide +kernel
local macro_rules | `(tactic| walk_at "k") => `(tactic| (walk_at "q"; (try simp only [kd_log, kd_muster_log, kd_muster, kd_scheme_log, kd_scheme_muster, kd_scheme, kd_taking_log, kd_taking_muster, kd_taking_scheme, kd_taking, kd_sale_log, kd_sale_muster, kd_sale_scheme, kd_sale_taking, kd_sale, kd_finding_log, kd_finding_muster, kd_finding_scheme, kd_finding_taking, kd_finding_sale, kd_finding, kd_strike_log, kd_strike_muster, kd_strike_scheme, kd_strike_taking, kd_strike_sale, kd_strike_finding, kd_strike, kd_had_log, kd_had_muster, kd_had_scheme, kd_had_taking, kd_had_sale, kd_had_finding, kd_had_strike, kd_had]); walk_at "q"))
def BodyOk (n : Int) (d : PyData) : Prop := ∀ K : PyData → Prop, K (.bool true) → q_is_body (.int n) d K
theorem good_shS {x : Str} (h : goodN x = true) : shS (.str x) := shS_of (good_rp h 1)
theorem is_name_t {x : Str} (h : goodN x = true) (K : PyData → Prop) (hK : K (.bool true)) : q_is_name (.str x) K := by
  refine is_name_q _ (good_shS h) _ ?_
  rw [show isNm (.str x) = true from h]
  exact hK
theorem two_is : decide (((0 + 1 + 1 : Nat) : Int) = 2) = true := rfl
theorem three_is : decide (((0 + 1 + 1 + 1 : Nat) : Int) = 3) = true := rfl
theorem four_is : decide (((0 + 1 + 1 + 1 + 1 : Nat) : Int) = 4) = true := rfl
theorem day_in {i : Int} (h0 : 0 ≤ i) (h1 : i ≤ 1000000) (K : PyData → Prop) (hK : K (.bool true)) : q_is_day (.int i) K := by
  unfold q_is_day
  rw [is_within_q, within_t h0 h1]
  exact hK
theorem body_log {n : Int} {x : Str} {rs : List Rw} (hx : goodN x = true) (h : LogOk rs) : BodyOk n (.tuple [.str "log", .str x, logD rs]) := fun K hK => by
  unfold q_is_body
  walk_at "k"
  rw [three_is]
  walk_at "k"
  refine is_name_t hx _ ?_
  walk_at "q"
  exact log_ok h _ hK
theorem body_finding {n m : Int} {x : Str} (hx : goodN x = true) (m0 : 0 ≤ m) (m1 : m ≤ 1000000) : BodyOk n (.tuple [.str "finding", .str x, .int m]) := fun K hK => by
  unfold q_is_body
  walk_at "k"
  rw [three_is]
  walk_at "k"
  refine is_name_t hx _ ?_
  walk_at "q"
  exact day_in m0 m1 _ hK
theorem body_strike {n m : Int} (m0 : 0 ≤ m) (m1 : m ≤ n - 1) : BodyOk n (.tuple [.str "strike", .int m]) := fun K hK => by
  unfold q_is_body
  walk_at "k"
  rw [two_is]
  walk_at "k"
  rw [is_within_q]
  rw [within_t m0 m1]
  exact hK
theorem body_had {n m : Int} {x y : Str} (hx : goodN x = true) (hy : goodN y = true) (m0 : 1 ≤ m) (m1 : m ≤ 1000000000000) : BodyOk n (.tuple [.str "had", .str x, .str y, .int m]) := fun K hK => by
  unfold q_is_body
  walk_at "k"
  rw [four_is]
  walk_at "k"
  refine is_name_t hx _ ?_
  walk_at "q"
  refine is_name_t hy _ ?_
  walk_at "q"
  rw [is_within_q]
  rw [show isIn (.int m) 1 1000000000000 = true by simp only [isIn, decide_eq_true m0, decide_eq_true m1]; rfl]
  exact hK
theorem five_is : decide (((0 + 1 + 1 + 1 + 1 + 1 : Nat) : Int) = 5) = true := rfl
theorem six_is : decide (((0 + 1 + 1 + 1 + 1 + 1 + 1 : Nat) : Int) = 6) = true := rfl
theorem eight_is : decide (((0 + 1 + 1 + 1 + 1 + 1 + 1 + 1 + 1 : Nat) : Int) = 8) = true := rfl
theorem hour_in {i : Int} (h0 : 0 ≤ i) (h1 : i ≤ 100000) (K : PyData → Prop) (hK : K (.bool true)) : q_is_hour_pages (.int i) K := by
  unfold q_is_hour_pages
  rw [is_within_q, within_t h0 h1]
  exact hK
theorem q_eqSS {a b : Str} {P : PyData → Prop} : oEqS (.str a) (.str b) P = P (.bool (decide (a = b))) := rfl
theorem body_muster {n i : Int} {x s r : Str} (hx : goodN x = true) (hs : s = "" ∨ goodN s = true) (hr : goodN r = true) (i0 : 0 ≤ i) (i1 : i ≤ 100000) : BodyOk n (.tuple [.str "muster", .str x, .int i, .str s, .str r]) := fun K hK => by
  unfold q_is_body
  walk_at "k"
  rw [five_is]
  walk_at "k"
  unfold q_is_muster
  walk_at "q"
  refine is_name_t hx _ ?_
  walk_at "q"
  refine hour_in i0 i1 _ ?_
  walk_at "q"
  try rw [q_eqSS]
  walk_at "q"
  by_cases z : s = Str.ofString ""
  · rw [decide_eq_true z]
    walk_at "q"
    exact is_name_t hr _ hK
  · rw [decide_eq_false z]
    walk_at "q"
    refine is_name_t (hs.resolve_left z) _ ?_
    walk_at "q"
    exact is_name_t hr _ hK
theorem body_scheme {n i : Int} {es rs : List PyData} (i0 : 0 ≤ i) (i1 : i ≤ 100000) (h : Sch es rs) : BodyOk n (.tuple [.str "scheme", .int i, .tuple [.tuple es, .tuple rs]]) := fun K hK => by
  unfold q_is_body
  walk_at "k"
  rw [three_is]
  walk_at "k"
  refine hour_in i0 i1 _ ?_
  walk_at "q"
  refine is_scheme_q _ h.sm (by omega) _ ?_
  rw [h.ok]
  exact hK
theorem body_taking {n a b c : Int} {x y : Str} (hx : goodN x = true) (hy : goodN y = true) (a0 : 0 ≤ a) (ab : a ≤ b) (b1 : b ≤ 100000) (c0 : 0 ≤ c) (c1 : c ≤ 100000) : BodyOk n (.tuple [.str "taking", .str x, .str y, .int a, .int b, .int c]) := fun K hK => by
  unfold q_is_body
  walk_at "k"
  rw [six_is]
  walk_at "k"
  unfold q_is_taking
  walk_at "q"
  refine is_name_t hx _ ?_
  walk_at "q"
  refine is_name_t hy _ ?_
  walk_at "q"
  refine hour_in a0 (by omega) _ ?_
  walk_at "q"
  refine hour_in (by omega) b1 _ ?_
  walk_at "q"
  rw [decide_eq_true ab]
  walk_at "q"
  rw [is_within_q, within_t c0 c1]
  exact hK
theorem body_sale {n g c r h b p q : Int} {x : Str} (hx : goodN x = true) (s : Sale g c r h b p q) : BodyOk n (.tuple [.str "sale", .str x, .int g, .int c, .int r, .int h, .int b, .tuple [.int p, .int q]]) := fun K hK => by
  unfold q_is_body
  walk_at "k"
  rw [eight_is]
  walk_at "k"
  refine is_name_t hx _ ?_
  walk_at "q"
  exact is_sale_q s _ hK
/-- the kinds of bodies -/
inductive Bd where
  | log (x : Str) (rs : List Rw)
  | muster (m : Str) (h : Int) (s r : Str)
  | scheme (h : Int) (es rs : List PyData)
  | taking (x s : Str) (lo hi ml : Int)
  | sale (x : Str) (g c r h b p q : Int)
  | had (m x : Str) (n : Int)
  | strike (t : Int)
  | finding (s : Str) (n : Int)
def bdD : Bd → PyData
  | .log x rs => .tuple [.str "log", .str x, logD rs]
  | .muster m h s r => .tuple [.str "muster", .str m, .int h, .str s, .str r]
  | .scheme h es rs => .tuple [.str "scheme", .int h, .tuple [.tuple es, .tuple rs]]
  | .taking x s lo hi ml => .tuple [.str "taking", .str x, .str s, .int lo, .int hi, .int ml]
  | .sale x g c r h b p q => .tuple [.str "sale", .str x, .int g, .int c, .int r, .int h, .int b, .tuple [.int p, .int q]]
  | .had m x n => .tuple [.str "had", .str m, .str x, .int n]
  | .strike t => .tuple [.str "strike", .int t]
  | .finding s n => .tuple [.str "finding", .str s, .int n]
def BdOk (n : Int) : Bd → Prop
  | .log x rs => goodN x = true ∧ LogOk rs
  | .muster m h s r => goodN m = true ∧ (s = "" ∨ goodN s = true) ∧ goodN r = true ∧ 0 ≤ h ∧ h ≤ 100000
  | .scheme h es rs => (0 ≤ h ∧ h ≤ 100000) ∧ Sch es rs
  | .taking x s lo hi ml => goodN x = true ∧ goodN s = true ∧ 0 ≤ lo ∧ lo ≤ hi ∧ hi ≤ 100000 ∧ 0 ≤ ml ∧ ml ≤ 100000
  | .sale x g c r h b p q => goodN x = true ∧ Sale g c r h b p q
  | .had m x k => goodN m = true ∧ goodN x = true ∧ 1 ≤ k ∧ k ≤ 1000000000000
  | .strike t => 0 ≤ t ∧ t ≤ n - 1
  | .finding s k => goodN s = true ∧ 0 ≤ k ∧ k ≤ 1000000
/-- a body that may stand on the page n -/
def BdB (n : Int) (d : PyData) : Prop := ∃ b : Bd, d = bdD b ∧ BdOk n b
theorem bdb_log {n : Int} {x : Str} {rs : List Rw} (hx : goodN x = true) (h : LogOk rs) : BdB n (.tuple [.str "log", .str x, logD rs]) := ⟨.log x rs, rfl, hx, h⟩
theorem bdb_finding {n m : Int} {x : Str} (hx : goodN x = true) (m0 : 0 ≤ m) (m1 : m ≤ 1000000) : BdB n (.tuple [.str "finding", .str x, .int m]) := ⟨.finding x m, rfl, hx, m0, m1⟩
theorem bdb_strike {n m : Int} (m0 : 0 ≤ m) (m1 : m ≤ n - 1) : BdB n (.tuple [.str "strike", .int m]) := ⟨.strike m, rfl, m0, m1⟩
theorem bdb_had {n m : Int} {x y : Str} (hx : goodN x = true) (hy : goodN y = true) (m0 : 1 ≤ m) (m1 : m ≤ 1000000000000) : BdB n (.tuple [.str "had", .str x, .str y, .int m]) := ⟨.had x y m, rfl, hx, hy, m0, m1⟩
theorem bdb_muster {n i : Int} {x s r : Str} (hx : goodN x = true) (hs : s = "" ∨ goodN s = true) (hr : goodN r = true) (i0 : 0 ≤ i) (i1 : i ≤ 100000) : BdB n (.tuple [.str "muster", .str x, .int i, .str s, .str r]) := ⟨.muster x i s r, rfl, hx, hs, hr, i0, i1⟩
theorem bdb_scheme {n i : Int} {es rs : List PyData} (i0 : 0 ≤ i) (i1 : i ≤ 100000) (h : Sch es rs) : BdB n (.tuple [.str "scheme", .int i, .tuple [.tuple es, .tuple rs]]) := ⟨.scheme i es rs, rfl, ⟨i0, i1⟩, h⟩
theorem bdb_taking {n a b c : Int} {x y : Str} (hx : goodN x = true) (hy : goodN y = true) (a0 : 0 ≤ a) (ab : a ≤ b) (b1 : b ≤ 100000) (c0 : 0 ≤ c) (c1 : c ≤ 100000) : BdB n (.tuple [.str "taking", .str x, .str y, .int a, .int b, .int c]) := ⟨.taking x y a b c, rfl, hx, hy, a0, ab, b1, c0, c1⟩
theorem bdb_sale {n g c r h b p q : Int} {x : Str} (hx : goodN x = true) (s : Sale g c r h b p q) : BdB n (.tuple [.str "sale", .str x, .int g, .int c, .int r, .int h, .int b, .tuple [.int p, .int q]]) := ⟨.sale x g c r h b p q, rfl, hx, s⟩
theorem BdB.ok {n : Int} {d : PyData} (h : BdB n d) : BodyOk n d := by
  obtain ⟨b, rfl, h⟩ := h
  cases b with
  | log => exact body_log h.1 h.2
  | muster => exact body_muster h.1 h.2.1 h.2.2.1 h.2.2.2.1 h.2.2.2.2
  | scheme => exact body_scheme h.1.1 h.1.2 h.2
  | taking => exact body_taking h.1 h.2.1 h.2.2.1 h.2.2.2.1 h.2.2.2.2.1 h.2.2.2.2.2.1 h.2.2.2.2.2.2
  | sale => exact body_sale h.1 h.2
  | had => exact body_had h.1 h.2.1 h.2.2.1 h.2.2.2
  | strike => exact body_strike h.1 h.2
  | finding => exact body_finding h.1 h.2.1 h.2.2
theorem no_dicts : ∀ {xs : List PyData}, (∀ x ∈ xs, PyData.hasDict x = false) → PyData.hasDictAll xs = false
  | [], _ => rfl
  | x :: xs, h => by rw [PyData.hasDictAll, h x List.mem_cons_self, no_dicts fun y hy => h y (List.mem_cons_of_mem _ hy)]; rfl
theorem BdB.nd {n : Int} {d : PyData} (h : BdB n d) : PyData.hasDict d = false := by
  obtain ⟨b, rfl, h⟩ := h
  cases b with
  | log x rs =>
    have : PyData.hasDictAll (rs.map rowD) = false := no_dicts fun y hy => by
      obtain ⟨r, _, rfl⟩ := List.mem_map.mp hy
      rfl
    show (false || (false || (PyData.hasDictAll (rs.map rowD) || false))) = false
    rw [this]
    rfl
  | scheme i es rs =>
    have e1 : PyData.hasDictAll es = false := no_dicts fun y hy => by
      obtain ⟨i, rfl, _⟩ := h.2.few y hy
      rfl
    have e2 : PyData.hasDictAll rs = false := no_dicts fun y hy => by
      obtain ⟨x, i, rfl, _⟩ := isPr_inv (List.all_eq_true.mp h.2.pr y hy)
      rfl
    show (false || (false || ((PyData.hasDictAll es || (PyData.hasDictAll rs || false)) || false))) = false
    rw [e1, e2]
    rfl
  | muster => rfl
  | taking => rfl
  | sale => rfl
  | had => rfl
  | strike => rfl
  | finding => rfl
theorem not_strike {k : Str} {P : Prop} (h : decide (k = Str.ofString "strike") = false) : k = "strike" → P := fun e => by
  have := of_decide_eq_false h
  exact absurd e this
theorem BdB.sh {n : Int} {d : PyData} (h : BdB n d) : ∃ (k : Str) (rest : List PyData), d = .tuple (.str k :: rest) ∧ (k = "strike" → ∃ t : Int, rest = [.int t] ∧ 0 ≤ t ∧ t ≤ n - 1) := by
  obtain ⟨b, rfl, h⟩ := h
  cases b with
  | strike t => exact ⟨_, _, rfl, fun _ => ⟨t, rfl, h.1, h.2⟩⟩
  | _ => exact ⟨_, _, rfl, not_strike (by decide +kernel)⟩
theorem pick_strs {l : List Str} {k : Int} {P : PyData → Prop} (h0 : 0 ≤ k) (h1 : k < l.length) (h : ∀ x ∈ l, P (.str x)) : pick (l.map .str) k P := pick_mem h0 (by rw [List.length_map]; exact h1) fun d hd => by
  obtain ⟨x, hx, rfl⟩ := List.mem_map.mp hd
  exact h x hx
theorem more_b {xs : List PyData} {ships men ranks prizes : List Str} {nums : List Int} {own : Int} (f : Folk ships men ranks prizes) (hn1 : 1 ≤ nums.length) (hn2 : nums.length ≤ 1000) (hn : ∀ n ∈ nums, 0 ≤ n ∧ n ≤ 1000) (hp : MPot xs) (K : PyData → List PyData → Prop) (h : ∀ d xs', BdB own d → MPot xs' → K d xs') :
    q_law_more xs (folkD ships men ranks prizes) (.list (nums.map .int)) (.int own) K := by
  have s1 := f.s1
  have s4 := f.s4
  have m1 := f.m1
  have m6 := f.m6
  have r3 := f.r3
  have p2 := f.p2
  unfold q_law_more folkD
  walk_at "q"
  refine draw_q hp (by omega) (by omega) _ fun a xs a0 a1 hp => ?_
  walk_at "q"
  refine pick_strs a0 a1 fun ship hship => ?_
  have gs := f.sg ship hship
  refine draw_q hp (by omega) (by omega) _ fun b xs b0 b1 hp => ?_
  walk_at "q"
  refine pick_strs b0 b1 fun man hman => ?_
  have gm := f.mg man hman
  refine draw_q hp (by decide) (by decide) _ fun c xs c0 c1 hp => ?_
  walk_at "q"
  refine ⟨⟨by decide, sz_of (by decide) (by decide)⟩, ?_⟩
  refine pick_strs (by omega) (by omega) fun prize hprize => ?_
  have gp := f.pg prize hprize
  refine draw_q hp (by omega) (by omega) _ fun e xs e0 e1 hp => ?_
  walk_at "q"
  refine pick_mem e0 (by rw [List.length_map]; exact e1) fun d hd => ?_
  obtain ⟨num, hnum, rfl⟩ := List.mem_map.mp hd
  have hnm := hn num hnum
  refine draw_q hp (by decide) (by decide) _ fun way xs w0 w1 hp => ?_
  walk_at "q"
  refine bIf_d (fun _ => ?_) fun _ => ?_
  · refine log_b hp _ fun rs xs hrs _ hp => ?_
    exact h _ _ (bdb_log gs hrs) hp
  refine bIf_d (fun _ => ?_) fun _ => ?_
  · walk_at "q"
    refine ⟨by omega, ?_⟩
    refine draw_q hp (by omega) (by omega) _ fun t xs t0 t1 hp => ?_
    have es : ships.map PyData.str ++ [.str (Str.ofString "")] = (ships ++ [Str.ofString ""]).map .str := by rw [List.map_append]; rfl
    rw [es]
    walk_at "q"
    refine pick_strs t0 (by rw [List.length_append]; simp; omega) fun ab hab => ?_
    have gab : ab = "" ∨ goodN ab = true := by
      rcases List.mem_append.mp hab with z | z
      · exact .inr (f.sg ab z)
      · exact .inl (List.mem_singleton.mp z)
    refine draw_q hp (by decide) (by decide) _ fun t2 xs u0 u1 hp => ?_
    refine draw_q hp (by decide) (by decide) _ fun t3 xs v0 v1 hp => ?_
    walk_at "q"
    refine pick_strs v0 (by omega) fun rk hrk => ?_
    exact h _ _ (bdb_muster gm gab (f.rg rk hrk) u0 (by omega)) hp
  refine bIf_d (fun _ => ?_) fun _ => ?_
  · refine draw_q hp (by decide) (by decide) _ fun t xs t0 t1 hp => ?_
    refine scheme_b r3 f.rn f.rg hp _ fun es rs xs hs hp => ?_
    exact h _ _ (bdb_scheme t0 (by omega) hs) hp
  refine bIf_d (fun _ => ?_) fun _ => ?_
  · refine draw_q hp (by decide) (by decide) _ fun t xs t0 t1 hp => ?_
    refine draw_q hp (by decide) (by decide) _ fun t2 xs u0 u1 hp => ?_
    walk_at "q"
    refine draw_q hp (by decide) (by decide) _ fun t3 xs v0 v1 hp => ?_
    exact h _ _ (bdb_taking gp gs t0 (by omega) (by omega) v0 (by omega)) hp
  refine bIf_d (fun _ => ?_) fun _ => ?_
  · refine sale_b hp _ fun g c r hh b p q xs hs hp => ?_
    unfold saleD
    walk_at "q"
    first
      | exact h _ _ (bdb_sale gp hs) hp
      | exact ⟨by decide, h _ _ (bdb_sale gp hs) hp⟩
  refine bIf_d (fun _ => ?_) fun _ => ?_
  · refine draw_q hp (by decide) (by decide) _ fun t xs t0 t1 hp => ?_
    walk_at "q"
    refine ⟨⟨sz_of (by decide) (by decide), by decide, by decide⟩, ?_⟩
    rw [show (10 : Int) ^ Int.toNat 12 = 1000000000000 by decide]
    refine draw_q hp (by decide) (by decide) _ fun t2 xs u0 u1 hp => ?_
    refine draw_q hp (by decide) (by decide) _ fun t3 xs v0 v1 hp => ?_
    walk_at "q"
    refine ⟨⟨by decide, sz_of (by decide) (by decide)⟩, ?_⟩
    refine pick_mem (by omega) (by simp; omega) fun d hd => ?_
    obtain ⟨v, rfl, v0, v1⟩ : ∃ v : Int, d = .int v ∧ 0 ≤ v ∧ v ≤ 999999999999 := by
      simp only [List.mem_cons, List.not_mem_nil, or_false] at hd
      rcases hd with rfl | rfl <;> exact ⟨_, rfl, by omega, by omega⟩
    walk_at "q"
    exact h _ _ (bdb_had gm gp (by omega) (by omega)) hp
  refine bIf_of (fun z => ?_) fun _ => ?_
  · simp only [Bool.and_eq_true, decide_eq_true_eq] at z
    exact h _ _ (bdb_strike hnm.1 (by omega)) hp
  · exact h _ _ (bdb_finding gs hnm.1 (by omega)) hp
/-- a body that may stand on any page -/
def BdA (d : PyData) : Prop := ∀ n : Int, 0 ≤ n → BdB n d
theorem core_b {xs : List PyData} {ships men ranks prizes : List Str} (f : Folk ships men ranks prizes) (hp : MPot xs) (K : PyData → List PyData → Prop) (h : ∀ ds xs', ds.length ≤ 30 → 1 ≤ ds.length → (∀ d ∈ ds, BdA d) → MPot xs' → K (.list ds) xs') : q_law_core xs (folkD ships men ranks prizes) K := by
  have s1 := f.s1
  have s4 := f.s4
  have m1 := f.m1
  have m6 := f.m6
  have r3 := f.r3
  have p2 := f.p2
  unfold q_law_core folkD
  walk_at "q"
  refine qFor_ind (fun k s => ∃ xs ds, s = (xs, ds) ∧ MPot xs ∧ ds.length ≤ 3 * k ∧ ∀ d ∈ ds, BdA d) ⟨xs, [], rfl, hp, by simp, by simp⟩ (fun k d s nx hd hs hnx => ?_) fun s hs => ?_
  · obtain ⟨xs, ds, rfl, hp, hl, hb⟩ := hs
    rw [List.getElem?_map] at hd
    obtain ⟨ship, hship, rfl⟩ := Option.map_eq_some_iff.mp hd
    have gs := f.sg ship (List.mem_of_getElem? hship)
    have hk := (List.getElem?_eq_some_iff.mp hship).1
    unfold qb_law_core_1
    dsimp only
    refine draw_q hp (by decide) (by decide) _ fun a xs a0 a1 hp => ?_
    walk_at "q"
    refine ⟨by omega, ?_⟩
    refine qLc_each (fun d => BdA d) (fun _ s => MPot s) hp (by rw [range_len]; omega) (fun j d s sk yd hd hs hy => ?_) fun acc s hl2 ha hp => ?_
    · unfold qb_law_core_2
      refine log_b hs _ fun rs xs hrs _ hp => ?_
      exact hy _ _ (fun n _ => (bdb_log gs hrs)) hp
    · rw [range_len] at hl2
      rw [q_ex]
      refine ⟨by omega, hnx _ ⟨s, ds ++ acc, rfl, hp, by rw [List.length_append]; omega, fun d hd => ?_⟩⟩
      rcases List.mem_append.mp hd with z | z
      · exact hb d z
      · exact ha d z
  · obtain ⟨xs, ds, rfl, hp, hl, hb⟩ := hs
    rw [List.length_map] at hl
    walk_at "q"
    refine qFor_ind (fun k s => ∃ xs es, s = (xs, es) ∧ MPot xs ∧ es.length ≤ 12 + k ∧ ∀ d ∈ es, BdA d) ⟨xs, ds, rfl, hp, by omega, hb⟩ (fun k d s nx hd hs hnx => ?_) fun s hs => ?_
    · obtain ⟨xs, es, rfl, hp, hl, hb⟩ := hs
      obtain ⟨x, hx, rfl⟩ := enumD_get hd
      rw [List.getElem?_map] at hx
      obtain ⟨man, hman, rfl⟩ := Option.map_eq_some_iff.mp hx
      have gm := f.mg man (List.mem_of_getElem? hman)
      have hk := (List.getElem?_eq_some_iff.mp hman).1
      unfold qb_law_core_3
      rw [show 0 + k = k by omega]
      walk_at "q"
      refine pick_strs (Int.le_refl _) (by omega) fun sh0 hsh0 => ?_
      walk_at "q"
      have es2 : PyData.str sh0 :: (ships.map PyData.str ++ [.str (Str.ofString "")]) = (sh0 :: (ships ++ [Str.ofString ""])).map .str := by rw [List.map_cons, List.map_append]; rfl
      refine ⟨by omega, by omega, ?_⟩
      refine draw_q hp (by omega) (by omega) _ fun a xs a0 a1 hp => ?_
      walk_at "q"
      refine ⟨⟨sz_of (by omega) (by omega), ?_⟩, ?_⟩
      · split <;> exact sz_of (by decide) (by decide)
      rw [es2]
      refine pick_strs (by split <;> omega) (by simp only [List.length_cons, List.length_append, List.length_nil]; split <;> omega) fun sh hsh => ?_
      have gsh : sh = "" ∨ goodN sh = true := by
        rcases List.mem_cons.mp hsh with rfl | z
        · exact .inr (f.sg _ hsh0)
        · rcases List.mem_append.mp z with z | z
          · exact .inr (f.sg sh z)
          · exact .inl (List.mem_singleton.mp z)
      refine draw_q hp (by decide) (by decide) _ fun b xs b0 b1 hp => ?_
      refine draw_q hp (by decide) (by decide) _ fun c xs c0 c1 hp => ?_
      walk_at "q"
      refine pick_strs c0 (by omega) fun rk hrk => ?_
      refine ⟨by omega, hnx _ ⟨xs, _, rfl, hp, by rw [List.length_append, List.length_singleton]; omega, fun d hd => ?_⟩⟩
      rcases List.mem_append.mp hd with z | z
      · exact hb d z
      · rw [List.mem_singleton.mp z]
        exact fun n _ => (bdb_muster gm gsh (f.rg rk hrk) b0 (by omega))
    · obtain ⟨xs, es, rfl, hp, hl, hb⟩ := hs
      rw [enumD_length, List.length_map] at hl
      dsimp only
      refine draw_q hp (by decide) (by decide) _ fun a xs a0 a1 hp => ?_
      refine scheme_b r3 f.rn f.rg hp _ fun cs rs xs hsch hp => ?_
      refine ⟨by omega, ?_⟩
      refine draw_q hp (by decide) (by decide) _ fun b xs b0 b1 hp => ?_
      walk_at "j"
      refine pick_strs (Int.le_refl _) (by omega) fun pz hpz => ?_
      refine pick_strs (Int.le_refl _) (by omega) fun sh hsh => ?_
      refine draw_q hp (by decide) (by decide) _ fun c xs c0 c1 hp => ?_
      walk_at "j"
      refine draw_q hp (by decide) (by decide) _ fun e xs e0 e1 hp => ?_
      refine ⟨by omega, ?_⟩
      walk_at "j"
      refine pick_strs (Int.le_refl _) (by omega) fun pz2 hpz2 => ?_
      refine sale_b hp _ fun g ch r hh bb p q xs hs hp => ?_
      unfold saleD
      walk_at "j"
      have gz := f.pg pz hpz
      have gz2 := f.pg pz2 hpz2
      have gsh := f.sg sh hsh
      have b1' : BdA (.tuple [.str "scheme", .int a, .tuple [.tuple cs, .tuple rs]]) := fun n _ => (bdb_scheme a0 (by omega) hsch)
      have b2' : BdA (.tuple [.str "taking", .str pz, .str sh, .int (6 + b), .int (6 + b + c), .int e]) := fun n _ => (bdb_taking gz gsh (by omega) (by omega) (by omega) e0 (by omega))
      have b3' : BdA (.tuple [.str "sale", .str pz2, .int g, .int ch, .int r, .int hh, .int bb, .tuple [.int p, .int q]]) := fun n _ => (bdb_sale gz2 hs)
      refine ⟨by decide, by omega, ?_⟩
      refine draw_q hp (by decide) (by decide) _ fun t xs t0 t1 hp => ?_
      walk_at "j"
      generalize hS : PyData.tuple [.str "scheme", .int a, .tuple [.tuple cs, .tuple rs]] = S at b1' ⊢
      generalize hT : PyData.tuple [.str "taking", .str pz, .str sh, .int (6 + b), .int (6 + b + c), .int e] = T at b2' ⊢
      generalize hU : PyData.tuple [.str "sale", .str pz2, .int g, .int ch, .int r, .int hh, .int bb, .tuple [.int p, .int q]] = U at b3' ⊢
      have hall : ∀ d ∈ es ++ [S] ++ [T] ++ [U], BdA d := fun d hd => by
        rcases List.mem_append.mp hd with z | z
        · rcases List.mem_append.mp z with z | z
          · rcases List.mem_append.mp z with z | z
            · exact hb d z
            · rw [List.mem_singleton.mp z]; exact b1'
          · rw [List.mem_singleton.mp z]; exact b2'
        · rw [List.mem_singleton.mp z]; exact b3'
      have hlen : (es ++ [S] ++ [T] ++ [U]).length = es.length + 3 := by simp
      generalize es ++ [S] ++ [T] ++ [U] = W at hall hlen ⊢
      refine bIf_d (fun _ => ?_) fun _ => ?_
      · refine draw_q hp (by omega) (by omega) _ fun u xs u0 u1 hp => ?_
        have hu : u.toNat < W.length := by omega
        refine popQ_b u0 (by omega) (by omega) (List.getElem?_eq_getElem hu) ?_
        have he : (W.eraseIdx u.toNat).length = W.length - 1 := List.length_eraseIdx_of_lt hu
        exact h _ _ (by omega) (by omega) (fun d hd => hall d (List.mem_of_mem_eraseIdx hd)) hp
      · exact h _ _ (by omega) (by omega) hall hp
structure Pg where
  day : Int
  n : Int
  body : PyData
def pgD (p : Pg) : PyData := .tuple [.int p.day, .int p.n, p.body]
structure PgOk (p : Pg) : Prop where
  d0 : 0 ≤ p.day
  d1 : p.day ≤ 1000000
  n0 : 0 ≤ p.n
  n1 : p.n ≤ 1000
  bd : BdB p.n p.body
/-- pages whose numbers rise, all below m -/
def PgsUp (m : Int) (ps : List Pg) : Prop := (∀ p ∈ ps, PgOk p ∧ p.n < m) ∧ ps.Pairwise fun a b => a.n < b.n
theorem PgsUp.mono {m m' : Int} {ps : List Pg} (h : PgsUp m ps) (e : m ≤ m') : PgsUp m' ps := ⟨fun p hp => ⟨(h.1 p hp).1, by have := (h.1 p hp).2; omega⟩, h.2⟩
theorem PgsUp.push {m : Int} {ps : List Pg} (h : PgsUp m ps) {p : Pg} (hp : PgOk p) (hn : p.n = m) {m' : Int} (hm : m < m') : PgsUp m' (ps ++ [p]) := by
  refine ⟨fun q hq => ?_, List.pairwise_append.mpr ⟨h.2, List.pairwise_singleton _ _, fun a ha b hb => ?_⟩⟩
  · rcases List.mem_append.mp hq with z | z
    · exact ⟨(h.1 q z).1, by have := (h.1 q z).2; omega⟩
    · rw [List.mem_singleton.mp z]
      exact ⟨hp, by omega⟩
  · rw [List.mem_singleton.mp hb]
    have := (h.1 a ha).2
    omega
def numB (d : PyData) : PyData := match d with
  | .tuple [_, n, _] => n
  | d => d
theorem book_b {xs : List PyData} {ships men ranks prizes : List Str} (f : Folk ships men ranks prizes) {most : Int} (m0 : 0 ≤ most) (m1 : most ≤ 20) (hp : MPot xs) (K : PyData → List PyData → Prop) (h : ∀ (ps : List Pg) (es : List PyData) (xs' : List PyData), (ps.length : Int) ≤ 30 + most → 1 ≤ ps.length → PgsUp 200 ps → es.Perm (ps.map pgD) → MPot xs' → K (.tuple es) xs') : q_law_book xs (folkD ships men ranks prizes) (.int most) K := by
  unfold q_law_book
  walk_at "q"
  refine ⟨⟨sz_of (by decide) (by decide), by decide, by decide⟩, ?_⟩
  rw [show (10 : Int) ^ Int.toNat 6 = 1000000 by decide]
  refine draw_q hp (by decide) (by decide) _ fun a xs a0 a1 hp => ?_
  walk_at "q"
  refine pick_mem a0 (by simpa using a1) fun d hd => ?_
  obtain ⟨far, rfl, f0, f1⟩ : ∃ far : Int, d = .int far ∧ 0 < far ∧ far ≤ 1000001 := by
    simp only [List.mem_cons, List.not_mem_nil, or_false] at hd
    rcases hd with rfl | rfl | rfl | rfl <;> exact ⟨_, rfl, by decide, by decide⟩
  refine draw_q hp (by decide) (by decide) _ fun nb xs n0 n1 hp => ?_
  refine core_b f hp _ fun ds xs dl dl1 db hp => ?_
  walk_at "q"
  refine qFor_ind (fun k s => ∃ (xs : List PyData) (ps : List Pg) (m : Int), s = (xs, ps.map pgD, .int m) ∧ MPot xs ∧ ps.length = k ∧ 0 ≤ m ∧ m ≤ 3 + 3 * (k : Int) ∧ PgsUp m ps) ⟨xs, [], nb, rfl, hp, rfl, n0, by omega, by simp, List.Pairwise.nil⟩ (fun k d s nx hd hs hnx => ?_) fun s hs => ?_
  · obtain ⟨xs, ps, m, rfl, hp, hl, mm0, mm1, up⟩ := hs
    have hk := (List.getElem?_eq_some_iff.mp hd).1
    have hbd := db d (List.mem_of_getElem? hd) m mm0
    unfold qb_law_book_1
    dsimp only
    refine draw_q hp f0 (by omega) _ fun b xs b0 b1 hp => ?_
    walk_at "q"
    refine ⟨by omega, ?_⟩
    refine draw_q hp (by decide) (by decide) _ fun c xs c0 c1 hp => ?_
    walk_at "q"
    refine hnx _ ⟨xs, ps ++ [⟨b, m, d⟩], m + 1 + c, by rw [List.map_append]; rfl, hp, (by rw [List.length_append, hl]; rfl), by omega, by omega, up.push (p := ⟨b, m, d⟩) ⟨b0, (by show b ≤ 1000000; omega), mm0, (by show m ≤ 1000; omega), hbd⟩ rfl (by omega)⟩
  · obtain ⟨xs, ps, m, rfl, hp, hl, mm0, mm1, up⟩ := hs
    walk_at "q"
    refine draw_q hp (by omega) (by omega) _ fun t xs t0 t1 hp => ?_
    walk_at "q"
    refine ⟨by omega, ?_⟩
    refine qFor_range (fun k s => ∃ (xs : List PyData) (ps : List Pg) (m : Int), s = (xs, ps.map pgD, .int m) ∧ MPot xs ∧ (1 ≤ ps.length ∧ ps.length ≤ 30 + k) ∧ 0 ≤ m ∧ m ≤ 93 + 3 * (k : Int) ∧ PgsUp m ps) ⟨xs, ps, m, rfl, hp, ⟨by omega, by omega⟩, mm0, by omega, up⟩ (fun k s nx hk hs hnx => ?_) fun s hs => ?_
    · obtain ⟨xs, ps, m, rfl, hp, hl, mm0, mm1, up⟩ := hs
      unfold qb_law_book_2
      walk_at "q"
      refine qLc_map numB (by rw [List.length_map]; omega) (fun d hd sk yd hy => ?_) ?_
      · obtain ⟨p, hp, rfl⟩ := List.mem_map.mp hd
        unfold qb_law_book_3 pgD
        walk_at "q"
        exact hy
      · have e : (ps.map pgD).map numB = (ps.map (·.n)).map .int := by
          rw [List.map_map, List.map_map]
          rfl
        rw [e]
        refine ⟨List.all_eq_true.mpr fun d hd => (by obtain ⟨x, _, rfl⟩ := List.mem_map.mp hd; rfl), ?_⟩
        walk_at "q"
        have e2 : (ps.map (·.n)).map PyData.int ++ [.int (m + 1)] = (ps.map (·.n) ++ [m + 1]).map .int := by rw [List.map_append]; rfl
        refine ⟨by omega, ?_⟩
        rw [e2]
        refine draw_q hp f0 (by omega) _ fun b xs b0 b1 hp => ?_
        refine more_b f (by simp) (by rw [List.length_append, List.length_map]; simp; omega) (fun n hn => ?_) hp _ fun d xs hd hp => ?_
        · rcases List.mem_append.mp hn with z | z
          · obtain ⟨p, hp, rfl⟩ := List.mem_map.mp z
            exact ⟨(up.1 p hp).1.n0, (up.1 p hp).1.n1⟩
          · rw [List.mem_singleton.mp z]
            omega
        · walk_at "q"
          refine ⟨by omega, ?_⟩
          refine draw_q hp (by decide) (by decide) _ fun c xs c0 c1 hp => ?_
          walk_at "q"
          refine hnx _ ⟨xs, ps ++ [⟨b, m, d⟩], m + 1 + c, by rw [List.map_append]; rfl, hp, (by rw [List.length_append, List.length_singleton]; omega), by omega, by omega, up.push (p := ⟨b, m, d⟩) ⟨b0, by show b ≤ 1000000; omega, mm0, by show m ≤ 1000; omega, hd⟩ rfl (by omega)⟩
    · obtain ⟨xs, ps, m, rfl, hp, hl, mm0, mm1, up⟩ := hs
      dsimp only
      refine shuffled_b (.inl rfl) (by rw [List.length_map]; omega) hp _ fun es xs pm hp => ?_
      exact h ps es xs (by omega) (by omega) ⟨fun p hp => ⟨(up.1 p hp).1, by have := (up.1 p hp).2; omega⟩, up.2⟩ pm hp
theorem q_itemsMT' {xs : List PyData} {K : List PyData → Prop} : itemsM (.tuple xs) K = K xs := q_itemsT
theorem q_itemsML' {xs : List PyData} {K : List PyData → Prop} : itemsM (.list xs) K = K xs := q_items
theorem q_ixMT' {xs : List PyData} {y : PyData} {P : PyData → Prop} : oIxM (.tuple xs) y P = oIx (.tuple xs) y P := rfl
theorem q_ixML' {xs : List PyData} {y : PyData} {P : PyData → Prop} : oIxM (.list xs) y P = oIx (.list xs) y P := rfl
local macro_rules | `(tactic| walk_at "m") => `(tactic| ((try simp only [q_itemsMT', q_itemsML', q_ixMT', q_ixML']); walk_at "q"))
mutual
/-- whole numbers of few figures -/
def nb : PyData → Bool
  | .none => true
  | .bool _ => true
  | .int i => decide (i.natAbs ≤ 10 ^ 45)
  | .str x => x.cps.toList.all fun c => decide (c < 16 ^ 8)
  | .list xs => nbs xs
  | .tuple xs => nbs xs
  | .dict kvs => kvs.isEmpty
def nbs : List PyData → Bool
  | [] => true
  | x :: xs => nb x && nbs xs
end
mutual
theorem nb_rp : ∀ {d : PyData}, nb d = true → DL.rp d = true
  | .none, _ => rfl
  | .bool _, _ => rfl
  | .int i, h => by
    simp only [nb, decide_eq_true_eq] at h
    simp only [DL.rp, decide_eq_true_eq]
    exact Nat.lt_of_le_of_lt h (by decide +kernel)
  | .str x, h => by simpa only [nb, DL.rp] using h
  | .list xs, h => by
    rw [DL.rp]
    exact nbs_rp (by simpa only [nb] using h)
  | .tuple xs, h => by
    rw [DL.rp]
    exact nbs_rp (by simpa only [nb] using h)
  | .dict kvs, h => by simpa only [nb, DL.rp] using h
theorem nbs_rp : ∀ {xs : List PyData}, nbs xs = true → rpAll xs = true
  | [], _ => rfl
  | x :: xs, h => by
    simp only [nbs, Bool.and_eq_true] at h
    rw [rpAll, nb_rp h.1, nbs_rp h.2]
    rfl
end
theorem nbs_mem : ∀ {xs : List PyData}, nbs xs = true → ∀ x ∈ xs, nb x = true
  | [], _, x, h => by simp at h
  | y :: ys, e, x, h => by
    simp only [nbs, Bool.and_eq_true] at e
    rcases List.mem_cons.mp h with rfl | h
    · exact e.1
    · exact nbs_mem e.2 x h
theorem nbs_all : ∀ {xs : List PyData}, (∀ x ∈ xs, nb x = true) → nbs xs = true
  | [], _ => rfl
  | x :: xs, h => by rw [nbs, h x (List.mem_cons_self ..), nbs_all fun y hy => h y (List.mem_cons_of_mem _ hy)]; rfl
theorem rp_all : ∀ {xs : List PyData}, (∀ x ∈ xs, DL.rp x = true) → rpAll xs = true
  | [], _ => rfl
  | x :: xs, h => by rw [rpAll, h x (List.mem_cons_self ..), rp_all fun y hy => h y (List.mem_cons_of_mem _ hy)]; rfl
theorem depth_all {k : Nat} : ∀ {xs : List PyData}, (∀ x ∈ xs, x.depth ≤ k) → PyData.depthAll xs ≤ k
  | [], _ => by simp [PyData.depthAll]
  | x :: xs, h => by
    rw [PyData.depthAll]
    have h1 := h x (List.mem_cons_self ..)
    have h2 := depth_all fun y hy => h y (List.mem_cons_of_mem _ hy)
    omega
theorem bulk_app : ∀ {xs ys : List PyData}, PyData.bulkAll (xs ++ ys) = PyData.bulkAll xs + PyData.bulkAll ys
  | [], ys => by simp [PyData.bulkAll]
  | x :: xs, ys => by rw [List.cons_append, PyData.bulkAll, PyData.bulkAll, bulk_app]; omega
theorem bulk_len : ∀ {xs : List PyData}, xs.length ≤ PyData.bulkAll xs
  | [] => by simp
  | x :: xs => by rw [PyData.bulkAll, List.length_cons]; have := bulk_len (xs := xs); omega
theorem bulk_in : ∀ {xs : List PyData}, ∀ x ∈ xs, x.bulk + 1 ≤ PyData.bulkAll xs
  | [], x, h => by simp at h
  | y :: ys, x, h => by
    rw [PyData.bulkAll]
    rcases List.mem_cons.mp h with rfl | h
    · omega
    · have := bulk_in x h
      omega
theorem bulk_cut {xs : List PyData} {lo hi : Option Int} : PyData.bulkAll (DL.cutD xs lo hi) ≤ PyData.bulkAll xs := by
  have t : ∀ (n : Nat) (ys : List PyData), PyData.bulkAll (ys.take n) ≤ PyData.bulkAll ys := fun n ys => by
    have := bulk_app (xs := ys.take n) (ys := ys.drop n)
    rw [List.take_append_drop] at this
    omega
  have d : ∀ (n : Nat) (ys : List PyData), PyData.bulkAll (ys.drop n) ≤ PyData.bulkAll ys := fun n ys => by
    have := bulk_app (xs := ys.take n) (ys := ys.drop n)
    rw [List.take_append_drop] at this
    omega
  unfold DL.cutD
  exact Nat.le_trans (t _ _) (d _ _)
theorem sm_tup {B k : Nat} {xs : List PyData} (h : ∀ x ∈ xs, DL.rp x = true ∧ x.depth + 1 ≤ k) (hk : 1 ≤ k) (hb : PyData.bulkAll xs ≤ B) : Sm B k (.tuple xs) := by
  refine ⟨by rw [DL.rp]; exact rp_all fun x hx => (h x hx).1, by rw [PyData.bulk]; exact hb, ?_⟩
  rw [PyData.depth]
  have := depth_all (k := k - 1) fun x hx => by have := (h x hx).2; omega
  omega
theorem sm_lst {B k : Nat} {xs : List PyData} (h : ∀ x ∈ xs, DL.rp x = true ∧ x.depth + 1 ≤ k) (hk : 1 ≤ k) (hb : PyData.bulkAll xs ≤ B) : Sm B k (.list xs) := by
  refine ⟨by rw [DL.rp]; exact rp_all fun x hx => (h x hx).1, by rw [PyData.bulk]; exact hb, ?_⟩
  rw [PyData.depth]
  have := depth_all (k := k - 1) fun x hx => by have := (h x hx).2; omega
  omega
theorem pick_get {xs : List PyData} {k : Int} {P : PyData → Prop} (h0 : 0 ≤ k) (h1 : k < xs.length) (h : ∀ d, xs[k.toNat]? = some d → P d) : pick xs k P := by
  have hl : k.toNat < xs.length := by omega
  rw [pick_eq (d := xs[k.toNat]) (by unfold atI; rw [ixN_in h0 h1]; exact List.getElem?_eq_getElem hl)]
  exact h _ (List.getElem?_eq_getElem hl)
theorem law_whole_w (a : PyData) (K : PyData → Prop) : q_law_whole a K = K (.bool (isW a)) := by
  cases a with
  | dict kv => rcases kv with _ | ⟨⟨kz, vz⟩, rz⟩ <;> (try cases kz) <;> rfl
  | _ => rfl
theorem law_within_q (a : PyData) (l m : Int) (K : PyData → Prop) : q_law_within a (.int l) (.int m) K = K (.bool (isIn a l m)) := by
  unfold q_law_within
  simp only [law_whole_w]
  cases a <;> simp only [isW, isIn] <;> walk_at "q"
theorem p4 : (10 : Int) ^ Int.toNat 4 = 10000 := by decide
theorem p5 : (10 : Int) ^ Int.toNat 5 = 100000 := by decide
theorem p6 : (10 : Int) ^ Int.toNat 6 = 1000000 := by decide
theorem p9 : (10 : Int) ^ Int.toNat 9 = 1000000000 := by decide
theorem p12 : (10 : Int) ^ Int.toNat 12 = 1000000000000 := by decide
theorem p60 : (10 : Int) ^ Int.toNat 60 = 10 ^ 60 := by decide
theorem z10 : Sz 10 := sz_of (by decide) (by decide)
/-- a log, by the law -/
theorem law_is_log_w (a : PyData) (K : PyData → Prop) (h : K (.bool (isLog a))) : q_law_is_log a K := by
  unfold q_law_is_log
  cases a with
  | tuple xs =>
    walk_at "q"
    by_cases hn : decide (1 ≤ (xs.length : Int)) && decide ((xs.length : Int) ≤ 20)
    · rw [hn]
      simp only [Bool.and_eq_true, decide_eq_true_eq] at hn
      walk_at "q"
      have e0 : isLog (.tuple xs) = rowsFrom (-1) xs := by
        simp only [isLog, decide_eq_true (show 1 ≤ xs.length by omega), decide_eq_true (show xs.length ≤ 20 by omega), Bool.true_and]
      rw [e0] at h
      refine qFor_ind (fun k s => ∃ l : Int, s = .int l ∧ -1 ≤ l ∧ l ≤ 100000 ∧ rowsFrom (-1) xs = rowsFrom l (xs.drop k)) ⟨-1, rfl, by omega, by omega, rfl⟩ (fun k d s nx hd hi hnx => ?_) fun s hi => ?_
      · obtain ⟨l, rfl, l0, l1, hl⟩ := hi
        have hk := (List.getElem?_eq_some_iff.mp hd).1
        have hdr : xs.drop k = d :: xs.drop (k + 1) := by
          rw [List.drop_eq_getElem_cons hk]
          congr 1
          exact (List.getElem?_eq_some_iff.mp hd).2
        rw [hdr, rowsFrom] at hl
        have out : (isRow d && decide (l < hourOf d)) = false → K (.bool false) := fun z => by
          have : (isRow d && (decide (l < hourOf d) && rowsFrom (hourOf d) (xs.drop (k + 1)))) = false := by
            rw [← Bool.and_assoc, z, Bool.false_and]
          rw [hl, this] at h
          exact h
        unfold qb_law_is_log_1
        cases d with
        | tuple ds =>
          walk_at "q"
          by_cases h3 : (ds.length : Int) = 3
          · rw [decide_eq_true h3]
            walk_at "q"
            match ds, h3 with
            | [a, b, c], _ =>
              walk_at "q"
              rw [p5, law_within_q]
              refine ⟨⟨z10, by decide, by decide⟩, ?_⟩
              walk_at "q"
              have e1 : isIn a (l + 1) 100000 = (isIn a 0 100000 && decide (l < hourOf (.tuple [a, b, c]))) := by
                cases a with
                | int i =>
                  show (decide (l + 1 ≤ i) && decide (i ≤ 100000)) = ((decide (0 ≤ i) && decide (i ≤ 100000)) && decide (l < i))
                  rw [Bool.eq_iff_iff]
                  simp only [Bool.and_eq_true, decide_eq_true_eq]
                  omega
                | _ => rfl
              rw [e1]
              cases e2 : (isIn a 0 100000 && decide (l < hourOf (.tuple [a, b, c]))) with
              | false =>
                walk_at "q"
                refine out ?_
                show ((isIn a 0 100000 && (isFar b && isFar c)) && decide (l < hourOf (.tuple [a, b, c]))) = false
                rw [Bool.and_eq_false_iff] at e2 ⊢
                rcases e2 with e2 | e2
                · left; rw [e2, Bool.false_and]
                · right; exact e2
              | true =>
                walk_at "q"
                have far : ∀ x : PyData, isIn x (-10000) 10000 = isFar x := fun x => by
                  cases x with
                  | int i =>
                    show (decide (-10000 ≤ i) && decide (i ≤ 10000)) = decide ((if i < 0 then -i else i) ≤ 10000)
                    rw [Bool.eq_iff_iff]
                    simp only [Bool.and_eq_true, decide_eq_true_eq]
                    split <;> omega
                  | _ => rfl
                rw [p4]
                refine ⟨⟨z10, by decide, by decide⟩, ⟨z10, by decide, by decide⟩, ?_⟩
                rw [law_within_q, far]
                walk_at "q"
                have rowE : isRow (.tuple [a, b, c]) = (isIn a 0 100000 && (isFar b && isFar c)) := rfl
                cases e3 : isFar b with
                | false =>
                  walk_at "q"
                  exact out (by rw [rowE, e3, Bool.false_and, Bool.and_false, Bool.false_and])
                | true =>
                  walk_at "q"
                  refine ⟨⟨z10, by decide, by decide⟩, ⟨z10, by decide, by decide⟩, ?_⟩
                  rw [law_within_q, far]
                  walk_at "q"
                  cases e4 : isFar c with
                  | false =>
                    walk_at "q"
                    exact out (by rw [rowE, e4, Bool.and_false, Bool.and_false, Bool.false_and])
                  | true =>
                    walk_at "q"
                    rw [Bool.and_eq_true] at e2
                    have hrow : isRow (.tuple [a, b, c]) = true := by rw [rowE, e2.1, e3, e4]; rfl
                    rw [hrow, Bool.true_and, e2.2, Bool.true_and] at hl
                    cases a with
                    | int i =>
                      have hi2 : (decide (0 ≤ i) && decide (i ≤ 100000)) = true := e2.1
                      rw [Bool.and_eq_true, decide_eq_true_eq, decide_eq_true_eq] at hi2
                      exact hnx _ ⟨i, rfl, by omega, by omega, hl⟩
                    | _ => cases e2.1
          · rw [decide_eq_false h3]
            walk_at "q"
            refine out ?_
            have : isRow (.tuple ds) = false := by
              unfold isRow
              split
              · rename_i e
                cases e
                exact absurd rfl h3
              · rfl
            rw [this, Bool.false_and]
        | dict kv => rcases kv with _ | ⟨⟨kz, vz⟩, rz⟩ <;> (try cases kz) <;> (walk_at "q"; exact out rfl)
        | _ => walk_at "q"; exact out rfl
      · obtain ⟨l, rfl, l0, l1, hl⟩ := hi
        rw [List.drop_length, rowsFrom] at hl
        rw [hl] at h
        exact h
    · rw [Bool.not_eq_true] at hn
      rw [hn]
      walk_at "q"
      have e0 : isLog (.tuple xs) = false := by
        have : (decide (1 ≤ xs.length) && decide (xs.length ≤ 20)) = false := by
          rw [← hn]
          congr 1 <;> exact decide_eq_decide.mpr (by omega)
        simp only [isLog, this, Bool.false_and]
      rwa [e0] at h
  | dict kv => rcases kv with _ | ⟨⟨kz, vz⟩, rz⟩ <;> (try cases kz) <;> exact h
  | _ => walk_at "q"; exact h
theorem q_leAI {i j : Int} {P : PyData → Prop} : oLeA (.int i) (.int j) P = P (.bool (decide (i ≤ j))) := rfl
theorem q_leAS {a b : Str} {P : PyData → Prop} : oLeA (.str a) (.str b) P = P (.bool (!strLt b a)) := rfl
theorem q_eqSS' {a b : Str} {P : PyData → Prop} : oEqS (.str a) (.str b) P = P (.bool (decide (a = b))) := rfl
local macro_rules | `(tactic| walk_at "p") => `(tactic| ((try simp only [q_leAI, q_leAS, q_eqSS']); walk_at "q"))
/-- data whose numbers have few figures -/
structure Sn (b k : Nat) (d : PyData) : Prop where
  nb : nb d = true
  bulk : d.bulk ≤ b
  depth : d.depth ≤ k
theorem Sn.sm {b k : Nat} {d : PyData} (h : Sn b k d) : Sm b k d := ⟨nb_rp h.nb, h.bulk, h.depth⟩
theorem Sn.mono {b k b' k' : Nat} {d : PyData} (h : Sn b k d) (hb : b ≤ b' := by omega) (hk : k ≤ k' := by omega) : Sn b' k' d := ⟨h.nb, Nat.le_trans h.bulk hb, Nat.le_trans h.depth hk⟩
theorem Sn.inT {b k : Nat} {xs : List PyData} (h : Sn b k (.tuple xs)) : ∀ x ∈ xs, Sn b k x := fun x hx => by
  have h1 := h.nb
  rw [_root_.K62.nb] at h1
  exact ⟨nbs_mem h1 x hx, (h.sm.inT x hx).bulk, (h.sm.inT x hx).depth⟩
theorem Sn.len {b k : Nat} {xs : List PyData} (h : Sn b k (.tuple xs)) : xs.length ≤ b := by
  have h1 := h.bulk
  rw [PyData.bulk] at h1
  exact Nat.le_trans bulk_len h1
theorem Sn.int {b k : Nat} {i : Int} (h : Sn b k (.int i)) : -(10 ^ 45) ≤ i ∧ i ≤ 10 ^ 45 := by
  have h1 := h.nb
  have : decide (i.natAbs ≤ 10 ^ 45) = true := h1
  rw [decide_eq_true_eq] at this
  omega
theorem shortOf {b k : Nat} {d : PyData} (h : Sn b k d) (hb : b ≤ 100000) : short d := by
  cases d with
  | tuple xs => exact Nat.le_trans h.len hb
  | _ => trivial
/-- a part -/
theorem isPart_no {d : PyData} (h : isiB d "tuple" = false) : isPart d = false := by
  cases d with
  | tuple xs => cases h
  | _ => rfl
theorem is_part_g (d : PyData) (hs : short d) (K : PyData → Prop) (h : K (.bool (isPart d))) : q_is_part d K := by
  unfold q_is_part
  refine is_fraction_q d hs _ ?_
  cases e : isFr d with
  | false =>
    walk_at "q"
    have : isPart d = false := by
      unfold isPart
      split
      · rw [e, Bool.false_and]
      · rfl
    rw [this] at h
    exact h
  | true =>
    walk_at "q"
    unfold isFr at e
    split at e
    · rename_i p q
      have e2 : isPart (.tuple [.int p, .int q]) = (decide (0 ≤ p) && decide (p ≤ q)) := by
        show (isFr (.tuple [.int p, .int q]) && _) = _
        have : isFr (.tuple [.int p, .int q]) = true := e
        rw [this, Bool.true_and]
      rw [e2] at h
      walk_at "q"
      exact h
    · cases e
theorem law_is_part_w {b k : Nat} (d : PyData) (hs : Sn b k d) (hb : b ≤ 100000) (K : PyData → Prop) (h : K (.bool (isPart d))) : q_law_is_part d K := by
  unfold q_law_is_part
  cases e : isiB d "tuple" with
  | false =>
    rw [isPart_no e] at h
    walk_at "q"
    exact h
  | true =>
    obtain ⟨xs, rfl⟩ := isi_tp e
    walk_at "q"
    by_cases hl : xs.length = 2
    · obtain ⟨u, v, rfl⟩ := len2 hl
      have hu := hs.inT u (by simp)
      have hv := hs.inT v (by simp)
      walk_at "q"
      rw [decide_eq_true (show (((0 + 1 + 1 : Nat) : Int) = 2) from rfl)]
      walk_at "q"
      rw [p60]
      refine ⟨⟨z10, by decide, by decide⟩, ?_⟩
      rw [law_within_q]
      have no : ∀ {c : Bool}, isPart (.tuple [u, v]) = c → c = false → K (.bool false) := fun e z => by rw [e, z] at h; exact h
      cases e1 : isIn u 0 (10 ^ 60) with
      | false =>
        walk_at "q"
        refine no rfl ?_
        unfold isPart
        split
        · rename_i p q e3
          cases e3
          have := hu.int
          have e1 : (decide (0 ≤ p) && decide (p ≤ 10 ^ 60)) = false := e1
          have : decide (p ≤ 10 ^ 60) = true := decide_eq_true (by omega)
          rw [this, Bool.and_true] at e1
          rw [e1, Bool.false_and, Bool.and_false]
        · rfl
      | true =>
        cases u with
        | int p =>
          have e1 : (decide (0 ≤ p) && decide (p ≤ 10 ^ 60)) = true := e1
          rw [Bool.and_eq_true, decide_eq_true_eq, decide_eq_true_eq] at e1
          walk_at "q"
          refine ⟨⟨z10, by decide, by decide⟩, ?_⟩
          rw [law_within_q]
          cases e2 : isIn v 1 (10 ^ 60) with
          | false =>
            walk_at "q"
            refine no rfl ?_
            unfold isPart
            split
            · rename_i p2 q e3
              cases e3
              have := hv.int
              have e2 : (decide (1 ≤ q) && decide (q ≤ 10 ^ 60)) = false := e2
              have : decide (q ≤ 10 ^ 60) = true := decide_eq_true (by omega)
              rw [this, Bool.and_true, decide_eq_false_iff_not] at e2
              have : decide (0 < q) = false := decide_eq_false (by omega)
              show ((decide (0 < q) && decide (Int.gcd p q = 1)) && _) = false
              rw [this]
              rfl
            · rfl
          | true =>
            cases v with
            | int q =>
              have e2 : (decide (1 ≤ q) && decide (q ≤ 10 ^ 60)) = true := e2
              rw [Bool.and_eq_true, decide_eq_true_eq, decide_eq_true_eq] at e2
              have hP : isPart (.tuple [.int p, .int q]) = (decide (Int.gcd p q = 1) && decide (p ≤ q)) := by
                show ((decide (0 < q) && decide (Int.gcd p q = 1)) && (decide (0 ≤ p) && decide (p ≤ q))) = _
                rw [decide_eq_true (show 0 < q by omega), decide_eq_true e1.1, Bool.true_and, Bool.true_and]
              rw [hP] at h
              walk_at "q"
              refine bIf_d (fun c => ?_) fun c => ?_
              · rw [decide_eq_false (show ¬ p ≤ q by omega), Bool.and_false] at h
                exact h
              · rw [decide_eq_true (show p ≤ q by omega), Bool.and_true] at h
                refine qWhile_ind (m := p.toNat) (fun m s => ∃ a b : Int, s = (.int a, .int b) ∧ 0 ≤ a ∧ 0 ≤ b ∧ a.toNat = m ∧ Int.gcd a b = Int.gcd p q) ⟨_, _, rfl, e1.1, by omega, rfl, rfl⟩ ?_
                rintro m _ nx ⟨a, b, rfl, ha, hb2, hm, hg⟩ hn
                unfold qb_law_is_part_1
                walk_at "q"
                refine bIf_d (fun h0 => ?_) fun h0 => ?_
                · walk_at "go"
                  have hm1 := Int.emod_lt_of_pos b h0
                  have hm0 := Int.emod_nonneg b (by omega : a ≠ 0)
                  refine hn (b % a).toNat _ (by omega) ⟨b % a, a, rfl, hm0, by omega, rfl, ?_⟩
                  rw [Int.gcd_comm, gcd_step b a h0 hb2, Int.gcd_comm, hg]
                · have e : a = 0 := by omega
                  subst e
                  have hg2 : Int.gcd 0 b = b.natAbs := Int.gcd_zero_left b
                  rw [hg2] at hg
                  walk_at "q"
                  have : decide (b = 1) = decide (Int.gcd p q = 1) := decide_eq_decide.mpr (by rw [← hg]; omega)
                  rw [this]
                  exact h
            | _ => cases e2
        | _ => cases e1
    · rw [decide_eq_false (show ¬ ((xs.length : Int) = 2) by omega)]
      walk_at "q"
      have : isPart (.tuple xs) = false := by
        unfold isPart
        split
        · rename_i e3
          cases e3
          exact absurd rfl hl
        · rfl
      rw [this] at h
      exact h
/-- a sale -/
def isSl : PyData → Bool
  | .tuple [g, c, r, h, b, p] => isPart p && (isIn g 0 1000000000000 && (isIn c 0 1000000000000 && (isIn r 0 10000 && (isIn h 0 1000 && isIn b 0 1000000000))))
  | _ => false
theorem isSl_no {d : PyData} (h : isiB d "tuple" = false) : isSl d = false := by
  cases d with
  | tuple xs => cases h
  | _ => rfl
theorem isSl_len {xs : List PyData} (h : xs.length ≠ 6) : isSl (.tuple xs) = false := by
  unfold isSl
  split
  · rename_i e
    cases e
    exact absurd rfl h
  · rfl
theorem len6 {xs : List PyData} (h : xs.length = 6) : ∃ a b c d e f, xs = [a, b, c, d, e, f] := by
  match xs, h with
  | [a, b, c, d, e, f], _ => exact ⟨_, _, _, _, _, _, rfl⟩
def wiD : PyData → PyData
  | .tuple [d, .int m] => .bool (isIn d 0 m)
  | _ => .bool false
theorem is_sale_g {b k : Nat} (d : PyData) (hs : Sn b k d) (hb : b ≤ 100000) (K : PyData → Prop) (h : K (.bool (isSl d))) : q_is_sale d K := by
  unfold q_is_sale
  cases e : isiB d "tuple" with
  | false =>
    rw [isSl_no e] at h
    walk_at "q"
    exact h
  | true =>
    obtain ⟨xs, rfl⟩ := isi_tp e
    walk_at "q"
    by_cases hl : xs.length = 6
    · obtain ⟨g, c, r, hh, bb, p, rfl⟩ := len6 hl
      have hp := hs.inT p (by simp)
      have e0 : isSl (.tuple [g, c, r, hh, bb, p]) = (isPart p && (isIn g 0 1000000000000 && (isIn c 0 1000000000000 && (isIn r 0 10000 && (isIn hh 0 1000 && isIn bb 0 1000000000))))) := rfl
      rw [e0] at h
      walk_at "q"
      rw [decide_eq_true (show (((0 + 1 + 1 + 1 + 1 + 1 + 1 : Nat) : Int) = 6) from rfl)]
      walk_at "q"
      refine is_part_g p (shortOf hp hb) _ ?_
      cases ep : isPart p with
      | false =>
        rw [ep] at h
        walk_at "q"
        exact h
      | true =>
        rw [ep, Bool.true_and] at h
        walk_at "q"
        refine qLc_map wiD (by simp [zipD]) (fun d hd sk yd hy => ?_) ?_
        · simp only [zipD, List.mem_cons, List.not_mem_nil, or_false] at hd
          unfold qb_is_sale_1
          rcases hd with rfl | rfl | rfl | rfl | rfl <;> (walk_at "q"; rw [is_within_q]; exact hy)
        · have em : (zipD [g, c, r, hh, bb, p] [.int 1000000000000, .int 1000000000000, .int 10000, .int 1000, .int 1000000000]).map wiD = [PyData.bool (isIn g 0 1000000000000), .bool (isIn c 0 1000000000000), .bool (isIn r 0 10000), .bool (isIn hh 0 1000), .bool (isIn bb 0 1000000000)] := rfl
          rw [em]
          have eb : [PyData.bool (isIn g 0 1000000000000), .bool (isIn c 0 1000000000000), .bool (isIn r 0 10000), .bool (isIn hh 0 1000), .bool (isIn bb 0 1000000000)] = [isIn g 0 1000000000000, isIn c 0 1000000000000, isIn r 0 10000, isIn hh 0 1000, isIn bb 0 1000000000].map fun t => PyData.bool t := rfl
          have eb2 : ([isIn g 0 1000000000000, isIn c 0 1000000000000, isIn r 0 10000, isIn hh 0 1000, isIn bb 0 1000000000].map fun t => PyData.bool t) = ([isIn g 0 1000000000000, isIn c 0 1000000000000, isIn r 0 10000, isIn hh 0 1000, isIn bb 0 1000000000].map fun t => PyData.bool t).map fun d => .bool (match d with | .bool t => t | _ => false) := by rw [List.map_map]; rfl
          rw [eb, eb2, q_allB]
          simpa only [List.map_cons, List.map_nil, List.all_cons, List.all_nil, Bool.and_true] using h
    · rw [decide_eq_false (show ¬ ((xs.length : Int) = 6) by omega)]
      rw [isSl_len hl] at h
      walk_at "q"
      exact h
theorem law_is_sale_w {b k : Nat} (xs : List PyData) (hs : Sn b k (.tuple xs)) (hb : b ≤ 100000) (K : PyData → Prop) (h : K (.bool (isSl (.tuple xs)))) : q_law_is_sale (.tuple xs) K := by
  unfold q_law_is_sale
  walk_at "q"
  by_cases hl : xs.length = 6
  · obtain ⟨g, c, r, hh, bb, p, rfl⟩ := len6 hl
    have hp := hs.inT p (by simp)
    have e0 : isSl (.tuple [g, c, r, hh, bb, p]) = (isPart p && (isIn g 0 1000000000000 && (isIn c 0 1000000000000 && (isIn r 0 10000 && (isIn hh 0 1000 && isIn bb 0 1000000000))))) := rfl
    rw [e0] at h
    walk_at "q"
    rw [decide_eq_true (show (((0 + 1 + 1 + 1 + 1 + 1 + 1 : Nat) : Int) = 6) from rfl)]
    walk_at "q"
    refine law_is_part_w p hp hb _ ?_
    cases ep : isPart p with
    | false =>
      rw [ep] at h
      walk_at "q"
      exact h
    | true =>
      rw [ep, Bool.true_and] at h
      walk_at "q"
      rw [p12, p4, p9]
      refine ⟨⟨z10, by decide, by decide⟩, ⟨z10, by decide, by decide⟩, ⟨z10, by decide, by decide⟩, ⟨z10, by decide, by decide⟩, ?_⟩
      refine qLc_map wiD (by simp [zipD]) (fun d hd sk yd hy => ?_) ?_
      · simp only [zipD, List.mem_cons, List.not_mem_nil, or_false] at hd
        unfold qb_law_is_sale_1
        rcases hd with rfl | rfl | rfl | rfl | rfl <;> (walk_at "q"; rw [law_within_q]; exact hy)
      · have em : (zipD [g, c, r, hh, bb, p] [.int 1000000000000, .int 1000000000000, .int 10000, .int 1000, .int 1000000000]).map wiD = [isIn g 0 1000000000000, isIn c 0 1000000000000, isIn r 0 10000, isIn hh 0 1000, isIn bb 0 1000000000].map fun t => PyData.bool t := rfl
        have eb2 : ([isIn g 0 1000000000000, isIn c 0 1000000000000, isIn r 0 10000, isIn hh 0 1000, isIn bb 0 1000000000].map fun t => PyData.bool t) = ([isIn g 0 1000000000000, isIn c 0 1000000000000, isIn r 0 10000, isIn hh 0 1000, isIn bb 0 1000000000].map fun t => PyData.bool t).map fun d => .bool (match d with | .bool t => t | _ => false) := by rw [List.map_map]; rfl
        rw [em, eb2, q_allB]
        simpa only [List.map_cons, List.map_nil, List.all_cons, List.all_nil, Bool.and_true] using h
  · rw [decide_eq_false (show ¬ ((xs.length : Int) = 6) by omega)]
    rw [isSl_len hl] at h
    walk_at "q"
    exact h
def rkFrom (n : Nat) : Str → List PyData → Bool
  | _, [] => true
  | a, d :: r => isPr n d && (strLt a (nmD d) && rkFrom n (nmD d) r)
theorem rk_from (n : Nat) : ∀ (rs : List PyData) (a : Str), rkFrom n a rs = (rs.all (isPr n) && rise (a :: rs.map nmD))
  | [], a => rfl
  | d :: r, a => by
    rw [rkFrom, rk_from n r (nmD d), List.all_cons, List.map_cons, rise]
    cases isPr n d <;> cases strLt a (nmD d) <;> cases r.all (isPr n) <;> rfl
theorem empty_lt {x : Str} (h : goodN x = true) : strLt (Str.ofString "") x = true := by
  rw [strLt_eq, decide_eq_true_eq]
  have e : (Str.ofString "").cps.toList = [] := rfl
  rw [e]
  unfold goodN at h
  simp only [Bool.and_eq_true, decide_eq_true_eq] at h
  have h1 : 1 ≤ x.cps.size := h.1.1
  cases q : x.cps.toList with
  | nil =>
    have : x.cps.size = 0 := by rw [← Array.length_toList, q]; rfl
    omega
  | cons a l => exact List.nil_lt_cons a l
theorem rk_empty {n : Nat} {rs : List PyData} : rkFrom n (Str.ofString "") rs = (rs.all (isPr n) && rise (rs.map nmD)) := by
  rw [rk_from]
  cases rs with
  | nil => rfl
  | cons d r =>
    cases e : isPr n d with
    | false => rw [List.all_cons, e]; rfl
    | true =>
      obtain ⟨x, i, rfl, hx, _⟩ := isPr_inv e
      rw [List.map_cons, rise]
      have : nmD (.tuple [.str x, .int i]) = x := rfl
      rw [this, empty_lt hx, Bool.true_and]
theorem not_rk {n : Nat} {a : Str} {d : PyData} {r : List PyData} (h : isPr n d = false) : rkFrom n a (d :: r) = false := by rw [rkFrom, h, Bool.false_and]
theorem nt8 {es : List PyData} : (es.all (fun d => isIn d 0 8) && decide ((es.map toI).sum = 8)) = (es.all isNt && decide ((es.map toI).sum = 8)) := by
  cases e : es.all isNt with
  | false =>
    have : es.all (fun d => isIn d 0 8) = false := by
      cases q : es.all (fun d => isIn d 0 8) with
      | false => rfl
      | true =>
        exfalso
        have : es.all isNt = true := List.all_eq_true.mpr fun d hd => by
          have := List.all_eq_true.mp q d hd
          cases d with
          | int i =>
            have : (decide (0 ≤ i) && decide (i ≤ 8)) = true := this
            rw [Bool.and_eq_true] at this
            exact this.1
          | _ => cases this
        rw [this] at e
        cases e
    rw [this]
  | true =>
    by_cases h8 : (es.map toI).sum = 8
    · rw [decide_eq_true h8, Bool.and_true, Bool.and_true]
      refine List.all_eq_true.mpr fun d hd => ?_
      obtain ⟨i, rfl, i0⟩ := isNt_inv (List.all_eq_true.mp e d hd)
      have hn : ∀ x ∈ es.map toI, 0 ≤ x := fun x hx => by
        obtain ⟨y, hy, rfl⟩ := List.mem_map.mp hx
        obtain ⟨j, rfl, j0⟩ := isNt_inv (List.all_eq_true.mp e y hy)
        exact j0
      have := (le_ssum hn).2 i (List.mem_map.mpr ⟨_, hd, rfl⟩)
      show (decide (0 ≤ i) && decide (i ≤ 8)) = true
      rw [decide_eq_true i0, decide_eq_true (by omega)]
      rfl
    · rw [decide_eq_false h8, Bool.and_false, Bool.and_false]
theorem law_is_scheme_w {b k : Nat} (d : PyData) (hs : Sn b k d) (hb : b ≤ 100000) (K : PyData → Prop) (h : K (.bool (isSc d))) : q_law_is_scheme d K := by
  unfold q_law_is_scheme
  cases e : isiB d "tuple" with
  | false =>
    rw [isSc_no e] at h
    walk_at "q"
    exact h
  | true =>
    obtain ⟨xs, rfl⟩ := isi_tp e
    walk_at "q"
    by_cases hl : xs.length = 2
    · obtain ⟨u, v, rfl⟩ := len2 hl
      have hv := hs.inT v (by simp)
      have hu := hs.inT u (by simp)
      walk_at "q"
      rw [decide_eq_true (show (((0 + 1 + 1 : Nat) : Int) = 2) from rfl)]
      walk_at "q"
      unfold isSc at h
      dsimp only at h
      cases eu : isiB u "tuple" with
      | false =>
        rw [isEi_no eu] at h
        walk_at "q"
        exact h
      | true =>
        obtain ⟨es, rfl⟩ := isi_tp eu
        walk_at "q"
        simp only [q_leAI]
        walk_at "q"
        unfold isEi at h
        dsimp only at h
        cases el : (decide (1 ≤ (es.length : Int)) && decide ((es.length : Int) ≤ 6)) with
        | false =>
          have e : (decide (1 ≤ es.length) && decide (es.length ≤ 6)) = false := by
            simp only [Bool.and_eq_false_iff, decide_eq_false_iff_not] at el ⊢
            omega
          rw [e] at h
          walk_at "q"
          exact h
        | true =>
          have e : (decide (1 ≤ es.length) && decide (es.length ≤ 6)) = true := by
            simp only [Bool.and_eq_true, decide_eq_true_eq] at el ⊢
            omega
          rw [e, Bool.true_and, ← nt8] at h
          simp only [Bool.and_eq_true, decide_eq_true_eq] at e
          walk_at "q"
          refine qLc_map (fun d => .bool (isIn d 0 8)) (by omega) (fun d hd sk yd hy => ?_) ?_
          · unfold qb_law_is_scheme_1
            rw [law_within_q]
            exact hy
          · walk_at "q"
            cases a : es.all (fun d => isIn d 0 8) with
            | false => rw [a] at h; walk_at "q"; exact h
            | true =>
              have a2 : es.all isNt = true := List.all_eq_true.mpr fun d hd => by
                have := List.all_eq_true.mp a d hd
                cases d with
                | int i =>
                  have : (decide (0 ≤ i) && decide (i ≤ 8)) = true := this
                  rw [Bool.and_eq_true] at this
                  exact this.1
                | _ => cases this
              rw [a, Bool.true_and] at h
              walk_at "q"
              rw [sum_nt a2]
              walk_at "q"
              cases s8 : decide ((es.map toI).sum = 8) with
              | false => rw [s8] at h; walk_at "q"; exact h
              | true =>
                rw [s8, Bool.true_and] at h
                walk_at "q"
                have h : K (.bool (isRk es.length v)) := h
                cases ev : isiB v "tuple" with
                | false =>
                  rw [isRk_no ev] at h
                  walk_at "q"
                  exact h
                | true =>
                  obtain ⟨rs, rfl⟩ := isi_tp ev
                  walk_at "q"
                  unfold isRk at h
                  dsimp only at h
                  refine bIf_d (fun h0 => ?_) fun h0 => ?_
                  · rw [decide_eq_false (show ¬ rs.length ≤ 20 by omega)] at h
                    exact h
                  · rw [decide_eq_true (show rs.length ≤ 20 by omega), Bool.true_and, ← rk_empty] at h
                    refine qFor_ind (fun j s => ∃ a : Str, s = .str a ∧ rkFrom es.length (Str.ofString "") rs = rkFrom es.length a (rs.drop j)) ⟨_, rfl, rfl⟩ (fun j d s nx hd hi hn => ?_) fun s hi => ?_
                    · obtain ⟨ah, rfl, hah⟩ := hi
                      have hdm := List.mem_of_getElem? hd
                      have hj := (List.getElem?_eq_some_iff.mp hd).1
                      have hdr : rs.drop j = d :: rs.drop (j + 1) := by
                        rw [List.drop_eq_getElem_cons hj]
                        congr 1
                        exact (List.getElem?_eq_some_iff.mp hd).2
                      rw [hdr] at hah
                      have out : rkFrom es.length ah (d :: rs.drop (j + 1)) = false → K (.bool false) := fun z => by
                        rw [hah, z] at h
                        exact h
                      unfold qb_law_is_scheme_2
                      cases ed : isiB d "tuple" with
                      | false =>
                        walk_at "q"
                        exact out (not_rk (isPr_no ed))
                      | true =>
                        obtain ⟨ys, rfl⟩ := isi_tp ed
                        walk_at "q"
                        by_cases yl : ys.length = 2
                        · obtain ⟨p, q, rfl⟩ := len2 yl
                          have hp : shS p := shS_of ((hv.inT _ hdm).inT p (by simp)).sm
                          walk_at "q"
                          rw [decide_eq_true (show (((0 + 1 + 1 : Nat) : Int) = 2) from rfl)]
                          walk_at "q"
                          have pe : isPr es.length (.tuple [p, q]) = (isNm p && (isNt q && ltN q es.length)) := rfl
                          refine law_is_name_q p hp _ ?_
                          cases ep : isNm p with
                          | false =>
                            walk_at "q"
                            exact out (not_rk (by rw [pe, ep, Bool.false_and]))
                          | true =>
                            obtain ⟨x, rfl, hx⟩ := isNm_inv ep
                            rw [ep, Bool.true_and] at pe
                            walk_at "q"
                            simp only [q_leAS]
                            walk_at "q"
                            cases lt : strLt ah x with
                            | false =>
                              walk_at "q"
                              refine out ?_
                              rw [rkFrom]
                              have : nmD (.tuple [.str x, q]) = x := rfl
                              rw [this, lt, Bool.false_and, Bool.and_false]
                            | true =>
                              walk_at "q"
                              rw [law_within_q]
                              have eq : isIn q 0 ((es.length : Int) - 1) = (isNt q && ltN q es.length) := by
                                cases q with
                                | int i =>
                                  show (decide (0 ≤ i) && decide (i ≤ (es.length : Int) - 1)) = (decide (0 ≤ i) && decide (i < (es.length : Int)))
                                  congr 1
                                  exact decide_eq_decide.mpr (by omega)
                                | _ => rfl
                              rw [eq, ← pe]
                              cases ef : isPr es.length (.tuple [.str x, q]) with
                              | false =>
                                walk_at "q"
                                exact out (not_rk ef)
                              | true =>
                                walk_at "q"
                                refine hn _ ⟨x, rfl, ?_⟩
                                rw [hah, rkFrom, ef]
                                have : nmD (.tuple [.str x, q]) = x := rfl
                                rw [this, lt]
                                rfl
                        · rw [decide_eq_false (show ¬ ((ys.length : Int) = 2) by omega)]
                          walk_at "q"
                          exact out (not_rk (isPr_len yl))
                    · obtain ⟨ah, rfl, hah⟩ := hi
                      rw [List.drop_length, rkFrom] at hah
                      rw [hah] at h
                      exact h
    · rw [decide_eq_false (show ¬ ((xs.length : Int) = 2) by omega)]
      rw [isSc_len hl] at h
      walk_at "q"
      exact h
def leI : PyData → PyData → Bool
  | .int i, .int j => decide (i ≤ j)
  | _, _ => false
def isNo (d : PyData) : Bool := match d with
  | .str x => decide (x = Str.ofString "")
  | _ => false
def bLog : List PyData → Bool
  | [a, b] => isNm a && isLog b
  | _ => false
def bMus : List PyData → Bool
  | [a, b, c, d] => isNm a && (isIn b 0 100000 && ((isNo c || isNm c) && isNm d))
  | _ => false
def bSch : List PyData → Bool
  | [a, b] => isIn a 0 100000 && isSc b
  | _ => false
def bTak : List PyData → Bool
  | [a, b, c, d, e] => isNm a && (isNm b && (isIn c 0 100000 && (isIn d 0 100000 && (leI c d && isIn e 0 100000))))
  | _ => false
def bSal : List PyData → Bool
  | a :: r => isNm a && isSl (.tuple r)
  | _ => false
def bFin : List PyData → Bool
  | [a, b] => isNm a && isIn b 0 1000000
  | _ => false
def bStr (n : Int) : List PyData → Bool
  | [a] => isIn a 0 (n - 1)
  | _ => false
def bHad : List PyData → Bool
  | [a, b, c] => isNm a && (isNm b && isIn c 1 1000000000000)
  | _ => false
def isBd (n : Int) (k : Str) (r : List PyData) : Bool :=
  if k = Str.ofString "log" then bLog r else if k = Str.ofString "muster" then bMus r else if k = Str.ofString "scheme" then bSch r else if k = Str.ofString "taking" then bTak r
  else if k = Str.ofString "sale" then bSal r else if k = Str.ofString "finding" then bFin r else if k = Str.ofString "strike" then bStr n r else if k = Str.ofString "had" then bHad r else false
theorem bLog_no {r : List PyData} (h : r.length ≠ 2) : bLog r = false := by
  unfold bLog; split
  · exact absurd rfl h
  · rfl
theorem bMus_no {r : List PyData} (h : r.length ≠ 4) : bMus r = false := by
  unfold bMus; split
  · exact absurd rfl h
  · rfl
theorem bSch_no {r : List PyData} (h : r.length ≠ 2) : bSch r = false := by
  unfold bSch; split
  · exact absurd rfl h
  · rfl
theorem bTak_no {r : List PyData} (h : r.length ≠ 5) : bTak r = false := by
  unfold bTak; split
  · exact absurd rfl h
  · rfl
theorem bSal_no {r : List PyData} (h : r.length ≠ 7) : bSal r = false := by
  unfold bSal; split
  · rename_i a r2
    rw [isSl_len (by simp at h; omega), Bool.and_false]
  · rfl
theorem bFin_no {r : List PyData} (h : r.length ≠ 2) : bFin r = false := by
  unfold bFin; split
  · exact absurd rfl h
  · rfl
theorem bStr_no {n : Int} {r : List PyData} (h : r.length ≠ 1) : bStr n r = false := by
  unfold bStr; split
  · exact absurd rfl h
  · rfl
theorem bHad_no {r : List PyData} (h : r.length ≠ 3) : bHad r = false := by
  unfold bHad; split
  · exact absurd rfl h
  · rfl
theorem l1 {xs : List PyData} (h : xs.length = 1) : ∃ a, xs = [a] := by
  match xs, h with
  | [a], _ => exact ⟨_, rfl⟩
theorem l3 {xs : List PyData} (h : xs.length = 3) : ∃ a b c, xs = [a, b, c] := by
  match xs, h with
  | [a, b, c], _ => exact ⟨_, _, _, rfl⟩
theorem l4 {xs : List PyData} (h : xs.length = 4) : ∃ a b c d, xs = [a, b, c, d] := by
  match xs, h with
  | [a, b, c, d], _ => exact ⟨_, _, _, _, rfl⟩
theorem l5 {xs : List PyData} (h : xs.length = 5) : ∃ a b c d e, xs = [a, b, c, d, e] := by
  match xs, h with
  | [a, b, c, d, e], _ => exact ⟨_, _, _, _, _, rfl⟩
theorem l7 {xs : List PyData} (h : xs.length = 7) : ∃ a b c d e f g, xs = [a, b, c, d, e, f, g] := by
  match xs, h with
  | [a, b, c, d, e, f, g], _ => exact ⟨_, _, _, _, _, _, _, rfl⟩
theorem cut2 {a b : PyData} {l : List PyData} : DL.cutD (a :: b :: l) (some 2) none = l := by
  unfold DL.cutD
  rw [HT.sIx_none]
  simp [HT.sIx]
/-- x == "" -/
theorem no_q {b k : Nat} {d : PyData} (h : Sn b k d) (P : PyData → Prop) : oEqS d (.str "") P = P (.bool (isNo d)) := by
  cases d with
  | dict kv =>
    have h1 : kv.isEmpty = true := h.nb
    cases kv with
    | nil => exact propext ⟨fun z => z.2, fun z => ⟨rfl, z⟩⟩
    | cons _ _ => cases h1
  | _ => rfl
theorem day_g (d : PyData) (K : PyData → Prop) : q_is_day d K = K (.bool (isIn d 0 1000000)) := by
  unfold q_is_day
  rw [is_within_q]
theorem hour_g (d : PyData) (K : PyData → Prop) : q_is_hour_pages d K = K (.bool (isIn d 0 100000)) := by
  unfold q_is_hour_pages
  rw [is_within_q]
theorem is_body_g {b m : Nat} {n : Int} {k : Str} {r : List PyData} (hs : Sn b m (.tuple (.str k :: r))) (hb : b ≤ 100000) (K : PyData → Prop) (h : K (.bool (isBd n k r))) : q_is_body (.int n) (.tuple (.str k :: r)) K := by
  have hr : ∀ x ∈ r, Sn b m x := fun x hx => hs.inT x (by simp [hx])
  have nm : ∀ x ∈ r, ∀ P : PyData → Prop, P (.bool (isNm x)) → q_is_name x P := fun x hx P hP => is_name_q x (shS_of (hr x hx).sm) P hP
  have ln : ∀ j : Nat, decide (((r.length + 1 : Nat) : Int) = (j : Int)) = decide (r.length + 1 = j) := fun j => decide_eq_decide.mpr (by omega)
  unfold q_is_body
  unfold isBd at h
  walk_at "q"
  by_cases k1 : k = Str.ofString "log"
  · rw [if_pos k1] at h
    rw [decide_eq_true k1]
    walk_at "q"
    by_cases hl : r.length = 2
    · obtain ⟨x, y, rfl⟩ := len2 hl
      have e : bLog [x, y] = (isNm x && isLog y) := rfl
      rw [e] at h
      rw [decide_eq_true (by omega)]
      walk_at "q"
      refine nm x (by simp) _ ?_
      cases e1 : isNm x with
      | false => rw [e1] at h; walk_at "q"; exact h
      | true =>
        rw [e1, Bool.true_and] at h
        walk_at "q"
        exact is_log_q y _ h
    · rw [bLog_no hl] at h
      rw [decide_eq_false (by omega)]
      walk_at "q"
      exact h
  rw [if_neg k1] at h
  rw [decide_eq_false k1]
  walk_at "q"
  by_cases k2 : k = Str.ofString "muster"
  · rw [if_pos k2] at h
    rw [decide_eq_true k2]
    walk_at "q"
    by_cases hl : r.length = 4
    · obtain ⟨x, y, z, w, rfl⟩ := l4 hl
      have e : bMus [x, y, z, w] = (isNm x && (isIn y 0 100000 && ((isNo z || isNm z) && isNm w))) := rfl
      rw [e] at h
      rw [decide_eq_true (by omega)]
      walk_at "q"
      unfold q_is_muster
      walk_at "q"
      refine nm x (by simp) _ ?_
      cases e1 : isNm x with
      | false => rw [e1] at h; walk_at "q"; exact h
      | true =>
        rw [e1, Bool.true_and] at h
        walk_at "q"
        rw [hour_g]
        cases e2 : isIn y 0 100000 with
        | false => rw [e2] at h; walk_at "q"; exact h
        | true =>
          rw [e2, Bool.true_and] at h
          walk_at "q"
          rw [no_q (hr z (by simp))]
          cases e3 : isNo z with
          | true =>
            rw [e3, Bool.true_or, Bool.true_and] at h
            walk_at "q"
            exact nm w (by simp) _ h
          | false =>
            rw [e3, Bool.false_or] at h
            walk_at "q"
            refine nm z (by simp) _ ?_
            cases e4 : isNm z with
            | false => rw [e4] at h; walk_at "q"; exact h
            | true =>
              rw [e4, Bool.true_and] at h
              walk_at "q"
              exact nm w (by simp) _ h
    · rw [bMus_no hl] at h
      rw [decide_eq_false (by omega)]
      walk_at "q"
      exact h
  rw [if_neg k2] at h
  rw [decide_eq_false k2]
  walk_at "q"
  by_cases k3 : k = Str.ofString "scheme"
  · rw [if_pos k3] at h
    rw [decide_eq_true k3]
    walk_at "q"
    by_cases hl : r.length = 2
    · obtain ⟨x, y, rfl⟩ := len2 hl
      have e : bSch [x, y] = (isIn x 0 100000 && isSc y) := rfl
      rw [e] at h
      rw [decide_eq_true (by omega)]
      walk_at "q"
      rw [hour_g]
      cases e1 : isIn x 0 100000 with
      | false => rw [e1] at h; walk_at "q"; exact h
      | true =>
        rw [e1, Bool.true_and] at h
        walk_at "q"
        exact is_scheme_q y (hr y (by simp)).sm hb _ h
    · rw [bSch_no hl] at h
      rw [decide_eq_false (by omega)]
      walk_at "q"
      exact h
  rw [if_neg k3] at h
  rw [decide_eq_false k3]
  walk_at "q"
  by_cases k4 : k = Str.ofString "taking"
  · rw [if_pos k4] at h
    rw [decide_eq_true k4]
    walk_at "q"
    by_cases hl : r.length = 5
    · obtain ⟨x, y, z, w, v, rfl⟩ := l5 hl
      have e : bTak [x, y, z, w, v] = (isNm x && (isNm y && (isIn z 0 100000 && (isIn w 0 100000 && (leI z w && isIn v 0 100000))))) := rfl
      rw [e] at h
      rw [decide_eq_true (by omega)]
      walk_at "q"
      unfold q_is_taking
      walk_at "q"
      refine nm x (by simp) _ ?_
      cases e1 : isNm x with
      | false => rw [e1] at h; walk_at "q"; exact h
      | true =>
        rw [e1, Bool.true_and] at h
        walk_at "q"
        refine nm y (by simp) _ ?_
        cases e2 : isNm y with
        | false => rw [e2] at h; walk_at "q"; exact h
        | true =>
          rw [e2, Bool.true_and] at h
          walk_at "q"
          rw [hour_g]
          cases e3 : isIn z 0 100000 with
          | false => rw [e3] at h; walk_at "q"; exact h
          | true =>
            rw [e3, Bool.true_and] at h
            walk_at "q"
            rw [hour_g]
            cases e4 : isIn w 0 100000 with
            | false => rw [e4] at h; walk_at "q"; exact h
            | true =>
              rw [e4, Bool.true_and] at h
              cases z with
              | int i =>
                cases w with
                | int j =>
                  have h : K (.bool (decide (i ≤ j) && isIn v 0 100000)) := h
                  walk_at "q"
                  cases e5 : decide (i ≤ j) with
                  | false => rw [e5] at h; walk_at "q"; exact h
                  | true =>
                    rw [e5, Bool.true_and] at h
                    walk_at "q"
                    rw [is_within_q]
                    exact h
                | _ => cases e4
              | _ => cases e3
    · rw [bTak_no hl] at h
      rw [decide_eq_false (by omega)]
      walk_at "q"
      exact h
  rw [if_neg k4] at h
  rw [decide_eq_false k4]
  walk_at "q"
  by_cases k5 : k = Str.ofString "sale"
  · rw [if_pos k5] at h
    rw [decide_eq_true k5]
    walk_at "q"
    by_cases hl : r.length = 7
    · obtain ⟨x, a1, a2, a3, a4, a5, a6, rfl⟩ := l7 hl
      have e : bSal [x, a1, a2, a3, a4, a5, a6] = (isNm x && isSl (.tuple [a1, a2, a3, a4, a5, a6])) := rfl
      rw [e] at h
      rw [decide_eq_true (by omega)]
      walk_at "q"
      refine nm x (by simp) _ ?_
      cases e1 : isNm x with
      | false => rw [e1] at h; walk_at "q"; exact h
      | true =>
        rw [e1, Bool.true_and] at h
        walk_at "q"
        rw [cut2]
        refine is_sale_g _ (?_ : Sn b m (.tuple [a1, a2, a3, a4, a5, a6])) hb _ h
        have hn := hs.nb
        have hbk := hs.bulk
        have hd := hs.depth
        refine ⟨?_, ?_, ?_⟩
        · rw [_root_.K62.nb] at hn ⊢
          exact nbs_all fun y hy => nbs_mem hn y (List.mem_cons_of_mem _ (List.mem_cons_of_mem _ hy))
        · rw [PyData.bulk] at hbk ⊢
          simp only [PyData.bulkAll] at hbk ⊢
          omega
        · rw [PyData.depth] at hd ⊢
          simp only [PyData.depthAll] at hd ⊢
          omega
    · rw [bSal_no hl] at h
      rw [decide_eq_false (by omega)]
      walk_at "q"
      exact h
  rw [if_neg k5] at h
  rw [decide_eq_false k5]
  walk_at "q"
  by_cases k6 : k = Str.ofString "finding"
  · rw [if_pos k6] at h
    rw [decide_eq_true k6]
    walk_at "q"
    by_cases hl : r.length = 2
    · obtain ⟨x, y, rfl⟩ := len2 hl
      have e : bFin [x, y] = (isNm x && isIn y 0 1000000) := rfl
      rw [e] at h
      rw [decide_eq_true (by omega)]
      walk_at "q"
      refine nm x (by simp) _ ?_
      cases e1 : isNm x with
      | false => rw [e1] at h; walk_at "q"; exact h
      | true =>
        rw [e1, Bool.true_and] at h
        walk_at "q"
        rw [day_g]
        exact h
    · rw [bFin_no hl] at h
      rw [decide_eq_false (by omega)]
      walk_at "q"
      exact h
  rw [if_neg k6] at h
  rw [decide_eq_false k6]
  walk_at "q"
  by_cases k7 : k = Str.ofString "strike"
  · rw [if_pos k7] at h
    rw [decide_eq_true k7]
    walk_at "q"
    by_cases hl : r.length = 1
    · obtain ⟨x, rfl⟩ := l1 hl
      have e : bStr n [x] = isIn x 0 (n - 1) := rfl
      rw [e] at h
      rw [decide_eq_true (by omega)]
      walk_at "q"
      rw [is_within_q]
      exact h
    · rw [bStr_no hl] at h
      rw [decide_eq_false (by omega)]
      walk_at "q"
      exact h
  rw [if_neg k7] at h
  rw [decide_eq_false k7]
  walk_at "q"
  by_cases k8 : k = Str.ofString "had"
  · rw [if_pos k8] at h
    rw [decide_eq_true k8]
    walk_at "q"
    by_cases hl : r.length = 3
    · obtain ⟨x, y, z, rfl⟩ := l3 hl
      have e : bHad [x, y, z] = (isNm x && (isNm y && isIn z 1 1000000000000)) := rfl
      rw [e] at h
      rw [decide_eq_true (by omega)]
      walk_at "q"
      refine nm x (by simp) _ ?_
      cases e1 : isNm x with
      | false => rw [e1] at h; walk_at "q"; exact h
      | true =>
        rw [e1, Bool.true_and] at h
        walk_at "q"
        refine nm y (by simp) _ ?_
        cases e2 : isNm y with
        | false => rw [e2] at h; walk_at "q"; exact h
        | true =>
          rw [e2, Bool.true_and] at h
          walk_at "q"
          rw [is_within_q]
          exact h
    · rw [bHad_no hl] at h
      rw [decide_eq_false (by omega)]
      walk_at "q"
      exact h
  rw [if_neg k8] at h
  rw [decide_eq_false k8]
  walk_at "q"
  exact h
def spD (e : Str × PyData) : PyData × PyData := (.str e.1, e.2)
theorem mg_str : ∀ (q a : List (Str × PyData)), ((a ++ q).map (·.1)).Nodup → mergeM (a.map spD) (q.map fun e => (Sum.inr e.1, e.2)) = (a ++ q).map spD
  | [], a, _ => by rw [List.append_nil]; rfl
  | e :: q, a, nd => by
    show mergeM (putM (a.map spD) (Sum.inr e.1) e.2) _ = _
    have e1 : putM (a.map spD) (Sum.inr e.1) e.2 = (a ++ [e]).map spD := by
      unfold putM
      rw [if_neg]
      · rw [List.map_append]
        rfl
      · rw [List.any_eq_true]
        rintro ⟨x, hx, hk⟩
        obtain ⟨y, hy, rfl⟩ := List.mem_map.mp hx
        have hk : isKy (.str y.1) (Sum.inr e.1) = true := hk
        rw [isKy_str, decide_eq_true_eq] at hk
        rw [List.map_append, List.nodup_append] at nd
        exact nd.2.2 _ (List.mem_map.mpr ⟨y, hy, rfl⟩) _ (List.mem_map.mpr ⟨e, List.mem_cons_self, rfl⟩) hk
    rw [e1, mg_str q (a ++ [e]) (by rw [List.append_assoc]; exact nd), List.append_assoc]
    rfl
theorem sp_map : ∀ q : List (Str × PyData), isMap (q.map spD) = true
  | [] => rfl
  | _ :: _ => rfl
theorem sp_keys (q : List (Str × PyData)) : keysM (q.map spD) = q.map fun e => (Sum.inr e.1, e.2) := by
  unfold keysM
  rw [List.filterMap_map]
  have : ((fun p : PyData × PyData => Option.map (fun k => (k, p.2)) (kyOf p.1)) ∘ spD) = fun e : Str × PyData => some ((Sum.inr e.1 : Key), e.2) := rfl
  rw [this, List.filterMap_eq_map']
theorem sp_at (q : List (Str × PyData)) (k : Str) : atM (q.map spD) (Sum.inr k) = (q.find? fun e => decide (e.1 = k)).map (·.2) := by
  unfold atM
  rw [List.find?_map, Option.map_map]
  rfl
def nmsD : List (Str × PyData) := [("log", .tuple [.int 1]), ("muster", .tuple [.int 1, .int 4]), ("scheme", .tuple []), ("taking", .tuple [.int 1, .int 2]), ("sale", .tuple [.int 1]), ("finding", .tuple [.int 1])]
def nm2D : List (Str × PyData) := [("strike", .tuple []), ("had", .tuple [.int 1, .int 2])]
def mnyD : List (Str × PyData) := [("log", .int 3), ("muster", .int 5), ("scheme", .int 3), ("taking", .int 6), ("sale", .int 8), ("finding", .int 3), ("strike", .int 2), ("had", .int 4)]
theorem q_disp {q : List (Str × PyData)} {l : List (Key × PyData)} (hl : l = q.map fun e => (Sum.inr e.1, e.2)) (nd : (q.map (·.1)).Nodup) {K : KVM → Prop} (h : K (q.map spD)) : dispQ l K := by
  subst hl
  unfold dispQ
  have := mg_str q [] nd
  rw [List.nil_append] at this
  rw [show ([] : KVM) = ([] : List (Str × PyData)).map spD from rfl, this]
  exact h
theorem q_upd {a q : List (Str × PyData)} (nd : ((a ++ q).map (·.1)).Nodup) (hl : a.length + q.length ≤ 1000) {K : KVM → Prop} (h : K ((a ++ q).map spD)) : updMQ (a.map spD) (q.map spD) K := by
  unfold updMQ
  rw [sp_keys, mg_str q a nd, List.length_map, List.length_map]
  exact ⟨by omega, h⟩
theorem q_keyS6 {x : Str} {K : Key → Prop} : keyQ (.str x) K = K (Sum.inr x) := rfl
def fnD (q : List (Str × PyData)) (k : Str) : Option PyData := (q.find? fun e => decide (e.1 = k)).map (·.2)
theorem in_many {q : List (Str × PyData)} {k : Str} {n : Bool} {P : PyData → Prop} (h : P (.bool ((fnD q k).isSome != n))) : oInM n (.str k) (.dict (q.map spD)) P := by
  refine ⟨sp_map _, ?_⟩
  show P (.bool ((atM (q.map spD) (Sum.inr k)).isSome != n))
  rw [sp_at]
  exact h
theorem ix_sp {q : List (Str × PyData)} {k : Str} {v : PyData} {P : PyData → Prop} (hf : fnD q k = some v) (h : P v) : oIxM (.dict (q.map spD)) (.str k) P := by
  refine ⟨sp_map _, ?_⟩
  show pickM (q.map spD) (Sum.inr k) P
  unfold pickM
  have : atM (q.map spD) (Sum.inr k) = some v := by rw [sp_at]; exact hf
  rw [this]
  exact h
theorem all0 {P : PyData → Prop} (h : P (.bool true)) : nAll [.list []] P := h
theorem all1 {a : Bool} {P : PyData → Prop} (h : P (.bool a)) : nAll [.list [.bool a]] P := by cases a <;> exact h
theorem all2 {a c : Bool} {P : PyData → Prop} (h : P (.bool (a && c))) : nAll [.list [.bool a, .bool c]] P := by cases a <;> cases c <;> exact h
theorem m_log : fnD mnyD (Str.ofString "log") = some (PyData.int 3) := by kernel_rfl
theorem n_log : fnD (nmsD ++ nm2D) (Str.ofString "log") = some (PyData.tuple [PyData.int 1]) := by kernel_rfl
theorem m_muster : fnD mnyD (Str.ofString "muster") = some (PyData.int 5) := by kernel_rfl
theorem n_muster : fnD (nmsD ++ nm2D) (Str.ofString "muster") = some (PyData.tuple [PyData.int 1, PyData.int 4]) := by kernel_rfl
theorem m_scheme : fnD mnyD (Str.ofString "scheme") = some (PyData.int 3) := by kernel_rfl
theorem n_scheme : fnD (nmsD ++ nm2D) (Str.ofString "scheme") = some (PyData.tuple []) := by kernel_rfl
theorem m_taking : fnD mnyD (Str.ofString "taking") = some (PyData.int 6) := by kernel_rfl
theorem n_taking : fnD (nmsD ++ nm2D) (Str.ofString "taking") = some (PyData.tuple [PyData.int 1, PyData.int 2]) := by kernel_rfl
theorem m_sale : fnD mnyD (Str.ofString "sale") = some (PyData.int 8) := by kernel_rfl
theorem n_sale : fnD (nmsD ++ nm2D) (Str.ofString "sale") = some (PyData.tuple [PyData.int 1]) := by kernel_rfl
theorem m_finding : fnD mnyD (Str.ofString "finding") = some (PyData.int 3) := by kernel_rfl
theorem n_finding : fnD (nmsD ++ nm2D) (Str.ofString "finding") = some (PyData.tuple [PyData.int 1]) := by kernel_rfl
theorem m_strike : fnD mnyD (Str.ofString "strike") = some (PyData.int 2) := by kernel_rfl
theorem n_strike : fnD (nmsD ++ nm2D) (Str.ofString "strike") = some (PyData.tuple []) := by kernel_rfl
theorem m_had : fnD mnyD (Str.ofString "had") = some (PyData.int 4) := by kernel_rfl
theorem n_had : fnD (nmsD ++ nm2D) (Str.ofString "had") = some (PyData.tuple [PyData.int 1, PyData.int 2]) := by kernel_rfl
theorem m_none {k : Str} (k1 : ¬ k = Str.ofString "log") (k2 : ¬ k = Str.ofString "muster") (k3 : ¬ k = Str.ofString "scheme") (k4 : ¬ k = Str.ofString "taking") (k5 : ¬ k = Str.ofString "sale") (k6 : ¬ k = Str.ofString "finding") (k7 : ¬ k = Str.ofString "strike") (k8 : ¬ k = Str.ofString "had") : fnD mnyD k = none := by
  unfold fnD
  rw [Option.map_eq_none_iff, List.find?_eq_none]
  intro e he
  rw [decide_eq_true_eq]
  unfold mnyD at he
  simp only [List.mem_cons, List.not_mem_nil, or_false] at he
  rcases he with rfl | rfl | rfl | rfl | rfl | rfl | rfl | rfl
  · exact fun z => k1 z.symm
  · exact fun z => k2 z.symm
  · exact fun z => k3 z.symm
  · exact fun z => k4 z.symm
  · exact fun z => k5 z.symm
  · exact fun z => k6 z.symm
  · exact fun z => k7 z.symm
  · exact fun z => k8 z.symm
theorem law_is_body_w {b m : Nat} {n : Int} {k : Str} {r : List PyData} (hs : Sn b m (.tuple (.str k :: r))) (hb : b ≤ 100000) (K : PyData → Prop) (h : K (.bool (isBd n k r))) : q_law_is_body (.int n) (.tuple (.str k :: r)) K := by
  have hr : ∀ x ∈ r, Sn b m x := fun x hx => hs.inT x (by simp [hx])
  have nm : ∀ x ∈ r, ∀ P : PyData → Prop, P (.bool (isNm x)) → q_law_is_name x P := fun x hx P hP => law_is_name_q x (shS_of (hr x hx).sm) P hP
  unfold q_law_is_body
  walk_at "q"
  simp only [q_keyS6]
  refine q_disp (q := nmsD) rfl (by decide +kernel) ?_
  refine q_disp (q := nm2D) rfl (by decide +kernel) ?_
  refine q_upd (by decide +kernel) (by decide) ?_
  refine q_disp (q := mnyD) rfl (by decide +kernel) ?_
  unfold isBd at h
  -- the names of a body at one or two places
  have one : ∀ (x : PyData) (r2 : List PyData) (i3 i4 : PyData) (P : PyData → Prop), r = x :: r2 → P (.bool (isNm x)) → qLc qb_law_is_body_1 (.int n, .tuple (.str k :: r), .str k, i3, i4) [.int 1] [] () fun l s => nAll [.list l] P := fun x r2 i3 i4 P e hP => by
    subst e
    refine qLc_map (fun _ => .bool (isNm x)) (by simp) (fun d hd sk yd hy => ?_) (all1 hP)
    rw [List.mem_singleton.mp hd]
    unfold qb_law_is_body_1
    walk_at "q"
    exact nm x (by simp) _ hy
  have two : ∀ (x y : PyData) (r2 : List PyData) (j : Int) (i3 i4 : PyData) (P : PyData → Prop), r = x :: r2 → y ∈ r → (∀ K2 : PyData → Prop, K2 y → oIx (.tuple (.str k :: r)) (.int j) K2) → j ≠ 1 → P (.bool (isNm x && isNm y)) → qLc qb_law_is_body_1 (.int n, .tuple (.str k :: r), .str k, i3, i4) [.int 1, .int j] [] () fun l s => nAll [.list l] P := fun x y r2 j i3 i4 P e hy2 hix hj hP => by
    subst e
    refine qLc_map (fun d => .bool (match d with | .int i => if i = 1 then isNm x else isNm y | _ => false)) (by simp) (fun d hd sk yd hy => ?_) ?_
    · unfold qb_law_is_body_1
      rcases List.mem_cons.mp hd with rfl | hd
      · walk_at "q"
        exact nm x (by simp) _ hy
      · obtain rfl := List.mem_singleton.mp hd
        dsimp only
        refine hix _ ?_
        refine nm y hy2 _ ?_
        have : (if j = 1 then isNm x else isNm y) = isNm y := if_neg hj
        dsimp only at hy
        rw [this] at hy
        exact hy
    · have e2 : (if (1 : Int) = 1 then isNm x else isNm y) = isNm x := if_pos rfl
      have e3 : (if j = 1 then isNm x else isNm y) = isNm y := if_neg hj
      show nAll [.list [.bool (if (1 : Int) = 1 then isNm x else isNm y), .bool (if j = 1 then isNm x else isNm y)]] P
      rw [e2, e3]
      exact all2 hP
  have none : ∀ (i3 i4 : PyData) (P : PyData → Prop), P (.bool true) → qLc qb_law_is_body_1 (.int n, .tuple (.str k :: r), .str k, i3, i4) [] [] () fun l s => nAll [.list l] P := fun i3 i4 P hP => qLc_map (fun _ => .none) (by simp) (fun d hd => by cases hd) (all0 hP)
  by_cases k1 : k = Str.ofString "log"
  · rw [if_pos k1] at h
    refine in_many ?_
    have fm : fnD mnyD k = some (PyData.int 3) := by rw [k1]; exact m_log
    rw [fm]
    walk_at "q"
    refine ix_sp fm ?_
    walk_at "q"
    by_cases hl : r.length = 2
    · obtain ⟨x, y, rfl⟩ := len2 hl
      have e : bLog [x, y] = (isNm x && isLog y) := rfl
      rw [e] at h
      rw [decide_eq_true (by omega)]
      walk_at "q"
      refine ix_sp (v := .tuple [.int 1]) (by rw [k1]; exact n_log) ?_
      walk_at "q"
      refine one x _ _ _ _ rfl ?_
      cases e1 : isNm x with
      | false => rw [e1] at h; walk_at "q"; exact h
      | true =>
        rw [e1, Bool.true_and] at h
        walk_at "q"
        rw [q_eqSS', decide_eq_true k1]
        walk_at "q"
        exact law_is_log_w y _ h
    · rw [bLog_no hl] at h
      rw [decide_eq_false (by omega)]
      walk_at "q"
      exact h
  rw [if_neg k1] at h
  by_cases k2 : k = Str.ofString "muster"
  · rw [if_pos k2] at h
    refine in_many ?_
    have fm : fnD mnyD k = some (PyData.int 5) := by rw [k2]; exact m_muster
    rw [fm]
    walk_at "q"
    refine ix_sp fm ?_
    walk_at "q"
    by_cases hl : r.length = 4
    · obtain ⟨x, y, z, w, rfl⟩ := l4 hl
      have e : bMus [x, y, z, w] = (isNm x && (isIn y 0 100000 && ((isNo z || isNm z) && isNm w))) := rfl
      rw [e] at h
      rw [decide_eq_true (by omega)]
      walk_at "q"
      refine ix_sp (v := .tuple [.int 1, .int 4]) (by rw [k2]; exact n_muster) ?_
      walk_at "q"
      refine two x w _ 4 _ _ _ rfl (by simp) (fun K2 hK2 => by walk_at "q"; exact hK2) (by decide) ?_
      cases e1 : isNm x with
      | false => rw [e1] at h; walk_at "q"; exact h
      | true =>
        rw [e1, Bool.true_and] at h
        cases e2 : isNm w with
        | false =>
          rw [e2, Bool.and_false, Bool.and_false] at h
          walk_at "q"
          exact h
        | true =>
          rw [e2, Bool.and_true] at h
          walk_at "q"
          rw [q_eqSS', decide_eq_false k1]
          walk_at "q"
          rw [q_eqSS', decide_eq_true k2]
          walk_at "q"
          rw [p5, law_within_q]
          refine ⟨⟨z10, by decide, by decide⟩, ?_⟩
          cases e3 : isIn y 0 100000 with
          | false => rw [e3] at h; walk_at "q"; exact h
          | true =>
            rw [e3, Bool.true_and] at h
            walk_at "q"
            refine nm z (by simp) _ ?_
            cases e4 : isNm z with
            | true => rw [e4, Bool.or_true] at h; walk_at "q"; exact h
            | false =>
              rw [e4, Bool.or_false] at h
              walk_at "q"
              rw [no_q (hr z (by simp))]
              exact h
    · rw [bMus_no hl] at h
      rw [decide_eq_false (by omega)]
      walk_at "q"
      exact h
  rw [if_neg k2] at h
  by_cases k3 : k = Str.ofString "scheme"
  · rw [if_pos k3] at h
    refine in_many ?_
    have fm : fnD mnyD k = some (PyData.int 3) := by rw [k3]; exact m_scheme
    rw [fm]
    walk_at "q"
    refine ix_sp fm ?_
    walk_at "q"
    by_cases hl : r.length = 2
    · obtain ⟨x, y, rfl⟩ := len2 hl
      have e : bSch [x, y] = (isIn x 0 100000 && isSc y) := rfl
      rw [e] at h
      rw [decide_eq_true (by omega)]
      walk_at "q"
      refine ix_sp (v := .tuple []) (by rw [k3]; exact n_scheme) ?_
      walk_at "q"
      refine none _ _ _ ?_
      walk_at "q"
      rw [q_eqSS', decide_eq_false k1]
      walk_at "q"
      rw [q_eqSS', decide_eq_false k2]
      walk_at "q"
      rw [q_eqSS', decide_eq_true k3]
      walk_at "q"
      rw [p5, law_within_q]
      refine ⟨⟨z10, by decide, by decide⟩, ?_⟩
      cases e1 : isIn x 0 100000 with
      | false => rw [e1] at h; walk_at "q"; exact h
      | true =>
        rw [e1, Bool.true_and] at h
        walk_at "q"
        exact law_is_scheme_w y (hr y (by simp)) hb _ h
    · rw [bSch_no hl] at h
      rw [decide_eq_false (by omega)]
      walk_at "q"
      exact h
  rw [if_neg k3] at h
  by_cases k4 : k = Str.ofString "taking"
  · rw [if_pos k4] at h
    refine in_many ?_
    have fm : fnD mnyD k = some (PyData.int 6) := by rw [k4]; exact m_taking
    rw [fm]
    walk_at "q"
    refine ix_sp fm ?_
    walk_at "q"
    by_cases hl : r.length = 5
    · obtain ⟨x, y, z, w, v, rfl⟩ := l5 hl
      have e : bTak [x, y, z, w, v] = (isNm x && (isNm y && (isIn z 0 100000 && (isIn w 0 100000 && (leI z w && isIn v 0 100000))))) := rfl
      rw [e] at h
      rw [decide_eq_true (by omega)]
      walk_at "q"
      refine ix_sp (v := .tuple [.int 1, .int 2]) (by rw [k4]; exact n_taking) ?_
      walk_at "q"
      refine two x y _ 2 _ _ _ rfl (by simp) (fun K2 hK2 => by walk_at "q"; exact hK2) (by decide) ?_
      cases e1 : isNm x with
      | false => rw [e1] at h; walk_at "q"; exact h
      | true =>
        rw [e1, Bool.true_and] at h
        cases e2 : isNm y with
        | false => rw [e2] at h; walk_at "q"; exact h
        | true =>
          rw [e2, Bool.true_and] at h
          walk_at "q"
          rw [q_eqSS', decide_eq_false k1]
          walk_at "q"
          rw [q_eqSS', decide_eq_false k2]
          walk_at "q"
          rw [q_eqSS', decide_eq_false k3]
          walk_at "q"
          rw [q_eqSS', decide_eq_true k4]
          walk_at "q"
          rw [p5, law_within_q]
          refine ⟨⟨z10, by decide, by decide⟩, ?_⟩
          cases e3 : isIn z 0 100000 with
          | false => rw [e3] at h; walk_at "q"; exact h
          | true =>
            rw [e3, Bool.true_and] at h
            walk_at "q"
            refine ⟨⟨z10, by decide, by decide⟩, ?_⟩
            rw [law_within_q]
            cases e4 : isIn w 0 100000 with
            | false => rw [e4] at h; walk_at "q"; exact h
            | true =>
              rw [e4, Bool.true_and] at h
              cases z with
              | int i =>
                cases w with
                | int j =>
                  have h : K (.bool (decide (i ≤ j) && isIn v 0 100000)) := h
                  walk_at "q"
                  cases e5 : decide (i ≤ j) with
                  | false => rw [e5] at h; walk_at "q"; exact h
                  | true =>
                    rw [e5, Bool.true_and] at h
                    walk_at "q"
                    refine ⟨⟨z10, by decide, by decide⟩, ?_⟩
                    rw [law_within_q]
                    exact h
                | _ => cases e4
              | _ => cases e3
    · rw [bTak_no hl] at h
      rw [decide_eq_false (by omega)]
      walk_at "q"
      exact h
  rw [if_neg k4] at h
  by_cases k5 : k = Str.ofString "sale"
  · rw [if_pos k5] at h
    refine in_many ?_
    have fm : fnD mnyD k = some (PyData.int 8) := by rw [k5]; exact m_sale
    rw [fm]
    walk_at "q"
    refine ix_sp fm ?_
    walk_at "q"
    by_cases hl : r.length = 7
    · obtain ⟨x, a1, a2, a3, a4, a5, a6, rfl⟩ := l7 hl
      have e : bSal [x, a1, a2, a3, a4, a5, a6] = (isNm x && isSl (.tuple [a1, a2, a3, a4, a5, a6])) := rfl
      rw [e] at h
      rw [decide_eq_true (by omega)]
      walk_at "q"
      refine ix_sp (v := .tuple [.int 1]) (by rw [k5]; exact n_sale) ?_
      walk_at "q"
      refine one x _ _ _ _ rfl ?_
      cases e1 : isNm x with
      | false => rw [e1] at h; walk_at "q"; exact h
      | true =>
        rw [e1, Bool.true_and] at h
        walk_at "q"
        rw [q_eqSS', decide_eq_false k1]
        walk_at "q"
        rw [q_eqSS', decide_eq_false k2]
        walk_at "q"
        rw [q_eqSS', decide_eq_false k3]
        walk_at "q"
        rw [q_eqSS', decide_eq_false k4]
        walk_at "q"
        rw [q_eqSS', decide_eq_true k5]
        walk_at "q"
        rw [cut2]
        refine law_is_sale_w _ (?_ : Sn b m (.tuple [a1, a2, a3, a4, a5, a6])) hb _ h
        have hn := hs.nb
        have hbk := hs.bulk
        have hd := hs.depth
        refine ⟨?_, ?_, ?_⟩
        · rw [_root_.K62.nb] at hn ⊢
          exact nbs_all fun y hy => nbs_mem hn y (List.mem_cons_of_mem _ (List.mem_cons_of_mem _ hy))
        · rw [PyData.bulk] at hbk ⊢
          simp only [PyData.bulkAll] at hbk ⊢
          omega
        · rw [PyData.depth] at hd ⊢
          simp only [PyData.depthAll] at hd ⊢
          omega
    · rw [bSal_no hl] at h
      rw [decide_eq_false (by omega)]
      walk_at "q"
      exact h
  rw [if_neg k5] at h
  by_cases k6 : k = Str.ofString "finding"
  · rw [if_pos k6] at h
    refine in_many ?_
    have fm : fnD mnyD k = some (PyData.int 3) := by rw [k6]; exact m_finding
    rw [fm]
    walk_at "q"
    refine ix_sp fm ?_
    walk_at "q"
    by_cases hl : r.length = 2
    · obtain ⟨x, y, rfl⟩ := len2 hl
      have e : bFin [x, y] = (isNm x && isIn y 0 1000000) := rfl
      rw [e] at h
      rw [decide_eq_true (by omega)]
      walk_at "q"
      refine ix_sp (v := .tuple [.int 1]) (by rw [k6]; exact n_finding) ?_
      walk_at "q"
      refine one x _ _ _ _ rfl ?_
      cases e1 : isNm x with
      | false => rw [e1] at h; walk_at "q"; exact h
      | true =>
        rw [e1, Bool.true_and] at h
        walk_at "q"
        rw [q_eqSS', decide_eq_false k1]
        walk_at "q"
        rw [q_eqSS', decide_eq_false k2]
        walk_at "q"
        rw [q_eqSS', decide_eq_false k3]
        walk_at "q"
        rw [q_eqSS', decide_eq_false k4]
        walk_at "q"
        rw [q_eqSS', decide_eq_false k5]
        walk_at "q"
        rw [q_eqSS', decide_eq_true k6]
        walk_at "q"
        rw [p6, law_within_q]
        refine ⟨⟨z10, by decide, by decide⟩, ?_⟩
        exact h
    · rw [bFin_no hl] at h
      rw [decide_eq_false (by omega)]
      walk_at "q"
      exact h
  rw [if_neg k6] at h
  by_cases k7 : k = Str.ofString "strike"
  · rw [if_pos k7] at h
    refine in_many ?_
    have fm : fnD mnyD k = some (PyData.int 2) := by rw [k7]; exact m_strike
    rw [fm]
    walk_at "q"
    refine ix_sp fm ?_
    walk_at "q"
    by_cases hl : r.length = 1
    · obtain ⟨x, rfl⟩ := l1 hl
      have e : bStr n [x] = isIn x 0 (n - 1) := rfl
      rw [e] at h
      rw [decide_eq_true (by omega)]
      walk_at "q"
      refine ix_sp (v := .tuple []) (by rw [k7]; exact n_strike) ?_
      walk_at "q"
      refine none _ _ _ ?_
      walk_at "q"
      rw [q_eqSS', decide_eq_false k1]
      walk_at "q"
      rw [q_eqSS', decide_eq_false k2]
      walk_at "q"
      rw [q_eqSS', decide_eq_false k3]
      walk_at "q"
      rw [q_eqSS', decide_eq_false k4]
      walk_at "q"
      rw [q_eqSS', decide_eq_false k5]
      walk_at "q"
      rw [q_eqSS', decide_eq_false k6]
      walk_at "q"
      rw [q_eqSS', decide_eq_true k7]
      walk_at "q"
      rw [law_within_q]
      exact h
    · rw [bStr_no hl] at h
      rw [decide_eq_false (by omega)]
      walk_at "q"
      exact h
  rw [if_neg k7] at h
  by_cases k8 : k = Str.ofString "had"
  · rw [if_pos k8] at h
    refine in_many ?_
    have fm : fnD mnyD k = some (PyData.int 4) := by rw [k8]; exact m_had
    rw [fm]
    walk_at "q"
    refine ix_sp fm ?_
    walk_at "q"
    by_cases hl : r.length = 3
    · obtain ⟨x, y, z, rfl⟩ := l3 hl
      have e : bHad [x, y, z] = (isNm x && (isNm y && isIn z 1 1000000000000)) := rfl
      rw [e] at h
      rw [decide_eq_true (by omega)]
      walk_at "q"
      refine ix_sp (v := .tuple [.int 1, .int 2]) (by rw [k8]; exact n_had) ?_
      walk_at "q"
      refine two x y _ 2 _ _ _ rfl (by simp) (fun K2 hK2 => by walk_at "q"; exact hK2) (by decide) ?_
      cases e1 : isNm x with
      | false => rw [e1] at h; walk_at "q"; exact h
      | true =>
        rw [e1, Bool.true_and] at h
        cases e2 : isNm y with
        | false => rw [e2] at h; walk_at "q"; exact h
        | true =>
          rw [e2, Bool.true_and] at h
          walk_at "q"
          rw [q_eqSS', decide_eq_false k1]
          walk_at "q"
          rw [q_eqSS', decide_eq_false k2]
          walk_at "q"
          rw [q_eqSS', decide_eq_false k3]
          walk_at "q"
          rw [q_eqSS', decide_eq_false k4]
          walk_at "q"
          rw [q_eqSS', decide_eq_false k5]
          walk_at "q"
          rw [q_eqSS', decide_eq_false k6]
          walk_at "q"
          rw [q_eqSS', decide_eq_false k7]
          walk_at "q"
          rw [p12, law_within_q]
          refine ⟨⟨z10, by decide, by decide⟩, ?_⟩
          exact h
    · rw [bHad_no hl] at h
      rw [decide_eq_false (by omega)]
      walk_at "q"
      exact h
  rw [if_neg k8] at h
  refine in_many ?_
  rw [m_none k1 k2 k3 k4 k5 k6 k7 k8]
  walk_at "q"
  exact h
def isPg : PyData → Bool
  | .tuple [d, .int n, .tuple (.str k :: r)] => isIn d 0 1000000 && (isIn (.int n) 0 1000000 && isBd n k r)
  | _ => false
theorem isPg_no {d : PyData} (h : isiB d "tuple" = false) : isPg d = false := by
  cases d with
  | tuple xs => cases h
  | _ => rfl
theorem isPg_len {xs : List PyData} (h : xs.length ≠ 3) : isPg (.tuple xs) = false := by
  unfold isPg
  split
  · rename_i e
    cases e
    exact absurd rfl h
  · rfl
theorem isPg_day {a b c : PyData} (h : isIn a 0 1000000 = false) : isPg (.tuple [a, b, c]) = false := by
  unfold isPg
  split
  · rename_i e
    cases e
    rw [h, Bool.false_and]
  · rfl
theorem isPg_num {a b c : PyData} (h : isIn b 0 1000000 = false) : isPg (.tuple [a, b, c]) = false := by
  unfold isPg
  split
  · rename_i e
    cases e
    rw [h, Bool.false_and, Bool.and_false]
  · rfl
theorem isPg_body {a b c : PyData} (h : isiB c "tuple" = false) : isPg (.tuple [a, b, c]) = false := by
  unfold isPg
  split
  · rename_i e
    cases e
    cases h
  · rfl
theorem isPg_emp {a b : PyData} : isPg (.tuple [a, b, .tuple []]) = false := by
  unfold isPg
  split
  · rename_i e
    cases e
  · rfl
theorem isPg_word {a b x : PyData} {r : List PyData} (h : isiB x "str" = false) : isPg (.tuple [a, b, .tuple (x :: r)]) = false := by
  unfold isPg
  split
  · rename_i e
    cases e
    cases h
  · rfl
theorem in_int {b : PyData} {l m : Int} (h : isIn b l m = true) : ∃ n : Int, b = .int n ∧ l ≤ n ∧ n ≤ m := by
  cases b with
  | int n =>
    have h : (decide (l ≤ n) && decide (n ≤ m)) = true := h
    rw [Bool.and_eq_true, decide_eq_true_eq, decide_eq_true_eq] at h
    exact ⟨n, rfl, h.1, h.2⟩
  | _ => cases h
theorem is_page_g {b m : Nat} (d : PyData) (hs : Sn b m d) (hb : b ≤ 100000) (K : PyData → Prop) (h : K (.bool (isPg d))) : q_is_page d K := by
  unfold q_is_page
  cases e : isiB d "tuple" with
  | false =>
    rw [isPg_no e] at h
    walk_at "q"
    exact h
  | true =>
    obtain ⟨xs, rfl⟩ := isi_tp e
    walk_at "q"
    by_cases hl : xs.length = 3
    · obtain ⟨u, v, w, rfl⟩ := l3 hl
      have hw := hs.inT w (by simp)
      walk_at "q"
      rw [decide_eq_true (show (((0 + 1 + 1 + 1 : Nat) : Int) = 3) from rfl)]
      walk_at "q"
      rw [day_g]
      cases eu : isIn u 0 1000000 with
      | false => rw [isPg_day eu] at h; walk_at "q"; exact h
      | true =>
        walk_at "q"
        rw [day_g]
        cases ev : isIn v 0 1000000 with
        | false => rw [isPg_num ev] at h; walk_at "q"; exact h
        | true =>
          obtain ⟨n, rfl, n0, n1⟩ := in_int ev
          walk_at "q"
          cases ew : isiB w "tuple" with
          | false => rw [isPg_body ew] at h; walk_at "q"; exact h
          | true =>
            obtain ⟨ys, rfl⟩ := isi_tp ew
            walk_at "q"
            cases ys with
            | nil => rw [isPg_emp] at h; walk_at "q"; exact h
            | cons x r =>
              walk_at "q"
              cases ex : isiB x "str" with
              | false => rw [isPg_word ex] at h; walk_at "q"; exact h
              | true =>
                obtain ⟨k, rfl⟩ := isi_s ex
                walk_at "q"
                have e2 : isPg (.tuple [u, .int n, .tuple (.str k :: r)]) = (isIn u 0 1000000 && (isIn (.int n) 0 1000000 && isBd n k r)) := rfl
                rw [e2, eu, ev, Bool.true_and, Bool.true_and] at h
                exact is_body_g hw hb _ h
    · rw [decide_eq_false (show ¬ ((xs.length : Int) = 3) by omega)]
      rw [isPg_len hl] at h
      walk_at "q"
      exact h
theorem law_is_page_w {b m : Nat} (d : PyData) (hs : Sn b m d) (hb : b ≤ 100000) (K : PyData → Prop) (h : K (.bool (isPg d))) : q_law_is_page d K := by
  unfold q_law_is_page
  cases e : isiB d "tuple" with
  | false =>
    rw [isPg_no e] at h
    walk_at "q"
    exact h
  | true =>
    obtain ⟨xs, rfl⟩ := isi_tp e
    walk_at "q"
    by_cases hl : xs.length = 3
    · obtain ⟨u, v, w, rfl⟩ := l3 hl
      have hw := hs.inT w (by simp)
      walk_at "q"
      rw [decide_eq_true (show (((0 + 1 + 1 + 1 : Nat) : Int) = 3) from rfl)]
      walk_at "q"
      cases ew : isiB w "tuple" with
      | false => rw [isPg_body ew] at h; walk_at "q"; exact h
      | true =>
        obtain ⟨ys, rfl⟩ := isi_tp ew
        walk_at "q"
        cases ys with
        | nil => rw [isPg_emp] at h; walk_at "q"; exact h
        | cons x r =>
          walk_at "q"
          rw [p6]
          refine ⟨⟨z10, by decide, by decide⟩, ?_⟩
          rw [law_within_q]
          cases eu : isIn u 0 1000000 with
          | false => rw [isPg_day eu] at h; walk_at "q"; exact h
          | true =>
            walk_at "q"
            refine ⟨⟨z10, by decide, by decide⟩, ?_⟩
            rw [law_within_q]
            cases ev : isIn v 0 1000000 with
            | false => rw [isPg_num ev] at h; walk_at "q"; exact h
            | true =>
              obtain ⟨n, rfl, n0, n1⟩ := in_int ev
              walk_at "q"
              cases ex : isiB x "str" with
              | false => rw [isPg_word ex] at h; walk_at "q"; exact h
              | true =>
                obtain ⟨k, rfl⟩ := isi_s ex
                walk_at "q"
                have e2 : isPg (.tuple [u, .int n, .tuple (.str k :: r)]) = (isIn u 0 1000000 && (isIn (.int n) 0 1000000 && isBd n k r)) := rfl
                rw [e2, eu, ev, Bool.true_and, Bool.true_and] at h
                exact law_is_body_w hw hb _ h
    · rw [decide_eq_false (show ¬ ((xs.length : Int) = 3) by omega)]
      rw [isPg_len hl] at h
      walk_at "q"
      exact h
theorem len_sub : ∀ {ms ns : List Int}, ms.Nodup → (∀ k ∈ ms, k ∈ ns) → ms.length ≤ ns.length
  | [], _, _, _ => Nat.zero_le _
  | a :: t, ns, nd, h => by
    obtain ⟨n1, n2⟩ := List.nodup_cons.mp nd
    have ha := h a List.mem_cons_self
    have := len_sub (ms := t) (ns := ns.erase a) n2 fun k hk => (List.mem_erase_of_ne fun e : k = a => n1 (by rw [← e]; exact hk)).mpr (h k (List.mem_cons_of_mem _ hk))
    rw [List.length_erase_of_mem ha] at this
    have : 0 < ns.length := List.length_pos_of_mem ha
    rw [List.length_cons]
    omega
theorem twice_in : ∀ {ns : List Int}, ¬ ns.Nodup → ∃ a, a ∈ ns ∧ a ∈ ns.erase a
  | [], h => absurd List.nodup_nil h
  | b :: t, h => by
    by_cases hb : b ∈ t
    · exact ⟨b, List.mem_cons_self, by rw [List.erase_cons_head]; exact hb⟩
    · have ht : ¬ t.Nodup := fun z => h (List.nodup_cons.mpr ⟨hb, z⟩)
      obtain ⟨a, h1, h2⟩ := twice_in ht
      have ne : b ≠ a := fun e => hb (e ▸ h1)
      refine ⟨a, List.mem_cons_of_mem _ h1, ?_⟩
      rw [List.erase_cons_tail (by simpa using ne)]
      exact List.mem_cons_of_mem _ h2
theorem unlike_i {ns : List Int} (hl : ns.length < 4000) {P : PyData → Prop} (h : P (.bool (decide ns.Nodup))) : lenSetIQ (.list (ns.map .int)) fun t => oEq t (.int ((ns.length : Nat) : Int)) P := by
  rw [q_lenSetI]
  refine ⟨hl, fun ms nd hm => ?_⟩
  walk_at "q"
  have e : decide (((ms.length : Nat) : Int) = ((ns.length : Nat) : Int)) = decide ns.Nodup := by
    refine decide_eq_decide.mpr ⟨fun z => ?_, fun z => ?_⟩
    · rcases Classical.em ns.Nodup with y | y
      · exact y
      · obtain ⟨a, h1, h2⟩ := twice_in y
        have := len_sub (ns := ns.erase a) nd fun k hk => by
          by_cases e : k = a
          · rw [e]; exact h2
          · exact (List.mem_erase_of_ne e).mpr ((hm k).mp hk)
        rw [List.length_erase_of_mem h1] at this
        have : 0 < ns.length := List.length_pos_of_mem h1
        omega
    · have h1 := len_sub nd fun k hk => (hm k).mp hk
      have h2 := len_sub z fun k hk => (hm k).mpr hk
      omega
  rw [e]
  exact h
def numI : PyData → Int
  | .tuple [_, .int n, _] => n
  | _ => 0
def isPgs : PyData → Bool
  | .tuple ps => decide (ps.length ≤ 60) && (ps.all isPg && decide ((ps.map numI).Nodup))
  | _ => false
theorem isPgs_no {d : PyData} (h : isiB d "tuple" = false) : isPgs d = false := by
  cases d with
  | tuple xs => cases h
  | _ => rfl
theorem isPg_inv {d : PyData} (h : isPg d = true) : ∃ (a : PyData) (n : Int) (c : PyData), d = .tuple [a, .int n, c] := by
  unfold isPg at h
  split at h
  · exact ⟨_, _, _, rfl⟩
  · cases h
theorem are_pages_g {b m : Nat} (d : PyData) (hs : Sn b m d) (hb : b ≤ 100000) (K : PyData → Prop) (h : K (.bool (isPgs d))) : q_are_pages d K := by
  unfold q_are_pages
  cases e : isiB d "tuple" with
  | false =>
    rw [isPgs_no e] at h
    walk_at "q"
    exact h
  | true =>
    obtain ⟨ps, rfl⟩ := isi_tp e
    walk_at "q"
    unfold isPgs at h
    dsimp only at h
    by_cases hl : ps.length ≤ 60
    · rw [decide_eq_true hl, Bool.true_and] at h
      rw [decide_eq_false (show ¬ (60 : Int) < (ps.length : Int) by omega)]
      walk_at "q"
      refine qLc_map (fun d => .bool (isPg d)) (by omega) (fun d hd sk yd hy => ?_) ?_
      · unfold qb_are_pages_1
        exact is_page_g d (hs.inT d hd) hb _ hy
      · walk_at "q"
        cases a : ps.all isPg with
        | false => rw [a] at h; walk_at "q"; exact h
        | true =>
          rw [a, Bool.true_and] at h
          walk_at "q"
          refine qLc_map (fun d => .int (numI d)) (by omega) (fun d hd sk yd hy => ?_) ?_
          · obtain ⟨u, n, w, rfl⟩ := isPg_inv (List.all_eq_true.mp a d hd)
            unfold qb_are_pages_2
            walk_at "q"
            exact hy
          · have em : (ps.map fun d => PyData.int (numI d)) = (ps.map numI).map .int := by rw [List.map_map]; rfl
            rw [em]
            walk_at "q"
            have hl2 : ps.length = (ps.map numI).length := by rw [List.length_map]
            rw [hl2]
            exact unlike_i (by rw [List.length_map]; omega) h
    · rw [decide_eq_false hl, Bool.false_and] at h
      rw [decide_eq_true (show (60 : Int) < (ps.length : Int) by omega)]
      walk_at "q"
      exact h
theorem law_are_pages_w {b m : Nat} (d : PyData) (hs : Sn b m d) (hb : b ≤ 100000) (K : PyData → Prop) (h : K (.bool (isPgs d))) : q_law_are_pages d K := by
  unfold q_law_are_pages
  cases e : isiB d "tuple" with
  | false =>
    rw [isPgs_no e] at h
    walk_at "q"
    exact h
  | true =>
    obtain ⟨ps, rfl⟩ := isi_tp e
    walk_at "q"
    unfold isPgs at h
    dsimp only at h
    by_cases hl : ps.length ≤ 60
    · rw [decide_eq_true hl, Bool.true_and] at h
      rw [decide_eq_false (show ¬ (60 : Int) < (ps.length : Int) by omega)]
      walk_at "q"
      refine qLc_map (fun d => .bool (isPg d)) (by omega) (fun d hd sk yd hy => ?_) ?_
      · unfold qb_law_are_pages_1
        exact law_is_page_w d (hs.inT d hd) hb _ hy
      · walk_at "q"
        cases a : ps.all isPg with
        | false => rw [a] at h; walk_at "q"; exact h
        | true =>
          rw [a, Bool.true_and] at h
          walk_at "q"
          refine qLc_map (fun d => .int (numI d)) (by omega) (fun d hd sk yd hy => ?_) ?_
          · obtain ⟨u, n, w, rfl⟩ := isPg_inv (List.all_eq_true.mp a d hd)
            unfold qb_law_are_pages_2
            walk_at "q"
            exact hy
          · have em : (ps.map fun d => PyData.int (numI d)) = (ps.map numI).map .int := by rw [List.map_map]; rfl
            rw [em]
            walk_at "q"
            have hl2 : ps.length = (ps.map numI).length := by rw [List.length_map]
            rw [hl2]
            exact unlike_i (by rw [List.length_map]; omega) h
    · rw [decide_eq_false hl, Bool.false_and] at h
      rw [decide_eq_true (show (60 : Int) < (ps.length : Int) by omega)]
      walk_at "q"
      exact h
theorem sn_tup {b k : Nat} {xs : List PyData} (h : ∀ x ∈ xs, nb x = true ∧ x.depth + 1 ≤ k) (hk : 1 ≤ k) (hb : PyData.bulkAll xs ≤ b) : Sn b k (.tuple xs) := by
  have s := sm_tup (B := b) (k := k) (fun x hx => ⟨nb_rp (h x hx).1, (h x hx).2⟩) hk hb
  exact ⟨by rw [nb]; exact nbs_all fun x hx => (h x hx).1, s.bulk, s.depth⟩
theorem sn_lst {b k : Nat} {xs : List PyData} (h : ∀ x ∈ xs, nb x = true ∧ x.depth + 1 ≤ k) (hk : 1 ≤ k) (hb : PyData.bulkAll xs ≤ b) : Sn b k (.list xs) := by
  have s := sm_lst (B := b) (k := k) (fun x hx => ⟨nb_rp (h x hx).1, (h x hx).2⟩) hk hb
  exact ⟨by rw [nb]; exact nbs_all fun x hx => (h x hx).1, s.bulk, s.depth⟩
structure OddsOk (os : List PyData) : Prop where
  n1 : 1 ≤ os.length
  n2 : os.length ≤ 1000
  ok : ∀ o ∈ os, Sn 10 3 o
theorem spoilt_n_q : ∀ (m e : Nat) (thing : PyData) (os xs : List PyData) (K : PyData → List PyData → Prop), e < m → OddsOk os → MPot xs → nb thing = true → thing.bulk ≤ 45000 →
    (∀ d xs', Sn (2 * thing.bulk + 20) (thing.depth + 4) d → MPot xs' → K d xs') → q_law_spoilt_n m xs thing (.list os) (.int e) K
  | 0, e, _, _, _, _, h, _, _, _, _, _ => absurd h (by omega)
  | m + 1, e, thing, os, xs, K, hm, ho, hp, hnb, hb, hK => by
    show q_law_spoilt_step (q_law_spoilt_n m) xs thing (.list os) (.int e) K
    unfold q_law_spoilt_step
    have o1 := ho.n1
    have o2 := ho.n2
    have odd : ∀ xs, MPot xs → q_law_draw xs (.int ((os.length : Nat) : Int)) fun d10 pot11 => oIx (.list os) d10 fun t12 => K t12 pot11 := fun xs hp => by
      refine draw_q hp (by omega) (by omega) _ fun a xs a0 a1 hp => ?_
      walk_at "q"
      refine pick_mem a0 a1 fun o hoo => hK _ _ ((ho.ok o hoo).mono (by omega) (by omega)) hp
    by_cases h0 : e = 0
    · subst h0
      walk_at "q"
      exact odd xs hp
    · have he0 : decide ((e : Int) = 0) = false := decide_eq_false (by omega)
      walk_at "q"
      rw [he0]
      walk_at "q"
      cases et : isiB thing "tuple" with
      | false =>
        walk_at "q"
        exact odd xs hp
      | true =>
        obtain ⟨ts, rfl⟩ := isi_tp et
        walk_at "q"
        cases hemp : ts.isEmpty with
        | true =>
          walk_at "q"
          exact odd xs hp
        | false =>
          have l0 : 0 < ts.length := by
            cases ts with
            | nil => cases hemp
            | cons _ _ => simp
          walk_at "q"
          rw [nb] at hnb
          have hd : PyData.depth (.tuple ts) = PyData.depthAll ts + 1 := by rw [PyData.depth]
          have hbk : PyData.bulk (.tuple ts) = PyData.bulkAll ts := by rw [PyData.bulk]
          have hl := bulk_len (xs := ts)
          rw [hbk] at hb hK
          rw [hd] at hK
          have hin : ∀ x ∈ ts, nb x = true ∧ x.depth + 1 ≤ PyData.depthAll ts + 5 := fun x hx => ⟨nbs_mem hnb x hx, by have := (bulk_mem x hx).2; omega⟩
          refine draw_q hp (by omega) (by omega) _ fun at_ xs a0 a1 hp => ?_
          refine draw_q hp (by decide) (by decide) _ fun way xs w0 w1 hp => ?_
          have c := fun (lo hi : Option Int) => bulk_cut (xs := ts) (lo := lo) (hi := hi)
          have cl := fun (lo hi : Option Int) => Nat.le_trans (bulk_len (xs := DL.cutD ts lo hi)) (c lo hi)
          have ci : ∀ {lo hi : Option Int} {x : PyData}, x ∈ DL.cutD ts lo hi → nb x = true ∧ x.depth + 1 ≤ PyData.depthAll ts + 5 := fun h => hin _ (cut_mem h)
          have c1 := c none (some at_)
          have c2 := c (some (at_ + 1)) none
          have c3 := c (some at_) (some (at_ + 1))
          have d1 := cl none (some at_)
          have d2 := cl (some (at_ + 1)) none
          have d3 := cl (some at_) (some (at_ + 1))
          -- what stands ahead, there, behind
          have parts : ∀ x, ts[at_.toNat]? = some x → PyData.bulkAll (DL.cutD ts none (some at_)) + (x.bulk + 1) + PyData.bulkAll (DL.cutD ts (some (at_ + 1)) none) = PyData.bulkAll ts := fun x hx => by
            obtain ⟨j, rfl⟩ : ∃ j : Nat, at_ = (j : Int) := ⟨at_.toNat, by omega⟩
            rw [Int.toNat_natCast] at hx
            have e1 : DL.cutD ts none (some (j : Int)) = ts.take j := by
              unfold DL.cutD
              rw [HT.sIx_none, HT.sIx_nat, List.drop_zero, Nat.sub_zero]
              rcases Nat.le_total j ts.length with h | h
              · rw [Nat.min_eq_left h]
              · rw [Nat.min_eq_right h, List.take_of_length_le h, List.take_of_length_le (Nat.le_refl _)]
            have e2 : DL.cutD ts (some ((j : Int) + 1)) none = ts.drop (j + 1) := by
              rw [show (j : Int) + 1 = ((j + 1 : Nat) : Int) by omega]
              exact cut_dropS
            rw [e1, e2]
            have e3 : ts = ts.take j ++ x :: ts.drop (j + 1) := by
              obtain ⟨hk, e⟩ := List.getElem?_eq_some_iff.mp hx
              rw [← e, ← List.drop_eq_getElem_cons hk, List.take_append_drop]
            have := congrArg PyData.bulkAll e3
            rw [bulk_app, PyData.bulkAll] at this
            omega
          walk_at "q"
          refine bIf_d (fun hw => ?_) fun hw => ?_
          · refine pick_get a0 a1 fun x hx => ?_
            have hxm := List.mem_of_getElem? hx
            have e1 : ((e : Int) - 1) = ((e - 1 : Nat) : Int) := by omega
            rw [e1]
            have b1 := bulk_in x hxm
            have pb := parts x hx
            refine spoilt_n_q m (e - 1) x os xs _ (by omega) ho hp (hin x hxm).1 (by omega) fun y xs sy hp => ?_
            have b3 := sy.bulk
            have dd := sy.depth
            have dx := (bulk_mem x hxm).2
            walk_at "q"
            refine ⟨by omega, by simp; omega, hK _ _ (sn_tup (fun z hz => ?_) (by omega) ?_) hp⟩
            · rcases List.mem_append.mp hz with hz | hz
              · rcases List.mem_append.mp hz with hz | hz
                · exact ci hz
                · rw [List.mem_singleton.mp hz]
                  exact ⟨sy.nb, by omega⟩
              · exact ci hz
            · rw [bulk_app, bulk_app]
              simp only [PyData.bulkAll]
              omega
          · walk_at "q"
            refine bIf_d (fun _ => ?_) fun _ => ?_
            · refine ⟨by omega, hK _ _ (sn_tup (fun z hz => (List.mem_append.mp hz).elim ci ci) (by omega) ?_) hp⟩
              rw [bulk_app]
              obtain ⟨x, hx⟩ : ∃ x, ts[at_.toNat]? = some x := ⟨_, List.getElem?_eq_getElem (by omega)⟩
              have := parts x hx
              omega
            · have thr : ∀ x, ts[at_.toNat]? = some x → DL.cutD ts (some at_) (some (at_ + 1)) = [x] := fun x hx => by
                obtain ⟨j, rfl⟩ : ∃ j : Nat, at_ = (j : Int) := ⟨at_.toNat, by omega⟩
                rw [Int.toNat_natCast] at hx
                obtain ⟨hk, e⟩ := List.getElem?_eq_some_iff.mp hx
                rw [show (j : Int) + 1 = ((j + 1 : Nat) : Int) by omega]
                unfold DL.cutD
                rw [HT.sIx_nat, HT.sIx_nat, Nat.min_eq_left (by omega), Nat.min_eq_left (by omega), show j + 1 - j = 1 by omega, List.drop_eq_getElem_cons hk, e]
                rfl
              obtain ⟨x, hx⟩ : ∃ x, ts[at_.toNat]? = some x := ⟨_, List.getElem?_eq_getElem (by omega)⟩
              have pb := parts x hx
              have hxm := List.mem_of_getElem? hx
              have app : ∀ (l r : List PyData) (y : PyData), (∀ z ∈ l, nb z = true ∧ z.depth + 1 ≤ PyData.depthAll ts + 5) → (∀ z ∈ r, nb z = true ∧ z.depth + 1 ≤ PyData.depthAll ts + 5) → nb y = true ∧ y.depth + 1 ≤ PyData.depthAll ts + 5 → PyData.bulkAll l + (y.bulk + 1) + PyData.bulkAll r ≤ 2 * PyData.bulkAll ts + 20 → Sn (2 * PyData.bulkAll ts + 20) (PyData.depthAll ts + 1 + 4) (.tuple (l ++ [y] ++ r)) := fun l r y hl hr hy hb => by
                refine sn_tup (fun z hz => ?_) (by omega) ?_
                · rcases List.mem_append.mp hz with hz | hz
                  · rcases List.mem_append.mp hz with hz | hz
                    · exact hl z hz
                    · rw [List.mem_singleton.mp hz]; exact hy
                  · exact hr z hz
                · rw [bulk_app, bulk_app]
                  simp only [PyData.bulkAll]
                  omega
              walk_at "q"
              refine bIf_d (fun _ => ?_) fun _ => ?_
              · rw [thr x hx]
                have ef : (List.replicate (Int.toNat 2) [x]).flatten = [x, x] := rfl
                rw [ef]
                refine ⟨⟨by simp, by decide, by decide, by simp⟩, by simp; omega, by simp; omega, hK _ _ (sn_tup (fun z hz => ?_) (by omega) ?_) hp⟩
                · rcases List.mem_append.mp hz with hz | hz
                  · rcases List.mem_append.mp hz with hz | hz
                    · exact ci hz
                    · have : z = x := by simpa using hz
                      rw [this]
                      exact hin x hxm
                  · exact ci hz
                · rw [bulk_app, bulk_app]
                  simp only [PyData.bulkAll]
                  omega
              · walk_at "q"
                refine bIf_d (fun _ => ?_) fun _ => ?_
                · exact hK _ _ (sn_lst (fun z hz => hin z hz) (by omega) (by omega)) hp
                · walk_at "q"
                  refine bIf_d (fun _ => ?_) fun _ => ?_
                  · refine draw_q hp (by omega) (by omega) _ fun a xs b0 b1 hp => ?_
                    walk_at "q"
                    refine pick_mem b0 b1 fun o hoo => ?_
                    have so := ho.ok o hoo
                    have sb := so.bulk
                    have sd := so.depth
                    have r := app ts [] o hin (by simp) ⟨so.nb, by omega⟩ (by simp only [PyData.bulkAll]; omega)
                    rw [List.append_nil] at r
                    walk_at "q"
                    exact ⟨by omega, hK _ _ r hp⟩
                  · refine draw_q hp (by omega) (by omega) _ fun a xs b0 b1 hp => ?_
                    walk_at "q"
                    refine pick_mem b0 b1 fun o hoo => ?_
                    have so := ho.ok o hoo
                    have sb := so.bulk
                    have sd := so.depth
                    have r := app _ _ o (fun z hz => ci hz) (fun z hz => ci hz) ⟨so.nb, by omega⟩ (show PyData.bulkAll (DL.cutD ts none (some at_)) + (o.bulk + 1) + PyData.bulkAll (DL.cutD ts (some (at_ + 1)) none) ≤ _ by omega)
                    walk_at "q"
                    exact ⟨by omega, by simp; omega, hK _ _ r hp⟩
theorem spoilt_q {e : Nat} {thing : PyData} {os xs : List PyData} {b k : Nat} (he : e < 8) (ho : OddsOk os) (hp : MPot xs) (hs : Sn b k thing) (hb : b ≤ 45000) (K : PyData → List PyData → Prop) (hK : ∀ d xs', Sn (2 * b + 20) (k + 4) d → MPot xs' → K d xs') : q_law_spoilt xs thing (.list os) (.int e) K := by
  unfold q_law_spoilt
  refine spoilt_n_q 8 e thing os xs K he ho hp hs.nb (Nat.le_trans hs.bulk hb) fun d xs' sd hp => hK d xs' ?_ hp
  have := hs.bulk
  have := hs.depth
  exact sd.mono (by omega) (by omega)
theorem Sn.tup {n b k : Nat} {xs : List PyData} (hl : xs.length ≤ n) (h : ∀ x ∈ xs, Sn b k x) : Sn (n * (b + 1)) (k + 1) (.tuple xs) := by
  have s := Sm.tup hl fun x hx => (h x hx).sm
  exact ⟨by rw [_root_.K62.nb]; exact nbs_all fun x hx => (h x hx).nb, s.bulk, s.depth⟩
theorem sn_int {i : Int} {k : Nat} (h0 : -(10 ^ 45) ≤ i) (h1 : i ≤ 10 ^ 45) : Sn 0 k (.int i) := by
  refine ⟨?_, by rw [PyData.bulk]; exact Nat.le_refl _, by rw [PyData.depth]; exact Nat.zero_le _⟩
  rw [_root_.K62.nb, decide_eq_true_eq]
  omega
theorem sn_str {x : Str} {n k : Nat} (hl : x.length ≤ n) (hc : (x.cps.toList.all fun c => decide (c < 16 ^ 8)) = true) : Sn n k (.str x) := ⟨hc, by rw [PyData.bulk]; exact hl, by rw [PyData.depth]; exact Nat.zero_le _⟩
theorem sn_good {x : Str} {k : Nat} (h : goodN x = true) : Sn 8 k (.str x) := by
  have s := good_rp h k
  have r := s.rp
  rw [DL.rp] at r
  have b := s.bulk
  rw [PyData.bulk] at b
  exact sn_str b r
theorem sn_log {rs : List Rw} (h : LogOk rs) : Sn 100 2 (logD rs) := (Sn.tup (n := 20) (b := 3) (k := 1) (by rw [List.length_map]; exact h.n1) fun d hd => by
  obtain ⟨r, hr, rfl⟩ := List.mem_map.mp hd
  have ro := h.ok r hr
  have := ro.h0
  have := ro.h1
  have := ro.x0
  have := ro.x1
  have := ro.y0
  have := ro.y1
  exact (Sn.tup (n := 3) (b := 0) (k := 0) (by simp) fun z hz => by
    simp only [List.mem_cons, List.not_mem_nil, or_false] at hz
    rcases hz with rfl | rfl | rfl
    · exact sn_int (by omega) (by omega)
    · exact sn_int (by omega) (by omega)
    · exact sn_int (by omega) (by omega)).mono).mono
theorem sn_sch {es rs : List PyData} (h : Sch es rs) : Sn 500 4 (.tuple [.tuple es, .tuple rs]) := (Sn.tup (n := 2) (b := 230) (k := 3) (by simp) fun z hz => by
  simp only [List.mem_cons, List.not_mem_nil, or_false] at hz
  rcases hz with rfl | rfl
  · exact (Sn.tup (n := 6) (b := 0) (k := 0) h.l6 fun x hx => by
      obtain ⟨i, rfl, i0, i1⟩ := h.few x hx
      exact sn_int (by omega) (by omega)).mono
  · exact (Sn.tup (n := 20) (b := 10) (k := 2) h.l20 fun x hx => by
      obtain ⟨y, i, rfl, hy, i0, i1⟩ := isPr_inv (List.all_eq_true.mp h.pr x hx)
      have := h.l6
      refine sn_tup (fun z hz => ?_) (by omega) ?_
      · simp only [List.mem_cons, List.not_mem_nil, or_false] at hz
        rcases hz with rfl | rfl
        · have s := sn_good (k := 0) hy
          exact ⟨s.nb, by rw [PyData.depth]; omega⟩
        · have s := sn_int (i := i) (k := 0) (by omega) (by omega)
          exact ⟨s.nb, by rw [PyData.depth]; omega⟩
      · have s := (sn_good (k := 0) hy).bulk
        simp only [PyData.bulkAll]
        have e : (PyData.int i).bulk = 0 := by rw [PyData.bulk]
        omega).mono).mono
theorem sn_word {s : Str} {k : Nat} (h : (decide (s.length ≤ 8) && s.cps.toList.all fun c => decide (c < 16 ^ 8)) = true) : Sn 8 k (.str s) := by
  rw [Bool.and_eq_true, decide_eq_true_eq] at h
  exact sn_str h.1 h.2
theorem bd_sn {n : Int} {b : Bd} (h : BdOk n b) (hn : n ≤ 1000) : Sn 610 6 (bdD b) := by
  have w : ∀ s : Str, (decide (s.length ≤ 8) && s.cps.toList.all fun c => decide (c < 16 ^ 8)) = true → Sn 8 5 (.str s) := fun s hs => (sn_word hs (k := 0)).mono
  have g : ∀ x : Str, goodN x = true → Sn 8 5 (.str x) := fun x hx => (sn_good hx (k := 0)).mono
  have i : ∀ j : Int, -(10 ^ 45) ≤ j → j ≤ 10 ^ 45 → Sn 8 5 (.int j) := fun j h0 h1 => (sn_int h0 h1 (k := 0)).mono
  have T : ∀ (xs : List PyData), xs.length ≤ 8 → (∀ x ∈ xs, Sn 8 5 x) → Sn 610 6 (.tuple xs) := fun xs hl hx => (Sn.tup hl hx).mono
  have T1 : ∀ (xs : List PyData) (y : PyData), xs.length ≤ 8 → (∀ x ∈ xs, Sn 8 5 x) → Sn 500 5 y → Sn 610 6 (.tuple (xs ++ [y])) := fun xs y hl hx hy => by
    have s := (Sn.tup hl hx).bulk
    rw [PyData.bulk] at s
    have yb := hy.bulk
    have yd := hy.depth
    refine sn_tup (fun z hz => ?_) (by omega) ?_
    · rcases List.mem_append.mp hz with hz | hz
      · have := (hx z hz).depth
        exact ⟨(hx z hz).nb, by omega⟩
      · rw [List.mem_singleton.mp hz]
        exact ⟨hy.nb, by omega⟩
    · rw [bulk_app]
      simp only [PyData.bulkAll]
      omega
  cases b with
  | log x rs =>
    refine T1 [.str "log", .str x] (logD rs) (by simp) (fun z hz => ?_) (sn_log h.2).mono
    simp only [List.mem_cons, List.not_mem_nil, or_false] at hz
    rcases hz with rfl | rfl
    · exact w _ (by decide +kernel)
    · exact g _ h.1
  | muster m hh s r =>
    obtain ⟨h1, h2, h3, h4, h5⟩ := h
    refine T _ (by simp) fun z hz => ?_
    simp only [List.mem_cons, List.not_mem_nil, or_false] at hz
    rcases hz with rfl | rfl | rfl | rfl | rfl
    · exact w _ (by decide +kernel)
    · exact g _ h1
    · exact i _ (by omega) (by omega)
    · rcases h2 with rfl | h2
      · exact w _ (by decide +kernel)
      · exact g _ h2
    · exact g _ h3
  | scheme hh es rs =>
    refine T1 [.str "scheme", .int hh] _ (by simp) (fun z hz => ?_) (sn_sch h.2).mono
    have := h.1
    simp only [List.mem_cons, List.not_mem_nil, or_false] at hz
    rcases hz with rfl | rfl
    · exact w _ (by decide +kernel)
    · exact i _ (by omega) (by omega)
  | taking x s lo hi ml =>
    obtain ⟨h1, h2, h3, h4, h5, h6, h7⟩ := h
    refine T _ (by simp) fun z hz => ?_
    simp only [List.mem_cons, List.not_mem_nil, or_false] at hz
    rcases hz with rfl | rfl | rfl | rfl | rfl | rfl
    · exact w _ (by decide +kernel)
    · exact g _ h1
    · exact g _ h2
    · exact i _ (by omega) (by omega)
    · exact i _ (by omega) (by omega)
    · exact i _ (by omega) (by omega)
  | sale x g' c r hh b p q =>
    obtain ⟨h1, s⟩ := h
    have := s.g0
    have := s.g1
    have := s.c0
    have := s.c1
    have := s.r0
    have := s.r1
    have := s.h0
    have := s.h1
    have := s.b0
    have := s.b1
    have := s.p0
    have := s.pq
    have := s.q1
    refine T1 [.str "sale", .str x, .int g', .int c, .int r, .int hh, .int b] (.tuple [.int p, .int q]) (by simp) (fun z hz => ?_) ?_
    · simp only [List.mem_cons, List.not_mem_nil, or_false] at hz
      rcases hz with rfl | rfl | rfl | rfl | rfl | rfl | rfl
      · exact w _ (by decide +kernel)
      · exact g _ h1
      · exact i _ (by omega) (by omega)
      · exact i _ (by omega) (by omega)
      · exact i _ (by omega) (by omega)
      · exact i _ (by omega) (by omega)
      · exact i _ (by omega) (by omega)
    · exact (Sn.tup (n := 2) (b := 0) (k := 0) (by simp) fun z hz => by
        simp only [List.mem_cons, List.not_mem_nil, or_false] at hz
        rcases hz with rfl | rfl
        · exact sn_int (by omega) (by omega)
        · exact sn_int (by omega) (by omega)).mono
  | had m x k =>
    obtain ⟨h1, h2, h3, h4⟩ := h
    refine T _ (by simp) fun z hz => ?_
    simp only [List.mem_cons, List.not_mem_nil, or_false] at hz
    rcases hz with rfl | rfl | rfl | rfl
    · exact w _ (by decide +kernel)
    · exact g _ h1
    · exact g _ h2
    · exact i _ (by omega) (by omega)
  | strike t =>
    obtain ⟨h1, h2⟩ := h
    refine T _ (by simp) fun z hz => ?_
    simp only [List.mem_cons, List.not_mem_nil, or_false] at hz
    rcases hz with rfl | rfl
    · exact w _ (by decide +kernel)
    · exact i _ (by omega) (by omega)
  | finding s k =>
    obtain ⟨h1, h2, h3⟩ := h
    refine T _ (by simp) fun z hz => ?_
    simp only [List.mem_cons, List.not_mem_nil, or_false] at hz
    rcases hz with rfl | rfl | rfl
    · exact w _ (by decide +kernel)
    · exact g _ h1
    · exact i _ (by omega) (by omega)
theorem pg_sn {p : Pg} (h : PgOk p) : Sn 620 7 (pgD p) := by
  obtain ⟨b, e, hb⟩ := h.bd
  have s := bd_sn hb h.n1
  rw [← e] at s
  have s1 := s.bulk
  have s2 := s.depth
  have h1 := h.d0
  have h2 := h.d1
  have h3 := h.n0
  have h4 := h.n1
  have a1 := sn_int (i := p.day) (k := 0) (by omega) (by omega)
  have a2 := sn_int (i := p.n) (k := 0) (by omega) (by omega)
  have e0 : ∀ i : Int, (PyData.int i).bulk = 0 := fun i => by rw [PyData.bulk]
  have e1 : ∀ i : Int, (PyData.int i).depth = 0 := fun i => by rw [PyData.depth]
  refine sn_tup (fun z hz => ?_) (by omega) ?_
  · simp only [List.mem_cons, List.not_mem_nil, or_false] at hz
    rcases hz with rfl | rfl | rfl
    · exact ⟨a1.nb, by rw [e1]; omega⟩
    · exact ⟨a2.nb, by rw [e1]; omega⟩
    · exact ⟨s.nb, by omega⟩
  · simp only [PyData.bulkAll, e0]
    omega
theorem odds_q {xs : List PyData} (hp : MPot xs) (K : PyData → List PyData → Prop) (h : ∀ os xs', OddsOk os → os.length ≤ 60 → MPot xs' → K (.list os) xs') : q_law_odds xs K := by
  unfold q_law_odds
  have p39 : (10 : Int) ^ Int.toNat 39 = 10 ^ 39 := by decide
  walk_at "q"
  rw [p39]
  refine ⟨⟨z10, by decide, by decide⟩, ?_⟩
  refine draw_q hp (by decide) (by decide) _ fun f xs f0 f1 hp => ?_
  walk_at "q"
  rw [p4, p5, p6, p9, p12]
  refine ⟨⟨z10, by decide, by decide⟩, ⟨z10, by decide, by decide⟩, ⟨z10, by decide, by decide⟩, ⟨z10, by decide, by decide⟩, ⟨z10, by decide, by decide⟩, ⟨z10, by decide, by decide⟩, ⟨z10, by decide, by decide⟩, ⟨z10, by decide, by decide⟩, ⟨z10, by decide, by decide⟩, ⟨z10, by decide, by decide⟩, ⟨z10, by decide, by decide⟩, by decide, by decide, by decide, by decide, ?_⟩
  refine h _ _ ⟨by simp, by simp, fun o ho => ?_⟩ (by simp) hp
  have fi : ∀ j : Int, -(10 ^ 45) ≤ j → j ≤ 10 ^ 45 → Sn 10 3 (.int j) := fun j h0 h1 => (sn_int h0 h1 (k := 0)).mono
  simp only [List.mem_cons, List.not_mem_nil, or_false] at ho
  rcases ho with rfl | rfl | rfl | rfl | rfl | rfl | rfl | rfl | rfl | rfl | rfl | rfl | rfl | rfl | rfl | rfl | rfl | rfl | rfl | rfl | rfl | rfl | rfl | rfl | rfl | rfl | rfl | rfl | rfl | rfl | rfl | rfl | rfl | rfl | rfl | rfl | rfl | rfl | rfl | rfl | rfl | rfl | rfl | rfl | rfl | rfl | rfl | rfl | rfl <;> first | exact fi _ (by omega) (by omega) | exact ⟨by decide +kernel, by decide +kernel, by decide +kernel⟩
def ThOk (n : Nat) (xs : List PyData) : Prop := xs.length ≤ n ∧ ∀ x ∈ xs, Sn 4000 20 x
theorem ThOk.push {n m : Nat} {xs : List PyData} (h : ThOk n xs) {x : PyData} (hx : Sn 4000 20 x) (hm : n + 1 ≤ m) : ThOk m (xs ++ [x]) := by
  refine ⟨by rw [List.length_append, List.length_singleton]; have := h.1; omega, fun y hy => ?_⟩
  rcases List.mem_append.mp hy with hy | hy
  · exact h.2 y hy
  · rw [List.mem_singleton.mp hy]; exact hx
theorem the_law (ns : List Int) (hn : ns.length ≤ 63) (K : PyData → Prop) (hK : K (.bool true)) : q_law (.list (ns.map .int)) K := by
  unfold q_law
  walk_at "q"
  refine ⟨by split <;> split <;> omega, ?_⟩
  refine qFor_range (fun _ _ => True) trivial (fun k s nx hk _ hnx => ?_) fun _ _ => hK
  have hk : k ≤ 64 := by
    have := hk
    revert this
    split <;> split <;> omega
  unfold qb_law_1
  refine pot_of_q ns _ (by omega) (by omega) _ fun xs hp => ?_
  refine draw_q hp (by decide) (by decide) _ fun way xs w0 w1 hp => ?_
  refine folk_b hp _ fun ships men ranks prizes xs f hp => ?_
  refine book_b f (by decide) (by decide) hp _ fun ps es xs hl hl1 up pm hp => ?_
  obtain ⟨qs, rfl, pq⟩ := map_perm pm
  refine odds_q hp _ fun os xs ho hol hp => ?_
  have qlen : qs.length = ps.length := pq.length_eq
  have qok : ∀ q ∈ qs, PgOk q := fun q hq => (up.1 q (pq.mem_iff.mp hq)).1
  have qsn : ∀ d ∈ qs.map pgD, Sn 620 7 d := fun d hd => by
    obtain ⟨q, hq, rfl⟩ := List.mem_map.mp hd
    exact pg_sn (qok q hq)
  have bsn : Sn 27000 8 (.tuple (qs.map pgD)) := (Sn.tup (n := 42) (by rw [List.length_map]; omega) qsn).mono
  have bbk := bsn.bulk
  rw [PyData.bulk] at bbk
  walk_at "q"
  rw [p5]
  refine ⟨by omega, by omega, ⟨z10, by decide, by decide⟩, ⟨z10, by decide, by decide⟩, ?_⟩
  have base : ThOk 64 (os ++ [PyData.tuple [PyData.int 0, PyData.int 7, PyData.tuple [PyData.str (Str.ofString "strike"), PyData.int 7]], PyData.tuple [PyData.int 0, PyData.int 7, PyData.tuple [PyData.str (Str.ofString "strike"), PyData.int 6]], PyData.tuple [PyData.int 0, PyData.int 0, PyData.tuple [PyData.str (Str.ofString "strike"), PyData.int 0]]] ++ [PyData.tuple [PyData.int 0, PyData.int 7, PyData.tuple [PyData.str (Str.ofString "had"), PyData.str (Str.ofString "a"), PyData.str (Str.ofString "b"), PyData.int 0]]]) := by
    refine ⟨by simp; omega, fun x hx => ?_⟩
    rcases List.mem_append.mp hx with hx | hx
    · rcases List.mem_append.mp hx with hx | hx
      · exact (ho.ok x hx).mono
      · simp only [List.mem_cons, List.not_mem_nil, or_false] at hx
        rcases hx with rfl | rfl | rfl <;> exact ⟨by decide +kernel, by decide +kernel, by decide +kernel⟩
    · rw [List.mem_singleton.mp hx]
      exact ⟨by decide +kernel, by decide +kernel, by decide +kernel⟩
  refine qFor_ind (fun k s => ThOk (64 + k) s) base (fun k d s nx2 hd hs hn2 => ?_) fun s hs => ?_
  · have hk := (List.getElem?_eq_some_iff.mp hd).1
    have hk5 : k < 5 := hk
    obtain ⟨a, b, rfl, a0, a1, b0, b1⟩ : ∃ a b : Int, d = .tuple [.int a, .int b] ∧ -10 ≤ a ∧ a ≤ 200000 ∧ -10 ≤ b ∧ b ≤ 200000 := by
      have hm := List.mem_of_getElem? hd
      simp only [List.mem_cons, List.not_mem_nil, or_false] at hm
      rcases hm with rfl | rfl | rfl | rfl | rfl <;> exact ⟨_, _, rfl, by decide, by decide, by decide, by decide⟩
    unfold qb_law_2
    walk_at "q"
    rw [p5, p6]
    have := hs.1
    refine ⟨⟨z10, by decide, by decide⟩, ⟨z10, by decide, by decide⟩, ⟨z10, by decide, by decide⟩, by omega, hn2 _ (hs.push ?_ (by omega))⟩
    have ia := sn_int (i := a) (k := 0) (by omega) (by omega)
    have ib := sn_int (i := b) (k := 0) (by omega) (by omega)
    have W : ∀ s : Str, (decide (s.length ≤ 8) && s.cps.toList.all fun c => decide (c < 16 ^ 8)) = true → Sn 8 5 (.str s) := fun s hs => (sn_word hs (k := 0)).mono
    have I : ∀ j : Int, -(10 ^ 45) ≤ j → j ≤ 10 ^ 45 → Sn 8 5 (.int j) := fun j h0 h1 => (sn_int h0 h1 (k := 0)).mono
    refine (Sn.tup (n := 3) (b := 60) (k := 6) (by simp) fun z hz => ?_).mono
    simp only [List.mem_cons, List.not_mem_nil, or_false] at hz
    rcases hz with rfl | rfl | rfl
    · exact (I _ (by omega) (by omega)).mono
    · exact (I _ (by omega) (by omega)).mono
    · refine (Sn.tup (n := 6) (b := 8) (k := 5) (by simp) fun z hz => ?_).mono
      simp only [List.mem_cons, List.not_mem_nil, or_false] at hz
      rcases hz with rfl | rfl | rfl | rfl | rfl | rfl
      · exact W _ (by decide +kernel)
      · exact W _ (by decide +kernel)
      · exact W _ (by decide +kernel)
      · exact I _ (by omega) (by omega)
      · exact I _ (by omega) (by omega)
      · exact I _ (by omega) (by omega)
  · have hs : ThOk 69 s := hs
    refine ⟨⟨by decide, by decide⟩, ?_⟩
    refine qFor_range (fun k s => MPot s.1 ∧ ThOk (69 + 3 * k) s.2) ⟨hp, hs⟩ (fun k s nx3 hk hi hn3 => ?_) fun s hi => ?_
    · obtain ⟨s1, s2⟩ := s
      obtain ⟨hp, hs⟩ := hi
      dsimp only at hp hs
      have hk : k < 16 := hk
      have m0 := Int.emod_nonneg (way + 7 * (0 + (k : Int))) (show (qs.length : Int) ≠ 0 by omega)
      have m1 := Int.emod_lt_of_pos (way + 7 * (0 + (k : Int))) (show (0 : Int) < (qs.length : Int) by omega)
      have := hs.1
      unfold qb_law_3
      walk_at "q"
      refine ⟨⟨sz_of (by decide) (by decide), sz_of (by omega) (by omega)⟩, by omega, ?_⟩
      refine pick_mem m0 (by rw [List.length_map]; exact m1) fun pg hpg => ?_
      have spg := qsn pg hpg
      have h1 := hs.push (m := 69 + 3 * k + 1) (x := pg) spg.mono (by omega)
      refine ⟨by omega, ?_⟩
      refine spoilt_q (e := 5) (by decide) ho hp spg (by decide) _ fun y xs sy hp => ?_
      have h2 := h1.push (m := 69 + 3 * k + 2) (x := y) sy.mono (by omega)
      walk_at "q"
      refine ⟨by omega, ?_⟩
      refine spoilt_q (e := 5) (by decide) ho hp sy (by decide) _ fun z xs sz hp => ?_
      walk_at "q"
      refine ⟨by simp; omega, hn3 _ ⟨hp, h2.push sz.mono (by omega)⟩⟩
    · obtain ⟨s1, s2⟩ := s
      obtain ⟨hp, hs⟩ := hi
      dsimp only at hp hs ⊢
      refine qFor_all (fun _ => True) trivial (fun d s nx4 hd _ hn4 => ?_) fun _ _ => ?_
      · have sd := hs.2 d hd
        unfold qb_law_4
        refine is_page_g d sd (by decide) _ ?_
        walk_at "q"
        refine law_is_page_w d sd (by decide) _ ?_
        cases isPg d <;> (walk_at "q"; exact hn4 _ trivial)
      · refine ⟨⟨by decide, by decide, by decide, by decide⟩, ?_⟩
        refine qLc_map (fun d => .tuple [.int 0, d, .tuple [.str "strike", .int 0]]) (by rw [range_len]; decide) (fun d hd sk yd hy => ?_) ?_
        · unfold qb_law_5
          exact hy
        · have mlen : ((rangeD 1 (61 - 1 : Int).toNat).map fun d => PyData.tuple [.int 0, d, .tuple [.str "strike", .int 0]]).length = 60 := by rw [List.length_map, range_len]; rfl
          have msn : ∀ x ∈ (rangeD 1 (61 - 1 : Int).toNat).map (fun d => PyData.tuple [.int 0, d, .tuple [.str "strike", .int 0]]), Sn 40 4 x := fun x hx => by
            obtain ⟨d, hd, rfl⟩ := List.mem_map.mp hx
            obtain ⟨j, hj⟩ := List.mem_iff_getElem?.mp hd
            obtain ⟨hj1, rfl⟩ := range_get hj
            have hj1 : j < 60 := hj1
            refine (Sn.tup (n := 3) (b := 10) (k := 3) (by simp) fun z hz => ?_).mono
            simp only [List.mem_cons, List.not_mem_nil, or_false] at hz
            rcases hz with rfl | rfl | rfl
            · exact (sn_int (k := 0) (by omega) (by omega)).mono
            · exact (sn_int (k := 0) (by omega) (by omega)).mono
            · exact ⟨by decide +kernel, by decide +kernel, by decide +kernel⟩
          generalize ((rangeD 1 (61 - 1 : Int).toNat).map fun d => PyData.tuple [.int 0, d, .tuple [.str "strike", .int 0]]) = mny at mlen msn ⊢
          have m0 := Int.emod_nonneg way (show (qs.length : Int) ≠ 0 by omega)
          have m1 := Int.emod_lt_of_pos way (show (0 : Int) < (qs.length : Int) by omega)
          have cl := @cut_len (qs.map pgD) none (some 1)
          rw [List.length_map] at cl
          refine ⟨by omega, by omega, ⟨z10, by decide, by decide⟩, by omega, ?_⟩
          refine pick_mem m0 (by rw [List.length_map]; exact m1) fun pg hpg => ?_
          obtain ⟨p, hpq, rfl⟩ := List.mem_map.mp hpg
          have po := qok p hpq
          have pn0 := po.n0
          have pn1 := po.n1
          unfold pgD
          walk_at "q"
          rw [p6, p12]
          refine ⟨⟨z10, by decide, by decide⟩, by omega, by decide, ⟨by decide, by decide⟩, ?_⟩
          have had : ∀ a b c : Int, -(10 ^ 45) ≤ a → a ≤ 10 ^ 45 → -(10 ^ 45) ≤ b → b ≤ 10 ^ 45 → -(10 ^ 45) ≤ c → c ≤ 10 ^ 45 → Sn 100 4 (.tuple [.int a, .int b, .tuple [.str "had", .str "a", .str "b", .int c]]) := fun a b c a0 a1 b0 b1 c0 c1 => by
            refine (Sn.tup (n := 3) (b := 30) (k := 3) (by simp) fun z hz => ?_).mono
            simp only [List.mem_cons, List.not_mem_nil, or_false] at hz
            rcases hz with rfl | rfl | rfl
            · exact (sn_int (k := 0) a0 a1).mono
            · exact (sn_int (k := 0) b0 b1).mono
            · refine (Sn.tup (n := 4) (b := 5) (k := 2) (by simp) fun z hz => ?_).mono
              simp only [List.mem_cons, List.not_mem_nil, or_false] at hz
              rcases hz with rfl | rfl | rfl | rfl
              · exact ⟨by decide +kernel, by decide +kernel, by decide +kernel⟩
              · exact ⟨by decide +kernel, by decide +kernel, by decide +kernel⟩
              · exact ⟨by decide +kernel, by decide +kernel, by decide +kernel⟩
              · exact (sn_int (k := 0) c0 c1).mono
          have bs : ∀ x ∈ [PyData.tuple (qs.map pgD), .tuple [], .tuple mny, .tuple (mny ++ [PyData.tuple [.int 0, .int 0, .tuple [.str "had", .str "a", .str "b", .int 1]]]), .list (qs.map pgD), .tuple (qs.map pgD ++ DL.cutD (qs.map pgD) none (some 1)), .tuple (qs.map pgD ++ [PyData.tuple [.int 1000000, .int p.n, .tuple [.str "had", .str "a", .str "b", .int 1000000000000]]])], Sn 100000 20 x := fun x hx => by
            simp only [List.mem_cons, List.not_mem_nil, or_false] at hx
            rcases hx with rfl | rfl | rfl | rfl | rfl | rfl | rfl
            · exact bsn.mono
            · exact ⟨by decide +kernel, by decide +kernel, by decide +kernel⟩
            · exact (Sn.tup (n := 60) (by omega) msn).mono
            · refine (Sn.tup (n := 61) (b := 100) (k := 4) (by simp; omega) fun z hz => ?_).mono
              rcases List.mem_append.mp hz with hz | hz
              · exact (msn z hz).mono
              · rw [List.mem_singleton.mp hz]
                exact had 0 0 1 (by decide) (by decide) (by decide) (by decide) (by decide) (by decide)
            · exact (sn_lst (b := 27000) (k := 8) (fun z hz => ⟨(qsn z hz).nb, by have := (qsn z hz).depth; omega⟩) (by decide) bbk).mono
            · refine (Sn.tup (n := 84) (b := 620) (k := 7) (by simp; omega) fun z hz => ?_).mono
              rcases List.mem_append.mp hz with hz | hz
              · exact qsn z hz
              · exact qsn z (cut_mem hz)
            · refine (Sn.tup (n := 43) (b := 620) (k := 7) (by simp; omega) fun z hz => ?_).mono
              rcases List.mem_append.mp hz with hz | hz
              · exact qsn z hz
              · rw [List.mem_singleton.mp hz]
                exact (had 1000000 p.n 1000000000000 (by decide) (by decide) (by omega) (by omega) (by decide) (by decide)).mono
          refine qFor_range (fun k s => MPot s.1 ∧ s.2.length = 7 + k ∧ ∀ x ∈ s.2, Sn 100000 20 x) ⟨hp, rfl, bs⟩ (fun k s nx5 hk hi hn5 => ?_) fun s hi => ?_
          · obtain ⟨t1, t2⟩ := s
            obtain ⟨hp, tl, ts⟩ := hi
            dsimp only at hp tl ts
            have hk : k < 6 := hk
            unfold qb_law_6
            dsimp only
            refine spoilt_q (e := 6) (by decide) ho hp bsn (by decide) _ fun y xs sy hp => ?_
            walk_at "q"
            refine ⟨by omega, hn5 _ ⟨hp, by simp; omega, fun x hx => ?_⟩⟩
            rcases List.mem_append.mp hx with hx | hx
            · exact ts x hx
            · rw [List.mem_singleton.mp hx]
              exact sy.mono
          · obtain ⟨t1, t2⟩ := s
            obtain ⟨hp, tl, ts⟩ := hi
            dsimp only at hp tl ts ⊢
            have tl : t2.length = 13 := tl
            refine ⟨by omega, ?_⟩
            refine qFor_all (fun _ => True) trivial (fun d s nx6 hd _ hn6 => ?_) fun _ _ => hnx _ trivial
            have sd : Sn 100000 20 d := by
              rcases List.mem_append.mp hd with hd | hd
              · exact ts d hd
              · exact (ho.ok d hd).mono
            unfold qb_law_7
            refine are_pages_g d sd (by decide) _ ?_
            walk_at "q"
            refine law_are_pages_w d sd (by decide) _ ?_
            cases isPgs d <;> (walk_at "q"; exact hn6 _ trivial)
section
variable {P : Program} {w : World} {K : PySem.W.Frag} {mg : Str → Option Value} {base : Heap} [SysB base] {Tb : List (Addr × Str)}
def kk_is_whole : RT → (PyData → Prop) := fun R v => R (.dat v) []
def S_is_whole : DSp := fun as Q => match as with
  | [.dat x0] => q_is_whole x0 (kk_is_whole Q)
  | _ => False
theorem len_is_whole (as : List SD) (Q : SD → List SD → Prop) (h : S_is_whole as Q) : as.length = 1 := by
  unfold S_is_whole at h
  split at h
  · rfl
  · exact h.elim
theorem cels_is_whole : CelsIn 0 S_is_whole := by
  intro as Q h i p xs e
  unfold S_is_whole at h
  split at h
  · exact absurd e (no_cel (ds := [_]) i p xs)
  · exact h.elim
def N_is_whole : List Str := ["thing"]
theorem sc_is_whole : FnScope N_is_whole ["thing"] (defScope (top 1)) := ⟨rfl, rfl, rfl, by decide +kernel, rfl, by decide +kernel, by decide +kernel⟩
theorem fg_is_whole (T : Tp K mg)  {fd : FuncData} (Fn : Fun K "is_whole" "is_whole" (top 1) (He.ga K "is_whole") fd) : FnG P w K mg base Tb 1 (He.ga K "is_whole") fd ["thing"] S_is_whole := by
  refine dfn 0 Fn sc_is_whole len_is_whole cels_is_whole fun cdv A outer s H hr hA => ⟨_, (sone (sret (m := 0) (dx (dandV (disi "int" "int" (m_isinstance T) (m_int T) (by decide +kernel) (by decide +kernel) (dv 0)) (done (dnotV (disi "bool" "bool" (m_isinstance T) (m_bool T) (by decide +kernel) (by decide +kernel) (dv 0)))))))), fun as Q h => ?_⟩
  unfold S_is_whole at h
  split at h
  · unfold q_is_whole at h
    rename_i x0
    refine at_env (b := [.dat x0]) rfl ?_
    exact Eq.mp (by kernel_rfl) h
  · exact h.elim
theorem ok_is_whole (T : Tp K mg)  : Dn P w K mg base Tb "is_whole" 1 ["thing"] S_is_whole := by
  obtain ⟨kV, doc, pm, an, cdv, ct, Fn⟩ := T.fun_ "is_whole" (top 1) 0 80
  exact ⟨⟨_, fg_is_whole T  Fn, Fn.binds (ps := ["thing"]) fun _ _ _ _ _ _ us hl => match us, hl with | [_], _ => rfl⟩, T.glo "is_whole" 33, T.keep "is_whole" 80⟩
def kk_is_within : RT → (PyData → Prop) := fun R v => R (.dat v) []
def S_is_within : DSp := fun as Q => match as with
  | [.dat x0, .dat x1, .dat x2] => q_is_within x0 x1 x2 (kk_is_within Q)
  | _ => False
theorem len_is_within (as : List SD) (Q : SD → List SD → Prop) (h : S_is_within as Q) : as.length = 3 := by
  unfold S_is_within at h
  split at h
  · rfl
  · exact h.elim
theorem cels_is_within : CelsIn 0 S_is_within := by
  intro as Q h i p xs e
  unfold S_is_within at h
  split at h
  · exact absurd e (no_cel (ds := [_, _, _]) i p xs)
  · exact h.elim
def N_is_within : List Str := ["thing", "least", "most"]
theorem sc_is_within : FnScope N_is_within ["thing", "least", "most"] (defScope (top 2)) := ⟨rfl, rfl, rfl, by decide +kernel, rfl, by decide +kernel, by decide +kernel⟩
theorem fg_is_within (T : Tp K mg) (D_is_whole : Dn P w K mg base Tb "is_whole" 1 ["thing"] S_is_whole) {fd : FuncData} (Fn : Fun K "is_within" "is_within" (top 2) (He.ga K "is_within") fd) : FnG P w K mg base Tb 2 (He.ga K "is_within") fd ["thing", "least", "most"] S_is_within := by
  refine dfn 0 Fn sc_is_within len_is_within cels_is_within fun cdv A outer s H hr hA => ⟨_, (sone (sret (m := 0) (dx (dandV (dfrz (dcn D_is_whole (hr.mono (by decide)) hA (acons (dv 0) anil))) (done (dchain op_le op_le opr_le opr_le (dv 1) (dv 0) (dv 2))))))), fun as Q h => ?_⟩
  unfold S_is_within at h
  split at h
  · unfold q_is_within at h
    rename_i x0 x1 x2
    refine at_env (b := [.dat x0, .dat x1, .dat x2]) rfl ?_
    exact Eq.mp (by kernel_rfl) h
  · exact h.elim
theorem ok_is_within (T : Tp K mg) (D_is_whole : Dn P w K mg base Tb "is_whole" 1 ["thing"] S_is_whole) : Dn P w K mg base Tb "is_within" 2 ["thing", "least", "most"] S_is_within := by
  obtain ⟨kV, doc, pm, an, cdv, ct, Fn⟩ := T.fun_ "is_within" (top 2) 1 81
  exact ⟨⟨_, fg_is_within T D_is_whole Fn, Fn.binds (ps := ["thing", "least", "most"]) fun _ _ _ _ _ _ us hl => match us, hl with | [_, _, _], _ => rfl⟩, T.glo "is_within" 34, T.keep "is_within" 81⟩
def kk_are_wholes : RT → (PyData → Prop) := fun R v => R (.dat v) []
def em_are_wholes_1 (i : PyData × PyData) (s : Unit) : List SD := [.dat i.1, .dat i.2, .un]
def de_are_wholes_1 : List SD → Option ((PyData × PyData) × (Unit))
  | [.dat x0, .dat x1, .un] => some ((x0, x1), ())
  | _ => none
theorem hde_are_wholes_1 : ∀ env i s, de_are_wholes_1 env = some (i, s) → env = em_are_wholes_1 i s := by
  intro env i s h
  unfold de_are_wholes_1 at h
  split at h
  · cases h; rfl
  · cases h
def S_are_wholes : DSp := fun as Q => match as with
  | [.dat x0, .dat x1] => q_are_wholes x0 x1 (kk_are_wholes Q)
  | _ => False
theorem len_are_wholes (as : List SD) (Q : SD → List SD → Prop) (h : S_are_wholes as Q) : as.length = 2 := by
  unfold S_are_wholes at h
  split at h
  · rfl
  · exact h.elim
theorem cels_are_wholes : CelsIn 0 S_are_wholes := by
  intro as Q h i p xs e
  unfold S_are_wholes at h
  split at h
  · exact absurd e (no_cel (ds := [_, _]) i p xs)
  · exact h.elim
def N_are_wholes : List Str := ["thing", "many", "number"]
theorem sc_are_wholes : FnScope N_are_wholes ["thing", "many"] (defScope (top 3)) := ⟨rfl, rfl, rfl, by decide +kernel, rfl, by decide +kernel, by decide +kernel⟩
theorem fg_are_wholes (T : Tp K mg) (D_is_whole : Dn P w K mg base Tb "is_whole" 1 ["thing"] S_is_whole) {fd : FuncData} (Fn : Fun K "are_wholes" "are_wholes" (top 3) (He.ga K "are_wholes") fd) : FnG P w K mg base Tb 2 (He.ga K "are_wholes") fd ["thing", "many"] S_are_wholes := by
  refine dfn 0 Fn sc_are_wholes len_are_wholes cels_are_wholes fun cdv A outer s H hr hA => ⟨_, (sone (sret (m := 0) (dx (dandV (disi "tuple" "tuple" (m_isinstance T) (m_tuple T) (by decide +kernel) (by decide +kernel) (dv 0)) (dandV (dcmp (op_eqE hr.units) opd_eq (dlen (m_len T) (acons (dv 0) anil)) (dv 1) (nomark _)) (done (dall (m_all T) rfl (acons (dfrz (dlc (dec := de_are_wholes_1) (emb := em_are_wholes_1) (qb := qb_are_wholes_1) [("number", 2)] (.one 2) hde_are_wholes_1 rfl sc_are_wholes.nd (iseq (dv 0)) (blkOk_by (own := [("number", 2)]) (N := N_are_wholes) (sc := defScope (top 3)) (by decide +kernel)) (fun _ _ _ _ _ => pg_name (i := 2) sc_are_wholes.nd rfl (Or.inl rfl)) (fun _ _ _ _ _ => tyes) (fun _ _ _ _ _ => (dfrz (dcn D_is_whole (hr.mono (by decide)) hA (acons (dv 2) anil)))) (fun d i s sk yd h => Eq.mp (by kernel_rfl) h))) anil)))))))), fun as Q h => ?_⟩
  unfold S_are_wholes at h
  split at h
  · unfold q_are_wholes at h
    rename_i x0 x1
    refine at_env (b := [.dat x0, .dat x1, .un]) rfl ?_
    exact Eq.mp (by kernel_rfl) h
  · exact h.elim
theorem ok_are_wholes (T : Tp K mg) (D_is_whole : Dn P w K mg base Tb "is_whole" 1 ["thing"] S_is_whole) : Dn P w K mg base Tb "are_wholes" 2 ["thing", "many"] S_are_wholes := by
  obtain ⟨kV, doc, pm, an, cdv, ct, Fn⟩ := T.fun_ "are_wholes" (top 3) 2 82
  exact ⟨⟨_, fg_are_wholes T D_is_whole Fn, Fn.binds (ps := ["thing", "many"]) fun _ _ _ _ _ _ us hl => match us, hl with | [_, _], _ => rfl⟩, T.glo "are_wholes" 35, T.keep "are_wholes" 82⟩
def kk_divisor_of : RT → (PyData → Prop) := fun R v => R (.dat v) []
def em_divisor_of_1 (i : Unit) (s : PyData × PyData) : List SD := [.dat s.1, .dat s.2]
def de_divisor_of_1 : List SD → Option ((Unit) × (PyData × PyData))
  | [.dat x0, .dat x1] => some ((), (x0, x1))
  | _ => none
theorem hde_divisor_of_1 : ∀ env i s, de_divisor_of_1 env = some (i, s) → env = em_divisor_of_1 i s := by
  intro env i s h
  unfold de_divisor_of_1 at h
  split at h
  · cases h; rfl
  · cases h
def S_divisor_of : DSp := fun as Q => match as with
  | [.dat x0, .dat x1] => q_divisor_of x0 x1 (kk_divisor_of Q)
  | _ => False
theorem len_divisor_of (as : List SD) (Q : SD → List SD → Prop) (h : S_divisor_of as Q) : as.length = 2 := by
  unfold S_divisor_of at h
  split at h
  · rfl
  · exact h.elim
theorem cels_divisor_of : CelsIn 0 S_divisor_of := by
  intro as Q h i p xs e
  unfold S_divisor_of at h
  split at h
  · exact absurd e (no_cel (ds := [_, _]) i p xs)
  · exact h.elim
def N_divisor_of : List Str := ["one", "other"]
theorem sc_divisor_of : FnScope N_divisor_of ["one", "other"] (defScope (top 4)) := ⟨rfl, rfl, rfl, by decide +kernel, rfl, by decide +kernel, by decide +kernel⟩
theorem fg_divisor_of (T : Tp K mg)  {fd : FuncData} (Fn : Fun K "divisor_of" "divisor_of" (top 4) (He.ga K "divisor_of") fd) : FnG P w K mg base Tb 1 (He.ga K "divisor_of") fd ["one", "other"] S_divisor_of := by
  refine dfn 0 Fn sc_divisor_of len_divisor_of cels_divisor_of fun cdv A outer s H hr hA => ⟨_, (scons (spar 0 1 rfl sc_divisor_of.nd (acons (dabs (m_abs T) (acons (dv 0) anil)) (acons (dabs (m_abs T) (acons (dv 1) anil)) anil))) (scons (swhileQ [] de_divisor_of_1 em_divisor_of_1 kk_divisor_of qb_divisor_of_1 hde_divisor_of_1 PassesOwn.never (dcmpT op_gt opr_gt (dv 1) di (nomark _)) (sone (spar 0 1 rfl sc_divisor_of.nd (acons (dv 1) (acons (dmod (dv 0) (dv 1)) anil)))) (fun R i s nx bk h => Eq.mp (by kernel_rfl) h)) (sone (sret (m := 0) (dx (dv 0)))))), fun as Q h => ?_⟩
  unfold S_divisor_of at h
  split at h
  · unfold q_divisor_of at h
    rename_i x0 x1
    refine at_env (b := [.dat x0, .dat x1]) rfl ?_
    exact Eq.mp (by kernel_rfl) h
  · exact h.elim
theorem ok_divisor_of (T : Tp K mg)  : Dn P w K mg base Tb "divisor_of" 1 ["one", "other"] S_divisor_of := by
  obtain ⟨kV, doc, pm, an, cdv, ct, Fn⟩ := T.fun_ "divisor_of" (top 4) 3 83
  exact ⟨⟨_, fg_divisor_of T  Fn, Fn.binds (ps := ["one", "other"]) fun _ _ _ _ _ _ us hl => match us, hl with | [_, _], _ => rfl⟩, T.glo "divisor_of" 36, T.keep "divisor_of" 83⟩
def kk_is_fraction : RT → (PyData → Prop) := fun R v => R (.dat v) []
def S_is_fraction : DSp := fun as Q => match as with
  | [.dat x0] => q_is_fraction x0 (kk_is_fraction Q)
  | _ => False
theorem len_is_fraction (as : List SD) (Q : SD → List SD → Prop) (h : S_is_fraction as Q) : as.length = 1 := by
  unfold S_is_fraction at h
  split at h
  · rfl
  · exact h.elim
theorem cels_is_fraction : CelsIn 0 S_is_fraction := by
  intro as Q h i p xs e
  unfold S_is_fraction at h
  split at h
  · exact absurd e (no_cel (ds := [_]) i p xs)
  · exact h.elim
def N_is_fraction : List Str := ["thing"]
theorem sc_is_fraction : FnScope N_is_fraction ["thing"] (defScope (top 5)) := ⟨rfl, rfl, rfl, by decide +kernel, rfl, by decide +kernel, by decide +kernel⟩
theorem fg_is_fraction (T : Tp K mg) (D_are_wholes : Dn P w K mg base Tb "are_wholes" 2 ["thing", "many"] S_are_wholes) (D_divisor_of : Dn P w K mg base Tb "divisor_of" 1 ["one", "other"] S_divisor_of) {fd : FuncData} (Fn : Fun K "is_fraction" "is_fraction" (top 5) (He.ga K "is_fraction") fd) : FnG P w K mg base Tb 3 (He.ga K "is_fraction") fd ["thing"] S_is_fraction := by
  refine dfn 0 Fn sc_is_fraction len_is_fraction cels_is_fraction fun cdv A outer s H hr hA => ⟨_, (sone (sret (m := 0) (dx (dandV (dfrz (dcn D_are_wholes (hr.mono (by decide)) hA (acons (dv 0) (acons di anil)))) (dandV (dcmp op_gt opr_gt (dixP (dv 0) di) di (nomark _)) (done (dcmp (op_eqE hr.units) opd_eq (dfrz (dcn D_divisor_of (hr.mono (by decide)) hA (acons (dixP (dv 0) di) (acons (dixP (dv 0) di) anil)))) di (nomark _)))))))), fun as Q h => ?_⟩
  unfold S_is_fraction at h
  split at h
  · unfold q_is_fraction at h
    rename_i x0
    refine at_env (b := [.dat x0]) rfl ?_
    exact Eq.mp (by kernel_rfl) h
  · exact h.elim
theorem ok_is_fraction (T : Tp K mg) (D_are_wholes : Dn P w K mg base Tb "are_wholes" 2 ["thing", "many"] S_are_wholes) (D_divisor_of : Dn P w K mg base Tb "divisor_of" 1 ["one", "other"] S_divisor_of) : Dn P w K mg base Tb "is_fraction" 3 ["thing"] S_is_fraction := by
  obtain ⟨kV, doc, pm, an, cdv, ct, Fn⟩ := T.fun_ "is_fraction" (top 5) 4 84
  exact ⟨⟨_, fg_is_fraction T D_are_wholes D_divisor_of Fn, Fn.binds (ps := ["thing"]) fun _ _ _ _ _ _ us hl => match us, hl with | [_], _ => rfl⟩, T.glo "is_fraction" 37, T.keep "is_fraction" 84⟩
def kk_is_hour_tracks : RT → (PyData → Prop) := fun R v => R (.dat v) []
def S_is_hour_tracks : DSp := fun as Q => match as with
  | [.dat x0] => q_is_hour_tracks x0 (kk_is_hour_tracks Q)
  | _ => False
theorem len_is_hour_tracks (as : List SD) (Q : SD → List SD → Prop) (h : S_is_hour_tracks as Q) : as.length = 1 := by
  unfold S_is_hour_tracks at h
  split at h
  · rfl
  · exact h.elim
theorem cels_is_hour_tracks : CelsIn 0 S_is_hour_tracks := by
  intro as Q h i p xs e
  unfold S_is_hour_tracks at h
  split at h
  · exact absurd e (no_cel (ds := [_]) i p xs)
  · exact h.elim
def N_is_hour_tracks : List Str := ["thing"]
theorem sc_is_hour_tracks : FnScope N_is_hour_tracks ["thing"] (defScope (top 10)) := ⟨rfl, rfl, rfl, by decide +kernel, rfl, by decide +kernel, by decide +kernel⟩
theorem fg_is_hour_tracks (T : Tp K mg) (D_is_whole : Dn P w K mg base Tb "is_whole" 1 ["thing"] S_is_whole) {fd : FuncData} (Fn : Fun K "is_hour" "is_hour" (top 10) (He.ga K "is_hour_tracks") fd) : FnG P w K mg base Tb 2 (He.ga K "is_hour_tracks") fd ["thing"] S_is_hour_tracks := by
  refine dfn 0 Fn sc_is_hour_tracks len_is_hour_tracks cels_is_hour_tracks fun cdv A outer s H hr hA => ⟨_, (sone (sret (m := 0) (dx (dandV (dfrz (dcn D_is_whole (hr.mono (by decide)) hA (acons (dv 0) anil))) (done (dchain op_le op_le opr_le opr_le di (dv 0) (dnum (c_LAST_HOUR T)))))))), fun as Q h => ?_⟩
  unfold S_is_hour_tracks at h
  split at h
  · unfold q_is_hour_tracks at h
    rename_i x0
    refine at_env (b := [.dat x0]) rfl ?_
    exact Eq.mp (by kernel_rfl) h
  · exact h.elim
theorem ok_is_hour_tracks (T : Tp K mg) (D_is_whole : Dn P w K mg base Tb "is_whole" 1 ["thing"] S_is_whole) : Dn P w K mg base Tb "is_hour_tracks" 2 ["thing"] S_is_hour_tracks := by
  obtain ⟨kV, doc, pm, an, cdv, ct, Fn⟩ := T.funA "is_hour_tracks" "is_hour" (top 10) 5 85
  exact ⟨⟨_, fg_is_hour_tracks T D_is_whole Fn, Fn.binds (ps := ["thing"]) fun _ _ _ _ _ _ us hl => match us, hl with | [_], _ => rfl⟩, T.glo "is_hour_tracks" 38, T.keep "is_hour_tracks" 85⟩
def kk_is_log_row : RT → (PyData → Prop) := fun R v => R (.dat v) []
def em_is_log_row_1 (i : PyData) (s : Unit) : List SD := [.dat i, .un]
def de_is_log_row_1 : List SD → Option ((PyData) × (Unit))
  | [.dat x0, .un] => some (x0, ())
  | _ => none
theorem hde_is_log_row_1 : ∀ env i s, de_is_log_row_1 env = some (i, s) → env = em_is_log_row_1 i s := by
  intro env i s h
  unfold de_is_log_row_1 at h
  split at h
  · cases h; rfl
  · cases h
def S_is_log_row : DSp := fun as Q => match as with
  | [.dat x0] => q_is_log_row x0 (kk_is_log_row Q)
  | _ => False
theorem len_is_log_row (as : List SD) (Q : SD → List SD → Prop) (h : S_is_log_row as Q) : as.length = 1 := by
  unfold S_is_log_row at h
  split at h
  · rfl
  · exact h.elim
theorem cels_is_log_row : CelsIn 0 S_is_log_row := by
  intro as Q h i p xs e
  unfold S_is_log_row at h
  split at h
  · exact absurd e (no_cel (ds := [_]) i p xs)
  · exact h.elim
def N_is_log_row : List Str := ["thing", "number"]
theorem sc_is_log_row : FnScope N_is_log_row ["thing"] (defScope (top 12)) := ⟨rfl, rfl, rfl, by decide +kernel, rfl, by decide +kernel, by decide +kernel⟩
theorem fg_is_log_row (T : Tp K mg) (D_is_hour_tracks : Dn P w K mg base Tb "is_hour_tracks" 2 ["thing"] S_is_hour_tracks) (D_is_whole : Dn P w K mg base Tb "is_whole" 1 ["thing"] S_is_whole) {fd : FuncData} (Fn : Fun K "is_log_row" "is_log_row" (top 12) (He.ga K "is_log_row") fd) : FnG P w K mg base Tb 3 (He.ga K "is_log_row") fd ["thing"] S_is_log_row := by
  refine dfn 0 Fn sc_is_log_row len_is_log_row cels_is_log_row fun cdv A outer s H hr hA => ⟨_, (scons (sif (tor (tnot (dtest (disi "tuple" "tuple" (m_isinstance T) (m_tuple T) (by decide +kernel) (by decide +kernel) (dv 0)))) (tor (dcmpT (op_neE hr.units) opd_ne (dlen (m_len T) (acons (dv 0) anil)) di (nomark _)) (tor1 (tnot (dtest (dfrz (dcn D_is_hour_tracks (hr.mono (by decide)) hA (acons (dixP (dv 0) di) anil)))))))).pt (sone (sret (m := 0) (dx db))) snil) (sone (sret (m := 0) (dx (dall (m_all T) rfl (acons (dfrz (dlc (dec := de_is_log_row_1) (emb := em_is_log_row_1) (qb := qb_is_log_row_1) [("number", 1)] (.one 1) hde_is_log_row_1 rfl sc_is_log_row.nd (iseq (dsl (dv 0) (so_some di) so_none)) (blkOk_by (own := [("number", 1)]) (N := N_is_log_row) (sc := defScope (top 12)) (by decide +kernel)) (fun _ _ _ _ _ => pg_name (i := 1) sc_is_log_row.nd rfl (Or.inl rfl)) (fun _ _ _ _ _ => tyes) (fun _ _ _ _ _ => (dandV (dfrz (dcn D_is_whole (hr.mono (by decide)) hA (acons (dv 1) anil))) (done (dcmp op_le opr_le (dabs (m_abs T) (acons (dv 1) anil)) (dnum (c_FARTHEST T)) (nomark _))))) (fun d i s sk yd h => Eq.mp (by kernel_rfl) h))) anil)))))), fun as Q h => ?_⟩
  unfold S_is_log_row at h
  split at h
  · unfold q_is_log_row at h
    rename_i x0
    refine at_env (b := [.dat x0, .un]) rfl ?_
    exact Eq.mp (by kernel_rfl) h
  · exact h.elim
theorem ok_is_log_row (T : Tp K mg) (D_is_hour_tracks : Dn P w K mg base Tb "is_hour_tracks" 2 ["thing"] S_is_hour_tracks) (D_is_whole : Dn P w K mg base Tb "is_whole" 1 ["thing"] S_is_whole) : Dn P w K mg base Tb "is_log_row" 3 ["thing"] S_is_log_row := by
  obtain ⟨kV, doc, pm, an, cdv, ct, Fn⟩ := T.fun_ "is_log_row" (top 12) 6 86
  exact ⟨⟨_, fg_is_log_row T D_is_hour_tracks D_is_whole Fn, Fn.binds (ps := ["thing"]) fun _ _ _ _ _ _ us hl => match us, hl with | [_], _ => rfl⟩, T.glo "is_log_row" 39, T.keep "is_log_row" 86⟩
def kk_is_log : RT → (PyData → Prop) := fun R v => R (.dat v) []
def em_is_log_1 (i : PyData) (s : Unit) : List SD := [.dat i, .un, .un, .un]
def de_is_log_1 : List SD → Option ((PyData) × (Unit))
  | [.dat x0, .un, .un, .un] => some (x0, ())
  | _ => none
theorem hde_is_log_1 : ∀ env i s, de_is_log_1 env = some (i, s) → env = em_is_log_1 i s := by
  intro env i s h
  unfold de_is_log_1 at h
  split at h
  · cases h; rfl
  · cases h
def em_is_log_2 (i : PyData) (s : Unit) : List SD := [.dat i, .un, .un, .un]
def de_is_log_2 : List SD → Option ((PyData) × (Unit))
  | [.dat x0, .un, .un, .un] => some (x0, ())
  | _ => none
theorem hde_is_log_2 : ∀ env i s, de_is_log_2 env = some (i, s) → env = em_is_log_2 i s := by
  intro env i s h
  unfold de_is_log_2 at h
  split at h
  · cases h; rfl
  · cases h
def S_is_log : DSp := fun as Q => match as with
  | [.dat x0] => q_is_log x0 (kk_is_log Q)
  | _ => False
theorem len_is_log (as : List SD) (Q : SD → List SD → Prop) (h : S_is_log as Q) : as.length = 1 := by
  unfold S_is_log at h
  split at h
  · rfl
  · exact h.elim
theorem cels_is_log : CelsIn 0 S_is_log := by
  intro as Q h i p xs e
  unfold S_is_log at h
  split at h
  · exact absurd e (no_cel (ds := [_]) i p xs)
  · exact h.elim
def N_is_log : List Str := ["thing", "row", "one", "other"]
theorem sc_is_log : FnScope N_is_log ["thing"] (defScope (top 13)) := ⟨rfl, rfl, rfl, by decide +kernel, rfl, by decide +kernel, by decide +kernel⟩
theorem fg_is_log (T : Tp K mg) (D_is_log_row : Dn P w K mg base Tb "is_log_row" 3 ["thing"] S_is_log_row) {fd : FuncData} (Fn : Fun K "is_log" "is_log" (top 13) (He.ga K "is_log") fd) : FnG P w K mg base Tb 4 (He.ga K "is_log") fd ["thing"] S_is_log := by
  refine dfn 0 Fn sc_is_log len_is_log cels_is_log fun cdv A outer s H hr hA => ⟨_, (scons (sif (tor (tnot (dtest (disi "tuple" "tuple" (m_isinstance T) (m_tuple T) (by decide +kernel) (by decide +kernel) (dv 0)))) (tor (tnot (dchainT op_le op_le opr_le opr_le di (dlen (m_len T) (acons (dv 0) anil)) (dnum (c_MOST_ROWS T)))) (tor1 (tnot (dtest (dall (m_all T) rfl (acons (dfrz (dlc (dec := de_is_log_1) (emb := em_is_log_1) (qb := qb_is_log_1) [("row", 1)] (.one 1) hde_is_log_1 rfl sc_is_log.nd (iseq (dv 0)) (blkOk_by (own := [("row", 1)]) (N := N_is_log) (sc := defScope (top 13)) (by decide +kernel)) (fun _ _ _ _ _ => pg_name (i := 1) sc_is_log.nd rfl (Or.inl rfl)) (fun _ _ _ _ _ => tyes) (fun _ _ _ _ _ => (dfrz (dcn D_is_log_row (hr.mono (by decide)) hA (acons (dv 1) anil)))) (fun d i s sk yd h => Eq.mp (by kernel_rfl) h))) anil))))))).pt (sone (sret (m := 0) (dx db))) snil) (sone (sret (m := 0) (dx (dall (m_all T) rfl (acons (dfrz (dlc (dec := de_is_log_2) (emb := em_is_log_2) (qb := qb_is_log_2) [("one", 2), ("other", 3)] (.tup [2, 3]) hde_is_log_2 rfl sc_is_log.nd (izip (m_zip T) (acons (dv 0) (acons (dsl (dv 0) (so_some di) so_none) anil))) (blkOk_by (own := [("one", 2), ("other", 3)]) (N := N_is_log) (sc := defScope (top 13)) (by decide +kernel)) (fun _ _ _ _ _ => pg_tup rfl (pgs_cons (pg_name (i := 2) sc_is_log.nd rfl (Or.inl rfl)) (pgs_cons (pg_name (i := 3) sc_is_log.nd rfl (Or.inl rfl)) pgs_nil))) (fun _ _ _ _ _ => tyes) (fun _ _ _ _ _ => (dcmp op_ltA opr_ltA (dixP (dv 2) di) (dixP (dv 3) di) (nomark _))) (fun d i s sk yd h => Eq.mp (by kernel_rfl) h))) anil)))))), fun as Q h => ?_⟩
  unfold S_is_log at h
  split at h
  · unfold q_is_log at h
    rename_i x0
    refine at_env (b := [.dat x0, .un, .un, .un]) rfl ?_
    exact Eq.mp (by kernel_rfl) h
  · exact h.elim
theorem ok_is_log (T : Tp K mg) (D_is_log_row : Dn P w K mg base Tb "is_log_row" 3 ["thing"] S_is_log_row) : Dn P w K mg base Tb "is_log" 4 ["thing"] S_is_log := by
  obtain ⟨kV, doc, pm, an, cdv, ct, Fn⟩ := T.fun_ "is_log" (top 13) 7 87
  exact ⟨⟨_, fg_is_log T D_is_log_row Fn, Fn.binds (ps := ["thing"]) fun _ _ _ _ _ _ us hl => match us, hl with | [_], _ => rfl⟩, T.glo "is_log" 40, T.keep "is_log" 87⟩
def kk_is_name : RT → (PyData → Prop) := fun R v => R (.dat v) []
def em_is_name_1 (i : PyData) (s : Unit) : List SD := [.dat i, .un]
def de_is_name_1 : List SD → Option ((PyData) × (Unit))
  | [.dat x0, .un] => some (x0, ())
  | _ => none
theorem hde_is_name_1 : ∀ env i s, de_is_name_1 env = some (i, s) → env = em_is_name_1 i s := by
  intro env i s h
  unfold de_is_name_1 at h
  split at h
  · cases h; rfl
  · cases h
def S_is_name : DSp := fun as Q => match as with
  | [.dat x0] => q_is_name x0 (kk_is_name Q)
  | _ => False
theorem len_is_name (as : List SD) (Q : SD → List SD → Prop) (h : S_is_name as Q) : as.length = 1 := by
  unfold S_is_name at h
  split at h
  · rfl
  · exact h.elim
theorem cels_is_name : CelsIn 0 S_is_name := by
  intro as Q h i p xs e
  unfold S_is_name at h
  split at h
  · exact absurd e (no_cel (ds := [_]) i p xs)
  · exact h.elim
def N_is_name : List Str := ["thing", "sign"]
theorem sc_is_name : FnScope N_is_name ["thing"] (defScope (top 17)) := ⟨rfl, rfl, rfl, by decide +kernel, rfl, by decide +kernel, by decide +kernel⟩
theorem fg_is_name (T : Tp K mg)  {fd : FuncData} (Fn : Fun K "is_name" "is_name" (top 17) (He.ga K "is_name") fd) : FnG P w K mg base Tb 1 (He.ga K "is_name") fd ["thing"] S_is_name := by
  refine dfn 0 Fn sc_is_name len_is_name cels_is_name fun cdv A outer s H hr hA => ⟨_, (scons (sif (tor (tnot (dtest (disi "str" "str" (m_isinstance T) (m_str T) (by decide +kernel) (by decide +kernel) (dv 0)))) (tor1 (tnot (dchainT op_le op_le opr_le opr_le di (dlen (m_len T) (acons (dv 0) anil)) (dnum (c_MOST_SIGNS T)))))).pt (sone (sret (m := 0) (dx db))) snil) (sone (sret (m := 0) (dx (dall (m_all T) rfl (acons (dfrz (dlc (dec := de_is_name_1) (emb := em_is_name_1) (qb := qb_is_name_1) [("sign", 1)] (.one 1) hde_is_name_1 rfl sc_is_name.nd (iseq (dv 0)) (blkOk_by (own := [("sign", 1)]) (N := N_is_name) (sc := defScope (top 17)) (by decide +kernel)) (fun _ _ _ _ _ => pg_name (i := 1) sc_is_name.nd rfl (Or.inl rfl)) (fun _ _ _ _ _ => tyes) (fun _ _ _ _ _ => (din hr (dv 1) (dtxt (cs_LETTERS T)))) (fun d i s sk yd h => Eq.mp (by kernel_rfl) h))) anil)))))), fun as Q h => ?_⟩
  unfold S_is_name at h
  split at h
  · unfold q_is_name at h
    rename_i x0
    refine at_env (b := [.dat x0, .un]) rfl ?_
    exact Eq.mp (by kernel_rfl) h
  · exact h.elim
theorem ok_is_name (T : Tp K mg)  : Dn P w K mg base Tb "is_name" 1 ["thing"] S_is_name := by
  obtain ⟨kV, doc, pm, an, cdv, ct, Fn⟩ := T.fun_ "is_name" (top 17) 8 88
  exact ⟨⟨_, fg_is_name T  Fn, Fn.binds (ps := ["thing"]) fun _ _ _ _ _ _ us hl => match us, hl with | [_], _ => rfl⟩, T.glo "is_name" 41, T.keep "is_name" 88⟩
def kk_are_heads : RT → (PyData → Prop) := fun R v => R (.dat v) []
def em_are_heads_1 (i : PyData) (s : Unit) : List SD := [.dat i, .un, .un]
def de_are_heads_1 : List SD → Option ((PyData) × (Unit))
  | [.dat x0, .un, .un] => some (x0, ())
  | _ => none
theorem hde_are_heads_1 : ∀ env i s, de_are_heads_1 env = some (i, s) → env = em_are_heads_1 i s := by
  intro env i s h
  unfold de_are_heads_1 at h
  split at h
  · cases h; rfl
  · cases h
def S_are_heads : DSp := fun as Q => match as with
  | [.dat x0, .dat x1] => q_are_heads x0 x1 (kk_are_heads Q)
  | _ => False
theorem len_are_heads (as : List SD) (Q : SD → List SD → Prop) (h : S_are_heads as Q) : as.length = 2 := by
  unfold S_are_heads at h
  split at h
  · rfl
  · exact h.elim
theorem cels_are_heads : CelsIn 0 S_are_heads := by
  intro as Q h i p xs e
  unfold S_are_heads at h
  split at h
  · exact absurd e (no_cel (ds := [_, _]) i p xs)
  · exact h.elim
def N_are_heads : List Str := ["thing", "many", "head"]
theorem sc_are_heads : FnScope N_are_heads ["thing", "many"] (defScope (top 22)) := ⟨rfl, rfl, rfl, by decide +kernel, rfl, by decide +kernel, by decide +kernel⟩
theorem fg_are_heads (T : Tp K mg) (D_is_whole : Dn P w K mg base Tb "is_whole" 1 ["thing"] S_is_whole) {fd : FuncData} (Fn : Fun K "are_heads" "are_heads" (top 22) (He.ga K "are_heads") fd) : FnG P w K mg base Tb 2 (He.ga K "are_heads") fd ["thing", "many"] S_are_heads := by
  refine dfn 0 Fn sc_are_heads len_are_heads cels_are_heads fun cdv A outer s H hr hA => ⟨_, (scons (sif (tor (tnot (dtest (disi "tuple" "tuple" (m_isinstance T) (m_tuple T) (by decide +kernel) (by decide +kernel) (dv 0)))) (tor1 (dcmpT (op_neE hr.units) opd_ne (dlen (m_len T) (acons (dv 0) anil)) (dv 1) (nomark _)))).pt (sone (sret (m := 0) (dx db))) snil) (ssforget [1] (sone (sret (m := 0) (dx (dall (m_all T) rfl (acons (dfrz (dlc (dec := de_are_heads_1) (emb := em_are_heads_1) (qb := qb_are_heads_1) [("head", 2)] (.one 2) hde_are_heads_1 rfl sc_are_heads.nd (iseq (dv 0)) (blkOk_by (own := [("head", 2)]) (N := N_are_heads) (sc := defScope (top 22)) (by decide +kernel)) (fun _ _ _ _ _ => pg_name (i := 2) sc_are_heads.nd rfl (Or.inl rfl)) (fun _ _ _ _ _ => tyes) (fun _ _ _ _ _ => (dandV (dfrz (dcn D_is_whole (hr.mono (by decide)) hA (acons (dv 2) anil))) (done (dcmp op_ge opr_ge (dv 2) di (nomark _))))) (fun d i s sk yd h => Eq.mp (by kernel_rfl) h))) anil))))))), fun as Q h => ?_⟩
  unfold S_are_heads at h
  split at h
  · unfold q_are_heads at h
    rename_i x0 x1
    refine at_env (b := [.dat x0, .dat x1, .un]) rfl ?_
    exact Eq.mp (by kernel_rfl) h
  · exact h.elim
theorem ok_are_heads (T : Tp K mg) (D_is_whole : Dn P w K mg base Tb "is_whole" 1 ["thing"] S_is_whole) : Dn P w K mg base Tb "are_heads" 2 ["thing", "many"] S_are_heads := by
  obtain ⟨kV, doc, pm, an, cdv, ct, Fn⟩ := T.fun_ "are_heads" (top 22) 9 89
  exact ⟨⟨_, fg_are_heads T D_is_whole Fn, Fn.binds (ps := ["thing", "many"]) fun _ _ _ _ _ _ us hl => match us, hl with | [_, _], _ => rfl⟩, T.glo "are_heads" 42, T.keep "are_heads" 89⟩
def kk_are_eighths : RT → (PyData → Prop) := fun R v => R (.dat v) []
def S_are_eighths : DSp := fun as Q => match as with
  | [.dat x0] => q_are_eighths x0 (kk_are_eighths Q)
  | _ => False
theorem len_are_eighths (as : List SD) (Q : SD → List SD → Prop) (h : S_are_eighths as Q) : as.length = 1 := by
  unfold S_are_eighths at h
  split at h
  · rfl
  · exact h.elim
theorem cels_are_eighths : CelsIn 0 S_are_eighths := by
  intro as Q h i p xs e
  unfold S_are_eighths at h
  split at h
  · exact absurd e (no_cel (ds := [_]) i p xs)
  · exact h.elim
def N_are_eighths : List Str := ["thing"]
theorem sc_are_eighths : FnScope N_are_eighths ["thing"] (defScope (top 23)) := ⟨rfl, rfl, rfl, by decide +kernel, rfl, by decide +kernel, by decide +kernel⟩
theorem fg_are_eighths (T : Tp K mg) (D_are_heads : Dn P w K mg base Tb "are_heads" 2 ["thing", "many"] S_are_heads) {fd : FuncData} (Fn : Fun K "are_eighths" "are_eighths" (top 23) (He.ga K "are_eighths") fd) : FnG P w K mg base Tb 3 (He.ga K "are_eighths") fd ["thing"] S_are_eighths := by
  refine dfn 0 Fn sc_are_eighths len_are_eighths cels_are_eighths fun cdv A outer s H hr hA => ⟨_, (scons (sif (tor (tnot (dtest (disi "tuple" "tuple" (m_isinstance T) (m_tuple T) (by decide +kernel) (by decide +kernel) (dv 0)))) (tor1 (tnot (dchainT op_le op_le opr_le opr_le di (dlen (m_len T) (acons (dv 0) anil)) (dnum (c_MOST_CLASSES T)))))).pt (sone (sret (m := 0) (dx db))) snil) (sone (sret (m := 0) (dx (dandV (dfrz (dcn D_are_heads (hr.mono (by decide)) hA (acons (dv 0) (acons (dlen (m_len T) (acons (dv 0) anil)) anil)))) (done (dcmp (op_eqE hr.units) opd_eq (dsum (m_sum T) rfl (acons (dv 0) anil)) (dnum (c_WHOLE T)) (nomark _)))))))), fun as Q h => ?_⟩
  unfold S_are_eighths at h
  split at h
  · unfold q_are_eighths at h
    rename_i x0
    refine at_env (b := [.dat x0]) rfl ?_
    exact Eq.mp (by kernel_rfl) h
  · exact h.elim
theorem ok_are_eighths (T : Tp K mg) (D_are_heads : Dn P w K mg base Tb "are_heads" 2 ["thing", "many"] S_are_heads) : Dn P w K mg base Tb "are_eighths" 3 ["thing"] S_are_eighths := by
  obtain ⟨kV, doc, pm, an, cdv, ct, Fn⟩ := T.fun_ "are_eighths" (top 23) 10 90
  exact ⟨⟨_, fg_are_eighths T D_are_heads Fn, Fn.binds (ps := ["thing"]) fun _ _ _ _ _ _ us hl => match us, hl with | [_], _ => rfl⟩, T.glo "are_eighths" 43, T.keep "are_eighths" 90⟩
def kk_is_pair : RT → (PyData → Prop) := fun R v => R (.dat v) []
def S_is_pair : DSp := fun as Q => match as with
  | [.dat x0, .dat x1] => q_is_pair x0 x1 (kk_is_pair Q)
  | _ => False
theorem len_is_pair (as : List SD) (Q : SD → List SD → Prop) (h : S_is_pair as Q) : as.length = 2 := by
  unfold S_is_pair at h
  split at h
  · rfl
  · exact h.elim
theorem cels_is_pair : CelsIn 0 S_is_pair := by
  intro as Q h i p xs e
  unfold S_is_pair at h
  split at h
  · exact absurd e (no_cel (ds := [_, _]) i p xs)
  · exact h.elim
def N_is_pair : List Str := ["thing", "classes"]
theorem sc_is_pair : FnScope N_is_pair ["thing", "classes"] (defScope (top 24)) := ⟨rfl, rfl, rfl, by decide +kernel, rfl, by decide +kernel, by decide +kernel⟩
theorem fg_is_pair (T : Tp K mg) (D_is_name : Dn P w K mg base Tb "is_name" 1 ["thing"] S_is_name) (D_is_whole : Dn P w K mg base Tb "is_whole" 1 ["thing"] S_is_whole) {fd : FuncData} (Fn : Fun K "is_pair" "is_pair" (top 24) (He.ga K "is_pair") fd) : FnG P w K mg base Tb 2 (He.ga K "is_pair") fd ["thing", "classes"] S_is_pair := by
  refine dfn 0 Fn sc_is_pair len_is_pair cels_is_pair fun cdv A outer s H hr hA => ⟨_, (scons (sif (tor (tnot (dtest (disi "tuple" "tuple" (m_isinstance T) (m_tuple T) (by decide +kernel) (by decide +kernel) (dv 0)))) (tor (dcmpT (op_neE hr.units) opd_ne (dlen (m_len T) (acons (dv 0) anil)) di (nomark _)) (tor1 (tnot (dtest (dfrz (dcn D_is_name (hr.mono (by decide)) hA (acons (dixP (dv 0) di) anil)))))))).pt (sone (sret (m := 0) (dx db))) snil) (sone (sret (m := 0) (dx (dandV (dfrz (dcn D_is_whole (hr.mono (by decide)) hA (acons (dixP (dv 0) di) anil))) (done (dchain op_le op_ltA opr_le opr_ltA di (dixP (dv 0) di) (dv 1)))))))), fun as Q h => ?_⟩
  unfold S_is_pair at h
  split at h
  · unfold q_is_pair at h
    rename_i x0 x1
    refine at_env (b := [.dat x0, .dat x1]) rfl ?_
    exact Eq.mp (by kernel_rfl) h
  · exact h.elim
theorem ok_is_pair (T : Tp K mg) (D_is_name : Dn P w K mg base Tb "is_name" 1 ["thing"] S_is_name) (D_is_whole : Dn P w K mg base Tb "is_whole" 1 ["thing"] S_is_whole) : Dn P w K mg base Tb "is_pair" 2 ["thing", "classes"] S_is_pair := by
  obtain ⟨kV, doc, pm, an, cdv, ct, Fn⟩ := T.fun_ "is_pair" (top 24) 11 91
  exact ⟨⟨_, fg_is_pair T D_is_name D_is_whole Fn, Fn.binds (ps := ["thing", "classes"]) fun _ _ _ _ _ _ us hl => match us, hl with | [_, _], _ => rfl⟩, T.glo "is_pair" 44, T.keep "is_pair" 91⟩
def kk_is_scheme : RT → (PyData → Prop) := fun R v => R (.dat v) []
def em_is_scheme_1 (i : PyData × PyData) (s : Unit) : List SD := [.un, .dat i.1, .dat i.2, .un, .un, .un]
def de_is_scheme_1 : List SD → Option ((PyData × PyData) × (Unit))
  | [.un, .dat x1, .dat x2, .un, .un, .un] => some ((x1, x2), ())
  | _ => none
theorem hde_is_scheme_1 : ∀ env i s, de_is_scheme_1 env = some (i, s) → env = em_is_scheme_1 i s := by
  intro env i s h
  unfold de_is_scheme_1 at h
  split at h
  · cases h; rfl
  · cases h
def em_is_scheme_2 (i : PyData) (s : Unit) : List SD := [.un, .un, .dat i, .un, .un, .un]
def de_is_scheme_2 : List SD → Option ((PyData) × (Unit))
  | [.un, .un, .dat x2, .un, .un, .un] => some (x2, ())
  | _ => none
theorem hde_is_scheme_2 : ∀ env i s, de_is_scheme_2 env = some (i, s) → env = em_is_scheme_2 i s := by
  intro env i s h
  unfold de_is_scheme_2 at h
  split at h
  · cases h; rfl
  · cases h
def S_is_scheme : DSp := fun as Q => match as with
  | [.dat x0] => q_is_scheme x0 (kk_is_scheme Q)
  | _ => False
theorem len_is_scheme (as : List SD) (Q : SD → List SD → Prop) (h : S_is_scheme as Q) : as.length = 1 := by
  unfold S_is_scheme at h
  split at h
  · rfl
  · exact h.elim
theorem cels_is_scheme : CelsIn 0 S_is_scheme := by
  intro as Q h i p xs e
  unfold S_is_scheme at h
  split at h
  · exact absurd e (no_cel (ds := [_]) i p xs)
  · exact h.elim
def N_is_scheme : List Str := ["thing", "eighths", "ranks", "pair", "one", "other"]
theorem sc_is_scheme : FnScope N_is_scheme ["thing"] (defScope (top 25)) := ⟨rfl, rfl, rfl, by decide +kernel, rfl, by decide +kernel, by decide +kernel⟩
theorem fg_is_scheme (T : Tp K mg) (D_are_eighths : Dn P w K mg base Tb "are_eighths" 3 ["thing"] S_are_eighths) (D_is_pair : Dn P w K mg base Tb "is_pair" 2 ["thing", "classes"] S_is_pair) {fd : FuncData} (Fn : Fun K "is_scheme" "is_scheme" (top 25) (He.ga K "is_scheme") fd) : FnG P w K mg base Tb 4 (He.ga K "is_scheme") fd ["thing"] S_is_scheme := by
  refine dfn 0 Fn sc_is_scheme len_is_scheme cels_is_scheme fun cdv A outer s H hr hA => ⟨_, (scons (sif (tor (tnot (dtest (disi "tuple" "tuple" (m_isinstance T) (m_tuple T) (by decide +kernel) (by decide +kernel) (dv 0)))) (tor (dcmpT (op_neE hr.units) opd_ne (dlen (m_len T) (acons (dv 0) anil)) di (nomark _)) (tor1 (tnot (dtest (dfrz (dcn D_are_eighths (hr.mono (by decide)) hA (acons (dixP (dv 0) di) anil)))))))).pt (sone (sret (m := 0) (dx db))) snil) (scons (sasg (dv 0) (gtup (gl_cons gok_n (gl_cons gok_n gl_nil)) rfl (gcons (gn 1 sc_is_scheme.nd) (gcons (gn 2 sc_is_scheme.nd) gnil)))) (ssforget [0] (scons (sif (tor (tnot (dtest (disi "tuple" "tuple" (m_isinstance T) (m_tuple T) (by decide +kernel) (by decide +kernel) (dv 2)))) (tor1 (dcmpT op_gt opr_gt (dlen (m_len T) (acons (dv 2) anil)) (dnum (c_MOST_RANKS T)) (nomark _)))).pt (sone (sret (m := 0) (dx db))) snil) (scons (sif (tnot (dtest (dall (m_all T) rfl (acons (dfrz (dlc (dec := de_is_scheme_1) (emb := em_is_scheme_1) (qb := qb_is_scheme_1) [("pair", 3)] (.one 3) hde_is_scheme_1 rfl sc_is_scheme.nd (iseq (dv 2)) (blkOk_by (own := [("pair", 3)]) (N := N_is_scheme) (sc := defScope (top 25)) (by decide +kernel)) (fun _ _ _ _ _ => pg_name (i := 3) sc_is_scheme.nd rfl (Or.inl rfl)) (fun _ _ _ _ _ => tyes) (fun _ _ _ _ _ => (dfrz (dcn D_is_pair (hr.mono (by decide)) hA (acons (dv 3) (acons (dlen (m_len T) (acons (dv 1) anil)) anil))))) (fun d i s sk yd h => Eq.mp (by kernel_rfl) h))) anil)))) (sone (sret (m := 0) (dx db))) snil) (ssforget [1] (sone (sret (m := 0) (dx (dall (m_all T) rfl (acons (dfrz (dlc (dec := de_is_scheme_2) (emb := em_is_scheme_2) (qb := qb_is_scheme_2) [("one", 4), ("other", 5)] (.tup [4, 5]) hde_is_scheme_2 rfl sc_is_scheme.nd (izip (m_zip T) (acons (dv 2) (acons (dsl (dv 2) (so_some di) so_none) anil))) (blkOk_by (own := [("one", 4), ("other", 5)]) (N := N_is_scheme) (sc := defScope (top 25)) (by decide +kernel)) (fun _ _ _ _ _ => pg_tup rfl (pgs_cons (pg_name (i := 4) sc_is_scheme.nd rfl (Or.inl rfl)) (pgs_cons (pg_name (i := 5) sc_is_scheme.nd rfl (Or.inl rfl)) pgs_nil))) (fun _ _ _ _ _ => tyes) (fun _ _ _ _ _ => (dcmp op_ltA opr_ltA (dixP (dv 4) di) (dixP (dv 5) di) (nomark _))) (fun d i s sk yd h => Eq.mp (by kernel_rfl) h))) anil))))))))))), fun as Q h => ?_⟩
  unfold S_is_scheme at h
  split at h
  · unfold q_is_scheme at h
    rename_i x0
    refine at_env (b := [.dat x0, .un, .un, .un, .un, .un]) rfl ?_
    exact Eq.mp (by kernel_rfl) h
  · exact h.elim
theorem ok_is_scheme (T : Tp K mg) (D_are_eighths : Dn P w K mg base Tb "are_eighths" 3 ["thing"] S_are_eighths) (D_is_pair : Dn P w K mg base Tb "is_pair" 2 ["thing", "classes"] S_is_pair) : Dn P w K mg base Tb "is_scheme" 4 ["thing"] S_is_scheme := by
  obtain ⟨kV, doc, pm, an, cdv, ct, Fn⟩ := T.fun_ "is_scheme" (top 25) 12 92
  exact ⟨⟨_, fg_is_scheme T D_are_eighths D_is_pair Fn, Fn.binds (ps := ["thing"]) fun _ _ _ _ _ _ us hl => match us, hl with | [_], _ => rfl⟩, T.glo "is_scheme" 45, T.keep "is_scheme" 92⟩
def kk_is_part : RT → (PyData → Prop) := fun R v => R (.dat v) []
def S_is_part : DSp := fun as Q => match as with
  | [.dat x0] => q_is_part x0 (kk_is_part Q)
  | _ => False
theorem len_is_part (as : List SD) (Q : SD → List SD → Prop) (h : S_is_part as Q) : as.length = 1 := by
  unfold S_is_part at h
  split at h
  · rfl
  · exact h.elim
theorem cels_is_part : CelsIn 0 S_is_part := by
  intro as Q h i p xs e
  unfold S_is_part at h
  split at h
  · exact absurd e (no_cel (ds := [_]) i p xs)
  · exact h.elim
def N_is_part : List Str := ["thing"]
theorem sc_is_part : FnScope N_is_part ["thing"] (defScope (top 31)) := ⟨rfl, rfl, rfl, by decide +kernel, rfl, by decide +kernel, by decide +kernel⟩
theorem fg_is_part (T : Tp K mg) (D_is_fraction : Dn P w K mg base Tb "is_fraction" 3 ["thing"] S_is_fraction) {fd : FuncData} (Fn : Fun K "is_part" "is_part" (top 31) (He.ga K "is_part") fd) : FnG P w K mg base Tb 4 (He.ga K "is_part") fd ["thing"] S_is_part := by
  refine dfn 0 Fn sc_is_part len_is_part cels_is_part fun cdv A outer s H hr hA => ⟨_, (sone (sret (m := 0) (dx (dandV (dfrz (dcn D_is_fraction (hr.mono (by decide)) hA (acons (dv 0) anil))) (done (dchain op_le op_le opr_le opr_le di (dixP (dv 0) di) (dixP (dv 0) di))))))), fun as Q h => ?_⟩
  unfold S_is_part at h
  split at h
  · unfold q_is_part at h
    rename_i x0
    refine at_env (b := [.dat x0]) rfl ?_
    exact Eq.mp (by kernel_rfl) h
  · exact h.elim
theorem ok_is_part (T : Tp K mg) (D_is_fraction : Dn P w K mg base Tb "is_fraction" 3 ["thing"] S_is_fraction) : Dn P w K mg base Tb "is_part" 4 ["thing"] S_is_part := by
  obtain ⟨kV, doc, pm, an, cdv, ct, Fn⟩ := T.fun_ "is_part" (top 31) 13 93
  exact ⟨⟨_, fg_is_part T D_is_fraction Fn, Fn.binds (ps := ["thing"]) fun _ _ _ _ _ _ us hl => match us, hl with | [_], _ => rfl⟩, T.glo "is_part" 46, T.keep "is_part" 93⟩
def kk_is_sale : RT → (PyData → Prop) := fun R v => R (.dat v) []
def em_is_sale_1 (i : PyData × PyData) (s : Unit) : List SD := [.dat i.1, .dat i.2, .un, .un]
def de_is_sale_1 : List SD → Option ((PyData × PyData) × (Unit))
  | [.dat x0, .dat x1, .un, .un] => some ((x0, x1), ())
  | _ => none
theorem hde_is_sale_1 : ∀ env i s, de_is_sale_1 env = some (i, s) → env = em_is_sale_1 i s := by
  intro env i s h
  unfold de_is_sale_1 at h
  split at h
  · cases h; rfl
  · cases h
def S_is_sale : DSp := fun as Q => match as with
  | [.dat x0] => q_is_sale x0 (kk_is_sale Q)
  | _ => False
theorem len_is_sale (as : List SD) (Q : SD → List SD → Prop) (h : S_is_sale as Q) : as.length = 1 := by
  unfold S_is_sale at h
  split at h
  · rfl
  · exact h.elim
theorem cels_is_sale : CelsIn 0 S_is_sale := by
  intro as Q h i p xs e
  unfold S_is_sale at h
  split at h
  · exact absurd e (no_cel (ds := [_]) i p xs)
  · exact h.elim
def N_is_sale : List Str := ["thing", "most", "number", "bound"]
theorem sc_is_sale : FnScope N_is_sale ["thing"] (defScope (top 32)) := ⟨rfl, rfl, rfl, by decide +kernel, rfl, by decide +kernel, by decide +kernel⟩
theorem fg_is_sale (T : Tp K mg) (D_is_part : Dn P w K mg base Tb "is_part" 4 ["thing"] S_is_part) (D_is_within : Dn P w K mg base Tb "is_within" 2 ["thing", "least", "most"] S_is_within) {fd : FuncData} (Fn : Fun K "is_sale" "is_sale" (top 32) (He.ga K "is_sale") fd) : FnG P w K mg base Tb 5 (He.ga K "is_sale") fd ["thing"] S_is_sale := by
  refine dfn 0 Fn sc_is_sale len_is_sale cels_is_sale fun cdv A outer s H hr hA => ⟨_, (scons (sif (tor (tnot (dtest (disi "tuple" "tuple" (m_isinstance T) (m_tuple T) (by decide +kernel) (by decide +kernel) (dv 0)))) (tor (dcmpT (op_neE hr.units) opd_ne (dlen (m_len T) (acons (dv 0) anil)) di (nomark _)) (tor1 (tnot (dtest (dfrz (dcn D_is_part (hr.mono (by decide)) hA (acons (dixP (dv 0) di) anil)))))))).pt (sone (sret (m := 0) (dx db))) snil) (scons (sset 1 sc_is_sale.nd (dx (dtup (acons (dnum (c_MOST_GROSS T)) (acons (dnum (c_MOST_GROSS T)) (acons (dnum (c_MOST_RATE T)) (acons (dnum (c_MOST_HEADS T)) (acons (dnum (c_MOST_BOUNTY T)) anil)))))))) (sone (sret (m := 0) (dx (dall (m_all T) rfl (acons (dfrz (dlc (dec := de_is_sale_1) (emb := em_is_sale_1) (qb := qb_is_sale_1) [("number", 2), ("bound", 3)] (.tup [2, 3]) hde_is_sale_1 rfl sc_is_sale.nd (izip (m_zip T) (acons (dv 0) (acons (dv 1) anil))) (blkOk_by (own := [("number", 2), ("bound", 3)]) (N := N_is_sale) (sc := defScope (top 32)) (by decide +kernel)) (fun _ _ _ _ _ => pg_tup rfl (pgs_cons (pg_name (i := 2) sc_is_sale.nd rfl (Or.inl rfl)) (pgs_cons (pg_name (i := 3) sc_is_sale.nd rfl (Or.inl rfl)) pgs_nil))) (fun _ _ _ _ _ => tyes) (fun _ _ _ _ _ => (dfrz (dcn D_is_within (hr.mono (by decide)) hA (acons (dv 2) (acons di (acons (dv 3) anil)))))) (fun d i s sk yd h => Eq.mp (by kernel_rfl) h))) anil))))))), fun as Q h => ?_⟩
  unfold S_is_sale at h
  split at h
  · unfold q_is_sale at h
    rename_i x0
    refine at_env (b := [.dat x0, .un, .un, .un]) rfl ?_
    exact Eq.mp (by kernel_rfl) h
  · exact h.elim
theorem ok_is_sale (T : Tp K mg) (D_is_part : Dn P w K mg base Tb "is_part" 4 ["thing"] S_is_part) (D_is_within : Dn P w K mg base Tb "is_within" 2 ["thing", "least", "most"] S_is_within) : Dn P w K mg base Tb "is_sale" 5 ["thing"] S_is_sale := by
  obtain ⟨kV, doc, pm, an, cdv, ct, Fn⟩ := T.fun_ "is_sale" (top 32) 14 94
  exact ⟨⟨_, fg_is_sale T D_is_part D_is_within Fn, Fn.binds (ps := ["thing"]) fun _ _ _ _ _ _ us hl => match us, hl with | [_], _ => rfl⟩, T.glo "is_sale" 47, T.keep "is_sale" 94⟩
def kk_is_hour : RT → (PyData → Prop) := fun R v => R (.dat v) []
def S_is_hour : DSp := fun as Q => match as with
  | [.dat x0] => q_is_hour x0 (kk_is_hour Q)
  | _ => False
theorem len_is_hour (as : List SD) (Q : SD → List SD → Prop) (h : S_is_hour as Q) : as.length = 1 := by
  unfold S_is_hour at h
  split at h
  · rfl
  · exact h.elim
theorem cels_is_hour : CelsIn 0 S_is_hour := by
  intro as Q h i p xs e
  unfold S_is_hour at h
  split at h
  · exact absurd e (no_cel (ds := [_]) i p xs)
  · exact h.elim
def N_is_hour : List Str := ["thing"]
theorem sc_is_hour : FnScope N_is_hour ["thing"] (defScope (top 39)) := ⟨rfl, rfl, rfl, by decide +kernel, rfl, by decide +kernel, by decide +kernel⟩
theorem fg_is_hour (T : Tp K mg) (D_is_within : Dn P w K mg base Tb "is_within" 2 ["thing", "least", "most"] S_is_within) {fd : FuncData} (Fn : Fun K "is_hour" "is_hour" (top 39) (He.ga K "is_hour") fd) : FnG P w K mg base Tb 3 (He.ga K "is_hour") fd ["thing"] S_is_hour := by
  refine dfn 0 Fn sc_is_hour len_is_hour cels_is_hour fun cdv A outer s H hr hA => ⟨_, (sone (sret (m := 0) (dx (dfrz (dcn D_is_within (hr.mono (by decide)) hA (acons (dv 0) (acons di (acons (dnum (c_MOST_HOUR T)) anil)))))))), fun as Q h => ?_⟩
  unfold S_is_hour at h
  split at h
  · unfold q_is_hour at h
    rename_i x0
    refine at_env (b := [.dat x0]) rfl ?_
    exact Eq.mp (by kernel_rfl) h
  · exact h.elim
theorem ok_is_hour (T : Tp K mg) (D_is_within : Dn P w K mg base Tb "is_within" 2 ["thing", "least", "most"] S_is_within) : Dn P w K mg base Tb "is_hour" 3 ["thing"] S_is_hour := by
  obtain ⟨kV, doc, pm, an, cdv, ct, Fn⟩ := T.fun_ "is_hour" (top 39) 15 95
  exact ⟨⟨_, fg_is_hour T D_is_within Fn, Fn.binds (ps := ["thing"]) fun _ _ _ _ _ _ us hl => match us, hl with | [_], _ => rfl⟩, T.glo "is_hour" 48, T.keep "is_hour" 95⟩
def kk_is_hour_pages : RT → (PyData → Prop) := fun R v => R (.dat v) []
def S_is_hour_pages : DSp := fun as Q => match as with
  | [.dat x0] => q_is_hour_pages x0 (kk_is_hour_pages Q)
  | _ => False
theorem len_is_hour_pages (as : List SD) (Q : SD → List SD → Prop) (h : S_is_hour_pages as Q) : as.length = 1 := by
  unfold S_is_hour_pages at h
  split at h
  · rfl
  · exact h.elim
theorem cels_is_hour_pages : CelsIn 0 S_is_hour_pages := by
  intro as Q h i p xs e
  unfold S_is_hour_pages at h
  split at h
  · exact absurd e (no_cel (ds := [_]) i p xs)
  · exact h.elim
def N_is_hour_pages : List Str := ["thing"]
theorem sc_is_hour_pages : FnScope N_is_hour_pages ["thing"] (defScope (top 39)) := ⟨rfl, rfl, rfl, by decide +kernel, rfl, by decide +kernel, by decide +kernel⟩
theorem fg_is_hour_pages (T : Tp K mg) (D_is_within : Dn P w K mg base Tb "is_within" 2 ["thing", "least", "most"] S_is_within) {fd : FuncData} (Fn : Fun K "is_hour" "is_hour" (top 39) (He.ga K "is_hour_pages") fd) : FnG P w K mg base Tb 3 (He.ga K "is_hour_pages") fd ["thing"] S_is_hour_pages := by
  refine dfn 0 Fn sc_is_hour_pages len_is_hour_pages cels_is_hour_pages fun cdv A outer s H hr hA => ⟨_, (sone (sret (m := 0) (dx (dfrz (dcn D_is_within (hr.mono (by decide)) hA (acons (dv 0) (acons di (acons (dnum (c_MOST_HOUR T)) anil)))))))), fun as Q h => ?_⟩
  unfold S_is_hour_pages at h
  split at h
  · unfold q_is_hour_pages at h
    rename_i x0
    refine at_env (b := [.dat x0]) rfl ?_
    exact Eq.mp (by kernel_rfl) h
  · exact h.elim
theorem ok_is_hour_pages (T : Tp K mg) (D_is_within : Dn P w K mg base Tb "is_within" 2 ["thing", "least", "most"] S_is_within) : Dn P w K mg base Tb "is_hour_pages" 3 ["thing"] S_is_hour_pages := by
  obtain ⟨kV, doc, pm, an, cdv, ct, Fn⟩ := T.funA "is_hour_pages" "is_hour" (top 39) 16 96
  exact ⟨⟨_, fg_is_hour_pages T D_is_within Fn, Fn.binds (ps := ["thing"]) fun _ _ _ _ _ _ us hl => match us, hl with | [_], _ => rfl⟩, T.glo "is_hour_pages" 49, T.keep "is_hour_pages" 96⟩
def kk_is_day : RT → (PyData → Prop) := fun R v => R (.dat v) []
def S_is_day : DSp := fun as Q => match as with
  | [.dat x0] => q_is_day x0 (kk_is_day Q)
  | _ => False
theorem len_is_day (as : List SD) (Q : SD → List SD → Prop) (h : S_is_day as Q) : as.length = 1 := by
  unfold S_is_day at h
  split at h
  · rfl
  · exact h.elim
theorem cels_is_day : CelsIn 0 S_is_day := by
  intro as Q h i p xs e
  unfold S_is_day at h
  split at h
  · exact absurd e (no_cel (ds := [_]) i p xs)
  · exact h.elim
def N_is_day : List Str := ["thing"]
theorem sc_is_day : FnScope N_is_day ["thing"] (defScope (top 41)) := ⟨rfl, rfl, rfl, by decide +kernel, rfl, by decide +kernel, by decide +kernel⟩
theorem fg_is_day (T : Tp K mg) (D_is_within : Dn P w K mg base Tb "is_within" 2 ["thing", "least", "most"] S_is_within) {fd : FuncData} (Fn : Fun K "is_day" "is_day" (top 41) (He.ga K "is_day") fd) : FnG P w K mg base Tb 3 (He.ga K "is_day") fd ["thing"] S_is_day := by
  refine dfn 0 Fn sc_is_day len_is_day cels_is_day fun cdv A outer s H hr hA => ⟨_, (sone (sret (m := 0) (dx (dfrz (dcn D_is_within (hr.mono (by decide)) hA (acons (dv 0) (acons di (acons (dnum (c_MOST_DAY T)) anil)))))))), fun as Q h => ?_⟩
  unfold S_is_day at h
  split at h
  · unfold q_is_day at h
    rename_i x0
    refine at_env (b := [.dat x0]) rfl ?_
    exact Eq.mp (by kernel_rfl) h
  · exact h.elim
theorem ok_is_day (T : Tp K mg) (D_is_within : Dn P w K mg base Tb "is_within" 2 ["thing", "least", "most"] S_is_within) : Dn P w K mg base Tb "is_day" 3 ["thing"] S_is_day := by
  obtain ⟨kV, doc, pm, an, cdv, ct, Fn⟩ := T.fun_ "is_day" (top 41) 17 97
  exact ⟨⟨_, fg_is_day T D_is_within Fn, Fn.binds (ps := ["thing"]) fun _ _ _ _ _ _ us hl => match us, hl with | [_], _ => rfl⟩, T.glo "is_day" 50, T.keep "is_day" 97⟩
def kk_is_muster : RT → (PyData → Prop) := fun R v => R (.dat v) []
def S_is_muster : DSp := fun as Q => match as with
  | [.dat x0] => q_is_muster x0 (kk_is_muster Q)
  | _ => False
theorem len_is_muster (as : List SD) (Q : SD → List SD → Prop) (h : S_is_muster as Q) : as.length = 1 := by
  unfold S_is_muster at h
  split at h
  · rfl
  · exact h.elim
theorem cels_is_muster : CelsIn 0 S_is_muster := by
  intro as Q h i p xs e
  unfold S_is_muster at h
  split at h
  · exact absurd e (no_cel (ds := [_]) i p xs)
  · exact h.elim
def N_is_muster : List Str := ["body"]
theorem sc_is_muster : FnScope N_is_muster ["body"] (defScope (top 42)) := ⟨rfl, rfl, rfl, by decide +kernel, rfl, by decide +kernel, by decide +kernel⟩
theorem fg_is_muster (T : Tp K mg) (D_is_hour_pages : Dn P w K mg base Tb "is_hour_pages" 3 ["thing"] S_is_hour_pages) (D_is_name : Dn P w K mg base Tb "is_name" 1 ["thing"] S_is_name) {fd : FuncData} (Fn : Fun K "is_muster" "is_muster" (top 42) (He.ga K "is_muster") fd) : FnG P w K mg base Tb 4 (He.ga K "is_muster") fd ["body"] S_is_muster := by
  refine dfn 0 Fn sc_is_muster len_is_muster cels_is_muster fun cdv A outer s H hr hA => ⟨_, (sone (sret (m := 0) (dx (dandV (dfrz (dcn D_is_name (hr.mono (by decide)) hA (acons (dixP (dv 0) di) anil))) (dandV (dfrz (dcn D_is_hour_pages (hr.mono (by decide)) hA (acons (dixP (dv 0) di) anil))) (dandV (dorV (dcmp (op_eqS hr.units) opd_eqS (dixP (dv 0) di) ds (nomark _)) (done (dfrz (dcn D_is_name (hr.mono (by decide)) hA (acons (dixP (dv 0) di) anil))))) (done (dfrz (dcn D_is_name (hr.mono (by decide)) hA (acons (dixP (dv 0) di) anil)))))))))), fun as Q h => ?_⟩
  unfold S_is_muster at h
  split at h
  · unfold q_is_muster at h
    rename_i x0
    refine at_env (b := [.dat x0]) rfl ?_
    exact Eq.mp (by kernel_rfl) h
  · exact h.elim
theorem ok_is_muster (T : Tp K mg) (D_is_hour_pages : Dn P w K mg base Tb "is_hour_pages" 3 ["thing"] S_is_hour_pages) (D_is_name : Dn P w K mg base Tb "is_name" 1 ["thing"] S_is_name) : Dn P w K mg base Tb "is_muster" 4 ["body"] S_is_muster := by
  obtain ⟨kV, doc, pm, an, cdv, ct, Fn⟩ := T.fun_ "is_muster" (top 42) 18 98
  exact ⟨⟨_, fg_is_muster T D_is_hour_pages D_is_name Fn, Fn.binds (ps := ["body"]) fun _ _ _ _ _ _ us hl => match us, hl with | [_], _ => rfl⟩, T.glo "is_muster" 51, T.keep "is_muster" 98⟩
def kk_is_taking : RT → (PyData → Prop) := fun R v => R (.dat v) []
def S_is_taking : DSp := fun as Q => match as with
  | [.dat x0] => q_is_taking x0 (kk_is_taking Q)
  | _ => False
theorem len_is_taking (as : List SD) (Q : SD → List SD → Prop) (h : S_is_taking as Q) : as.length = 1 := by
  unfold S_is_taking at h
  split at h
  · rfl
  · exact h.elim
theorem cels_is_taking : CelsIn 0 S_is_taking := by
  intro as Q h i p xs e
  unfold S_is_taking at h
  split at h
  · exact absurd e (no_cel (ds := [_]) i p xs)
  · exact h.elim
def N_is_taking : List Str := ["body"]
theorem sc_is_taking : FnScope N_is_taking ["body"] (defScope (top 43)) := ⟨rfl, rfl, rfl, by decide +kernel, rfl, by decide +kernel, by decide +kernel⟩
theorem fg_is_taking (T : Tp K mg) (D_is_hour_pages : Dn P w K mg base Tb "is_hour_pages" 3 ["thing"] S_is_hour_pages) (D_is_name : Dn P w K mg base Tb "is_name" 1 ["thing"] S_is_name) (D_is_within : Dn P w K mg base Tb "is_within" 2 ["thing", "least", "most"] S_is_within) {fd : FuncData} (Fn : Fun K "is_taking" "is_taking" (top 43) (He.ga K "is_taking") fd) : FnG P w K mg base Tb 4 (He.ga K "is_taking") fd ["body"] S_is_taking := by
  refine dfn 0 Fn sc_is_taking len_is_taking cels_is_taking fun cdv A outer s H hr hA => ⟨_, (scons (sif (tor (tnot (dtest (dfrz (dcn D_is_name (hr.mono (by decide)) hA (acons (dixP (dv 0) di) anil))))) (tor (tnot (dtest (dfrz (dcn D_is_name (hr.mono (by decide)) hA (acons (dixP (dv 0) di) anil))))) (tor (tnot (dtest (dfrz (dcn D_is_hour_pages (hr.mono (by decide)) hA (acons (dixP (dv 0) di) anil))))) (tor1 (tnot (dtest (dfrz (dcn D_is_hour_pages (hr.mono (by decide)) hA (acons (dixP (dv 0) di) anil))))))))).pt (sone (sret (m := 0) (dx db))) snil) (sone (sret (m := 0) (dx (dandV (dcmp op_le opr_le (dixP (dv 0) di) (dixP (dv 0) di) (nomark _)) (done (dfrz (dcn D_is_within (hr.mono (by decide)) hA (acons (dixP (dv 0) di) (acons di (acons (dnum (c_MOST_MILES T)) anil))))))))))), fun as Q h => ?_⟩
  unfold S_is_taking at h
  split at h
  · unfold q_is_taking at h
    rename_i x0
    refine at_env (b := [.dat x0]) rfl ?_
    exact Eq.mp (by kernel_rfl) h
  · exact h.elim
theorem ok_is_taking (T : Tp K mg) (D_is_hour_pages : Dn P w K mg base Tb "is_hour_pages" 3 ["thing"] S_is_hour_pages) (D_is_name : Dn P w K mg base Tb "is_name" 1 ["thing"] S_is_name) (D_is_within : Dn P w K mg base Tb "is_within" 2 ["thing", "least", "most"] S_is_within) : Dn P w K mg base Tb "is_taking" 4 ["body"] S_is_taking := by
  obtain ⟨kV, doc, pm, an, cdv, ct, Fn⟩ := T.fun_ "is_taking" (top 43) 19 99
  exact ⟨⟨_, fg_is_taking T D_is_hour_pages D_is_name D_is_within Fn, Fn.binds (ps := ["body"]) fun _ _ _ _ _ _ us hl => match us, hl with | [_], _ => rfl⟩, T.glo "is_taking" 52, T.keep "is_taking" 99⟩
def kk_is_body : RT → (PyData → Prop) := fun R v => R (.dat v) []
def S_is_body : DSp := fun as Q => match as with
  | [.dat x0, .dat x1] => q_is_body x0 x1 (kk_is_body Q)
  | _ => False
theorem len_is_body (as : List SD) (Q : SD → List SD → Prop) (h : S_is_body as Q) : as.length = 2 := by
  unfold S_is_body at h
  split at h
  · rfl
  · exact h.elim
theorem cels_is_body : CelsIn 0 S_is_body := by
  intro as Q h i p xs e
  unfold S_is_body at h
  split at h
  · exact absurd e (no_cel (ds := [_, _]) i p xs)
  · exact h.elim
def N_is_body : List Str := ["number", "body", "word", "many"]
theorem sc_is_body : FnScope N_is_body ["number", "body"] (defScope (top 44)) := ⟨rfl, rfl, rfl, by decide +kernel, rfl, by decide +kernel, by decide +kernel⟩
theorem fg_is_body (T : Tp K mg) (D_is_day : Dn P w K mg base Tb "is_day" 3 ["thing"] S_is_day) (D_is_hour_pages : Dn P w K mg base Tb "is_hour_pages" 3 ["thing"] S_is_hour_pages) (D_is_log : Dn P w K mg base Tb "is_log" 4 ["thing"] S_is_log) (D_is_muster : Dn P w K mg base Tb "is_muster" 4 ["body"] S_is_muster) (D_is_name : Dn P w K mg base Tb "is_name" 1 ["thing"] S_is_name) (D_is_sale : Dn P w K mg base Tb "is_sale" 5 ["thing"] S_is_sale) (D_is_scheme : Dn P w K mg base Tb "is_scheme" 4 ["thing"] S_is_scheme) (D_is_taking : Dn P w K mg base Tb "is_taking" 4 ["body"] S_is_taking) (D_is_within : Dn P w K mg base Tb "is_within" 2 ["thing", "least", "most"] S_is_within) {fd : FuncData} (Fn : Fun K "is_body" "is_body" (top 44) (He.ga K "is_body") fd) : FnG P w K mg base Tb 6 (He.ga K "is_body") fd ["number", "body"] S_is_body := by
  refine dfn 0 Fn sc_is_body len_is_body cels_is_body fun cdv A outer s H hr hA => ⟨_, (scons (spar 2 3 rfl sc_is_body.nd (acons (dixP (dv 1) di) (acons (dlen (m_len T) (acons (dv 1) anil)) anil))) (scons (sif (dcmpT (op_eqE hr.units) opd_eq (dv 2) ds (nomark _)) (sone (sret (m := 0) (dx (dandV (dcmp (op_eqE hr.units) opd_eq (dv 3) di (nomark _)) (dandV (dfrz (dcn D_is_name (hr.mono (by decide)) hA (acons (dixP (dv 1) di) anil))) (done (dfrz (dcn D_is_log (hr.mono (by decide)) hA (acons (dixP (dv 1) di) anil))))))))) snil) (scons (sif (dcmpT (op_eqE hr.units) opd_eq (dv 2) ds (nomark _)) (sone (sret (m := 0) (dx (dandV (dcmp (op_eqE hr.units) opd_eq (dv 3) di (nomark _)) (done (dfrz (dcn D_is_muster (hr.mono (by decide)) hA (acons (dv 1) anil)))))))) snil) (scons (sif (dcmpT (op_eqE hr.units) opd_eq (dv 2) ds (nomark _)) (sone (sret (m := 0) (dx (dandV (dcmp (op_eqE hr.units) opd_eq (dv 3) di (nomark _)) (dandV (dfrz (dcn D_is_hour_pages (hr.mono (by decide)) hA (acons (dixP (dv 1) di) anil))) (done (dfrz (dcn D_is_scheme (hr.mono (by decide)) hA (acons (dixP (dv 1) di) anil))))))))) snil) (scons (sif (dcmpT (op_eqE hr.units) opd_eq (dv 2) ds (nomark _)) (sone (sret (m := 0) (dx (dandV (dcmp (op_eqE hr.units) opd_eq (dv 3) di (nomark _)) (done (dfrz (dcn D_is_taking (hr.mono (by decide)) hA (acons (dv 1) anil)))))))) snil) (scons (sif (dcmpT (op_eqE hr.units) opd_eq (dv 2) ds (nomark _)) (sone (sret (m := 0) (dx (dandV (dcmp (op_eqE hr.units) opd_eq (dv 3) di (nomark _)) (dandV (dfrz (dcn D_is_name (hr.mono (by decide)) hA (acons (dixP (dv 1) di) anil))) (done (dfrz (dcn D_is_sale (hr.mono (by decide)) hA (acons (dsl (dv 1) (so_some di) so_none) anil))))))))) snil) (scons (sif (dcmpT (op_eqE hr.units) opd_eq (dv 2) ds (nomark _)) (sone (sret (m := 0) (dx (dandV (dcmp (op_eqE hr.units) opd_eq (dv 3) di (nomark _)) (dandV (dfrz (dcn D_is_name (hr.mono (by decide)) hA (acons (dixP (dv 1) di) anil))) (done (dfrz (dcn D_is_day (hr.mono (by decide)) hA (acons (dixP (dv 1) di) anil))))))))) snil) (scons (sif (dcmpT (op_eqE hr.units) opd_eq (dv 2) ds (nomark _)) (sone (sret (m := 0) (dx (dandV (dcmp (op_eqE hr.units) opd_eq (dv 3) di (nomark _)) (done (dfrz (dcn D_is_within (hr.mono (by decide)) hA (acons (dixP (dv 1) di) (acons di (acons (dsub (dv 0) di) anil)))))))))) snil) (sone (sret (m := 0) (dx (dandV (dcmp (op_eqE hr.units) opd_eq (dv 2) ds (nomark _)) (dandV (dcmp (op_eqE hr.units) opd_eq (dv 3) di (nomark _)) (dandV (dfrz (dcn D_is_name (hr.mono (by decide)) hA (acons (dixP (dv 1) di) anil))) (dandV (dfrz (dcn D_is_name (hr.mono (by decide)) hA (acons (dixP (dv 1) di) anil))) (done (dfrz (dcn D_is_within (hr.mono (by decide)) hA (acons (dixP (dv 1) di) (acons di (acons (dnum (c_MOST_PENCE T)) anil))))))))))))))))))))), fun as Q h => ?_⟩
  unfold S_is_body at h
  split at h
  · unfold q_is_body at h
    rename_i x0 x1
    refine at_env (b := [.dat x0, .dat x1, .un, .un]) rfl ?_
    exact Eq.mp (by kernel_rfl) h
  · exact h.elim
theorem ok_is_body (T : Tp K mg) (D_is_day : Dn P w K mg base Tb "is_day" 3 ["thing"] S_is_day) (D_is_hour_pages : Dn P w K mg base Tb "is_hour_pages" 3 ["thing"] S_is_hour_pages) (D_is_log : Dn P w K mg base Tb "is_log" 4 ["thing"] S_is_log) (D_is_muster : Dn P w K mg base Tb "is_muster" 4 ["body"] S_is_muster) (D_is_name : Dn P w K mg base Tb "is_name" 1 ["thing"] S_is_name) (D_is_sale : Dn P w K mg base Tb "is_sale" 5 ["thing"] S_is_sale) (D_is_scheme : Dn P w K mg base Tb "is_scheme" 4 ["thing"] S_is_scheme) (D_is_taking : Dn P w K mg base Tb "is_taking" 4 ["body"] S_is_taking) (D_is_within : Dn P w K mg base Tb "is_within" 2 ["thing", "least", "most"] S_is_within) : Dn P w K mg base Tb "is_body" 6 ["number", "body"] S_is_body := by
  obtain ⟨kV, doc, pm, an, cdv, ct, Fn⟩ := T.fun_ "is_body" (top 44) 20 100
  exact ⟨⟨_, fg_is_body T D_is_day D_is_hour_pages D_is_log D_is_muster D_is_name D_is_sale D_is_scheme D_is_taking D_is_within Fn, Fn.binds (ps := ["number", "body"]) fun _ _ _ _ _ _ us hl => match us, hl with | [_, _], _ => rfl⟩, T.glo "is_body" 53, T.keep "is_body" 100⟩
def kk_is_page : RT → (PyData → Prop) := fun R v => R (.dat v) []
def S_is_page : DSp := fun as Q => match as with
  | [.dat x0] => q_is_page x0 (kk_is_page Q)
  | _ => False
theorem len_is_page (as : List SD) (Q : SD → List SD → Prop) (h : S_is_page as Q) : as.length = 1 := by
  unfold S_is_page at h
  split at h
  · rfl
  · exact h.elim
theorem cels_is_page : CelsIn 0 S_is_page := by
  intro as Q h i p xs e
  unfold S_is_page at h
  split at h
  · exact absurd e (no_cel (ds := [_]) i p xs)
  · exact h.elim
def N_is_page : List Str := ["thing"]
theorem sc_is_page : FnScope N_is_page ["thing"] (defScope (top 45)) := ⟨rfl, rfl, rfl, by decide +kernel, rfl, by decide +kernel, by decide +kernel⟩
theorem fg_is_page (T : Tp K mg) (D_is_body : Dn P w K mg base Tb "is_body" 6 ["number", "body"] S_is_body) (D_is_day : Dn P w K mg base Tb "is_day" 3 ["thing"] S_is_day) {fd : FuncData} (Fn : Fun K "is_page" "is_page" (top 45) (He.ga K "is_page") fd) : FnG P w K mg base Tb 7 (He.ga K "is_page") fd ["thing"] S_is_page := by
  refine dfn 0 Fn sc_is_page len_is_page cels_is_page fun cdv A outer s H hr hA => ⟨_, (scons (sif (tor (tnot (dtest (disi "tuple" "tuple" (m_isinstance T) (m_tuple T) (by decide +kernel) (by decide +kernel) (dv 0)))) (tor (dcmpT (op_neE hr.units) opd_ne (dlen (m_len T) (acons (dv 0) anil)) di (nomark _)) (tor (tnot (dtest (dfrz (dcn D_is_day (hr.mono (by decide)) hA (acons (dixP (dv 0) di) anil))))) (tor1 (tnot (dtest (dfrz (dcn D_is_day (hr.mono (by decide)) hA (acons (dixP (dv 0) di) anil))))))))).pt (sone (sret (m := 0) (dx db))) snil) (scons (sif (tor (tnot (dtest (disi "tuple" "tuple" (m_isinstance T) (m_tuple T) (by decide +kernel) (by decide +kernel) (dixP (dv 0) di)))) (tor (dcmpT (op_empE hr.units) opd_emp (dixP (dv 0) di) (dtup anil) (nomark _)) (tor1 (tnot (dtest (disi "str" "str" (m_isinstance T) (m_str T) (by decide +kernel) (by decide +kernel) (dixP (dixP (dv 0) di) di))))))).pt (sone (sret (m := 0) (dx db))) snil) (sone (sret (m := 0) (dx (dfrz (dcn D_is_body (hr.mono (by decide)) hA (acons (dixP (dv 0) di) (acons (dixP (dv 0) di) anil))))))))), fun as Q h => ?_⟩
  unfold S_is_page at h
  split at h
  · unfold q_is_page at h
    rename_i x0
    refine at_env (b := [.dat x0]) rfl ?_
    exact Eq.mp (by kernel_rfl) h
  · exact h.elim
theorem ok_is_page (T : Tp K mg) (D_is_body : Dn P w K mg base Tb "is_body" 6 ["number", "body"] S_is_body) (D_is_day : Dn P w K mg base Tb "is_day" 3 ["thing"] S_is_day) : Dn P w K mg base Tb "is_page" 7 ["thing"] S_is_page := by
  obtain ⟨kV, doc, pm, an, cdv, ct, Fn⟩ := T.fun_ "is_page" (top 45) 21 101
  exact ⟨⟨_, fg_is_page T D_is_body D_is_day Fn, Fn.binds (ps := ["thing"]) fun _ _ _ _ _ _ us hl => match us, hl with | [_], _ => rfl⟩, T.glo "is_page" 54, T.keep "is_page" 101⟩
def kk_are_pages : RT → (PyData → Prop) := fun R v => R (.dat v) []
def em_are_pages_1 (i : PyData) (s : Unit) : List SD := [.dat i, .un]
def de_are_pages_1 : List SD → Option ((PyData) × (Unit))
  | [.dat x0, .un] => some (x0, ())
  | _ => none
theorem hde_are_pages_1 : ∀ env i s, de_are_pages_1 env = some (i, s) → env = em_are_pages_1 i s := by
  intro env i s h
  unfold de_are_pages_1 at h
  split at h
  · cases h; rfl
  · cases h
def em_are_pages_2 (i : PyData) (s : Unit) : List SD := [.dat i, .un]
def de_are_pages_2 : List SD → Option ((PyData) × (Unit))
  | [.dat x0, .un] => some (x0, ())
  | _ => none
theorem hde_are_pages_2 : ∀ env i s, de_are_pages_2 env = some (i, s) → env = em_are_pages_2 i s := by
  intro env i s h
  unfold de_are_pages_2 at h
  split at h
  · cases h; rfl
  · cases h
def S_are_pages : DSp := fun as Q => match as with
  | [.dat x0] => q_are_pages x0 (kk_are_pages Q)
  | _ => False
theorem len_are_pages (as : List SD) (Q : SD → List SD → Prop) (h : S_are_pages as Q) : as.length = 1 := by
  unfold S_are_pages at h
  split at h
  · rfl
  · exact h.elim
theorem cels_are_pages : CelsIn 0 S_are_pages := by
  intro as Q h i p xs e
  unfold S_are_pages at h
  split at h
  · exact absurd e (no_cel (ds := [_]) i p xs)
  · exact h.elim
def N_are_pages : List Str := ["thing", "page"]
theorem sc_are_pages : FnScope N_are_pages ["thing"] (defScope (top 46)) := ⟨rfl, rfl, rfl, by decide +kernel, rfl, by decide +kernel, by decide +kernel⟩
theorem fg_are_pages (T : Tp K mg) (D_is_page : Dn P w K mg base Tb "is_page" 7 ["thing"] S_is_page) {fd : FuncData} (Fn : Fun K "are_pages" "are_pages" (top 46) (He.ga K "are_pages") fd) : FnG P w K mg base Tb 8 (He.ga K "are_pages") fd ["thing"] S_are_pages := by
  refine dfn 0 Fn sc_are_pages len_are_pages cels_are_pages fun cdv A outer s H hr hA => ⟨_, (scons (sif (tor (tnot (dtest (disi "tuple" "tuple" (m_isinstance T) (m_tuple T) (by decide +kernel) (by decide +kernel) (dv 0)))) (tor (dcmpT op_gt opr_gt (dlen (m_len T) (acons (dv 0) anil)) (dnum (c_MOST_PAGES T)) (nomark _)) (tor1 (tnot (dtest (dall (m_all T) rfl (acons (dfrz (dlc (dec := de_are_pages_1) (emb := em_are_pages_1) (qb := qb_are_pages_1) [("page", 1)] (.one 1) hde_are_pages_1 rfl sc_are_pages.nd (iseq (dv 0)) (blkOk_by (own := [("page", 1)]) (N := N_are_pages) (sc := defScope (top 46)) (by decide +kernel)) (fun _ _ _ _ _ => pg_name (i := 1) sc_are_pages.nd rfl (Or.inl rfl)) (fun _ _ _ _ _ => tyes) (fun _ _ _ _ _ => (dfrz (dcn D_is_page (hr.mono (by decide)) hA (acons (dv 1) anil)))) (fun d i s sk yd h => Eq.mp (by kernel_rfl) h))) anil))))))).pt (sone (sret (m := 0) (dx db))) snil) (sone (sret (m := 0) (dx (dcmp (op_eqE hr.units) opd_eq (dlenSetI (by rfl) (m_len T) (m_set T) (dfrz (dlc (dec := de_are_pages_2) (emb := em_are_pages_2) (qb := qb_are_pages_2) [("page", 1)] (.one 1) hde_are_pages_2 rfl sc_are_pages.nd (iseq (dv 0)) (blkOk_by (own := [("page", 1)]) (N := N_are_pages) (sc := defScope (top 46)) (by decide +kernel)) (fun _ _ _ _ _ => pg_name (i := 1) sc_are_pages.nd rfl (Or.inl rfl)) (fun _ _ _ _ _ => tyes) (fun _ _ _ _ _ => (dixP (dv 1) di)) (fun d i s sk yd h => Eq.mp (by kernel_rfl) h)))) (dlen (m_len T) (acons (dv 0) anil)) (nomark _)))))), fun as Q h => ?_⟩
  unfold S_are_pages at h
  split at h
  · unfold q_are_pages at h
    rename_i x0
    refine at_env (b := [.dat x0, .un]) rfl ?_
    exact Eq.mp (by kernel_rfl) h
  · exact h.elim
theorem ok_are_pages (T : Tp K mg) (D_is_page : Dn P w K mg base Tb "is_page" 7 ["thing"] S_is_page) : Dn P w K mg base Tb "are_pages" 8 ["thing"] S_are_pages := by
  obtain ⟨kV, doc, pm, an, cdv, ct, Fn⟩ := T.fun_ "are_pages" (top 46) 22 102
  exact ⟨⟨_, fg_are_pages T D_is_page Fn, Fn.binds (ps := ["thing"]) fun _ _ _ _ _ _ us hl => match us, hl with | [_], _ => rfl⟩, T.glo "are_pages" 55, T.keep "are_pages" 102⟩
def kk_law_pot_of : RT → (List PyData → Prop) := fun R v => R (.cel false v) []
def S_law_pot_of : DSp := fun as Q => match as with
  | [.dat x0, .dat x1] => q_law_pot_of x0 x1 (kk_law_pot_of Q)
  | _ => False
theorem len_law_pot_of (as : List SD) (Q : SD → List SD → Prop) (h : S_law_pot_of as Q) : as.length = 2 := by
  unfold S_law_pot_of at h
  split at h
  · rfl
  · exact h.elim
theorem cels_law_pot_of : CelsIn 0 S_law_pot_of := by
  intro as Q h i p xs e
  unfold S_law_pot_of at h
  split at h
  · exact absurd e (no_cel (ds := [_, _]) i p xs)
  · exact h.elim
def N_law_pot_of : List Str := ["_law_script", "_law_k", "_law_cell"]
theorem sc_law_pot_of : FnScope N_law_pot_of ["_law_script", "_law_k"] (defScope (top 48)) := ⟨rfl, rfl, rfl, by decide +kernel, rfl, by decide +kernel, by decide +kernel⟩
theorem fg_law_pot_of (T : Tp K mg)  {fd : FuncData} (Fn : Fun K "_law_pot_of" "_law_pot_of" (top 48) (He.ga K "_law_pot_of") fd) : FnG P w K mg base Tb 1 (He.ga K "_law_pot_of") fd ["_law_script", "_law_k"] S_law_pot_of := by
  refine dfn 0 Fn sc_law_pot_of len_law_pot_of cels_law_pot_of fun cdv A outer s H hr hA => ⟨_, (scons (sset 2 sc_law_pot_of.nd (dx di)) (scons (sif (dcmpT op_ltA opr_ltA (dv 1) (dlen (m_len T) (acons (dv 0) anil)) (nomark _)) (sone (sset 2 sc_law_pot_of.nd (dx (dmod (dabs (m_abs T) (acons (dixP (dv 0) (dv 1)) anil)) (dpow (dpow di di) di))))) snil) (sone (sret (m := 0) (dlst (acons (dmul (dv 2) (dintOf (m_int T) (acons (dcmp op_ge opr_ge (dv 2) (dpow di di) (nomark _)) anil))) (acons (dmod (dpow (dadd (dadd (dmod (dv 2) di) (dmul di (dv 1))) di) di) di) anil))))))), fun as Q h => ?_⟩
  unfold S_law_pot_of at h
  split at h
  · unfold q_law_pot_of at h
    rename_i x0 x1
    refine at_env (b := [.dat x0, .dat x1, .un]) rfl ?_
    exact Eq.mp (by kernel_rfl) h
  · exact h.elim
theorem ok_law_pot_of (T : Tp K mg)  : Dn P w K mg base Tb "_law_pot_of" 1 ["_law_script", "_law_k"] S_law_pot_of := by
  obtain ⟨kV, doc, pm, an, cdv, ct, Fn⟩ := T.fun_ "_law_pot_of" (top 48) 23 103
  exact ⟨⟨_, fg_law_pot_of T  Fn, Fn.binds (ps := ["_law_script", "_law_k"]) fun _ _ _ _ _ _ us hl => match us, hl with | [_, _], _ => rfl⟩, T.glo "_law_pot_of" 56, T.keep "_law_pot_of" 103⟩
def kk_law_draw : RT → (PyData → List PyData → Prop) := fun R v c => R (.dat v) [.cel true c]
def S_law_draw : DSp := fun as Q => match as with
  | [.cel true x0, .dat x1] => q_law_draw x0 x1 (kk_law_draw Q)
  | _ => False
theorem len_law_draw (as : List SD) (Q : SD → List SD → Prop) (h : S_law_draw as Q) : as.length = 2 := by
  unfold S_law_draw at h
  split at h
  · rfl
  · exact h.elim
theorem cels_law_draw : CelsIn 1 S_law_draw := by
  intro as Q h i p xs e
  unfold S_law_draw at h
  split at h
  · exact cels1 (ds := [_]) e
  · exact h.elim
def N_law_draw : List Str := ["_law_pot", "_law_many", "_law_found"]
theorem sc_law_draw : FnScope N_law_draw ["_law_pot", "_law_many"] (defScope (top 49)) := ⟨rfl, rfl, rfl, by decide +kernel, rfl, by decide +kernel, by decide +kernel⟩
theorem fg_law_draw (T : Tp K mg)  {fd : FuncData} (Fn : Fun K "_law_draw" "_law_draw" (top 49) (He.ga K "_law_draw") fd) : FnG P w K mg base Tb 1 (He.ga K "_law_draw") fd ["_law_pot", "_law_many"] S_law_draw := by
  refine dfn 1 Fn sc_law_draw len_law_draw cels_law_draw fun cdv A outer s H hr hA => ⟨_, (scons (sif (dcmpT op_gt opr_gt (dixC 0 di) di (nomark _)) (scons (sset 2 sc_law_draw.nd (dx (dmod (dixC 0 di) (dv 1)))) (scons (ssetC 0 (ddiv (dixC 0 di) (dv 1)) di) (sone (sret (m := 1) (dx (dv 2)))))) snil) (scons (ssetC 0 (dmod (dadd (dmul (dixC 0 di) di) di) di) di) (sone (sret (m := 1) (dx (dmod (ddiv (dmod (dmul (dixC 0 di) (dixC 0 di)) di) di) (dv 1))))))), fun as Q h => ?_⟩
  unfold S_law_draw at h
  split at h
  · unfold q_law_draw at h
    rename_i x0 x1
    refine at_env (b := [.cel true x0, .dat x1, .un]) rfl ?_
    exact Eq.mp (by kernel_rfl) h
  · exact h.elim
theorem ok_law_draw (T : Tp K mg)  : Dn P w K mg base Tb "_law_draw" 1 ["_law_pot", "_law_many"] S_law_draw := by
  obtain ⟨kV, doc, pm, an, cdv, ct, Fn⟩ := T.fun_ "_law_draw" (top 49) 24 104
  exact ⟨⟨_, fg_law_draw T  Fn, Fn.binds (ps := ["_law_pot", "_law_many"]) fun _ _ _ _ _ _ us hl => match us, hl with | [_, _], _ => rfl⟩, T.glo "_law_draw" 57, T.keep "_law_draw" 104⟩
def kk_law_whole : RT → (PyData → Prop) := fun R v => R (.dat v) []
def S_law_whole : DSp := fun as Q => match as with
  | [.dat x0] => q_law_whole x0 (kk_law_whole Q)
  | _ => False
theorem len_law_whole (as : List SD) (Q : SD → List SD → Prop) (h : S_law_whole as Q) : as.length = 1 := by
  unfold S_law_whole at h
  split at h
  · rfl
  · exact h.elim
theorem cels_law_whole : CelsIn 0 S_law_whole := by
  intro as Q h i p xs e
  unfold S_law_whole at h
  split at h
  · exact absurd e (no_cel (ds := [_]) i p xs)
  · exact h.elim
def N_law_whole : List Str := ["_law_thing"]
theorem sc_law_whole : FnScope N_law_whole ["_law_thing"] (defScope (top 50)) := ⟨rfl, rfl, rfl, by decide +kernel, rfl, by decide +kernel, by decide +kernel⟩
theorem fg_law_whole (T : Tp K mg)  {fd : FuncData} (Fn : Fun K "_law_whole" "_law_whole" (top 50) (He.ga K "_law_whole") fd) : FnG P w K mg base Tb 1 (He.ga K "_law_whole") fd ["_law_thing"] S_law_whole := by
  refine dfn 0 Fn sc_law_whole len_law_whole cels_law_whole fun cdv A outer s H hr hA => ⟨_, (sone (sret (m := 0) (dx (dandV (disi "int" "int" (m_isinstance T) (m_int T) (by decide +kernel) (by decide +kernel) (dv 0)) (done (dnotV (disi "bool" "bool" (m_isinstance T) (m_bool T) (by decide +kernel) (by decide +kernel) (dv 0)))))))), fun as Q h => ?_⟩
  unfold S_law_whole at h
  split at h
  · unfold q_law_whole at h
    rename_i x0
    refine at_env (b := [.dat x0]) rfl ?_
    exact Eq.mp (by kernel_rfl) h
  · exact h.elim
theorem ok_law_whole (T : Tp K mg)  : Dn P w K mg base Tb "_law_whole" 1 ["_law_thing"] S_law_whole := by
  obtain ⟨kV, doc, pm, an, cdv, ct, Fn⟩ := T.fun_ "_law_whole" (top 50) 25 105
  exact ⟨⟨_, fg_law_whole T  Fn, Fn.binds (ps := ["_law_thing"]) fun _ _ _ _ _ _ us hl => match us, hl with | [_], _ => rfl⟩, T.glo "_law_whole" 58, T.keep "_law_whole" 105⟩
def kk_law_name : RT → (PyData → List PyData → Prop) := fun R v c => R (.dat v) [.cel true c]
def em_law_name_1 (i : PyData × PyData) (s : List PyData) : List SD := [.cel true s, .dat i.1, .dat i.2, .un]
def de_law_name_1 : List SD → Option ((PyData × PyData) × (List PyData))
  | [.cel true x0, .dat x1, .dat x2, .un] => some ((x1, x2), x0)
  | _ => none
theorem hde_law_name_1 : ∀ env i s, de_law_name_1 env = some (i, s) → env = em_law_name_1 i s := by
  intro env i s h
  unfold de_law_name_1 at h
  split at h
  · cases h; rfl
  · cases h
def S_law_name : DSp := fun as Q => match as with
  | [.cel true x0, .dat x1] => q_law_name x0 x1 (kk_law_name Q)
  | _ => False
theorem len_law_name (as : List SD) (Q : SD → List SD → Prop) (h : S_law_name as Q) : as.length = 2 := by
  unfold S_law_name at h
  split at h
  · rfl
  · exact h.elim
theorem cels_law_name : CelsIn 1 S_law_name := by
  intro as Q h i p xs e
  unfold S_law_name at h
  split at h
  · exact cels1 (ds := [_]) e
  · exact h.elim
def N_law_name : List Str := ["_law_pot", "_law_last", "_law_letters", "_law_k"]
theorem sc_law_name : FnScope N_law_name ["_law_pot", "_law_last"] (defScope (top 51)) := ⟨rfl, rfl, rfl, by decide +kernel, rfl, by decide +kernel, by decide +kernel⟩
theorem fg_law_name (T : Tp K mg) (D_law_draw : Dn P w K mg base Tb "_law_draw" 1 ["_law_pot", "_law_many"] S_law_draw) {fd : FuncData} (Fn : Fun K "_law_name" "_law_name" (top 51) (He.ga K "_law_name") fd) : FnG P w K mg base Tb 2 (He.ga K "_law_name") fd ["_law_pot", "_law_last"] S_law_name := by
  refine dfn 1 Fn sc_law_name len_law_name cels_law_name fun cdv A outer s H hr hA => ⟨_, (scons (sset 2 sc_law_name.nd (dx ds)) (sone (sret (m := 1) (dx (dadd (djoin (dfrz (dlc (dec := de_law_name_1) (emb := em_law_name_1) (qb := qb_law_name_1) [("_law_k", 3)] (.one 3) hde_law_name_1 rfl sc_law_name.nd (irange1 (m_range T) (acons (dfrz (dcnC 0 D_law_draw (hr.mono (by decide)) hA (acons di anil))) anil)) (blkOk_by (own := [("_law_k", 3)]) (N := N_law_name) (sc := defScope (top 51)) (by decide +kernel)) (fun _ _ _ _ _ => pg_name (i := 3) sc_law_name.nd rfl (Or.inl rfl)) (fun _ _ _ _ _ => tyes) (fun _ _ _ _ _ => (dixP (dv 2) (dfrz (dcnC 0 D_law_draw (hr.mono (by decide)) hA (acons di anil))))) (fun d i s sk yd h => Eq.mp (by kernel_rfl) h)))) (dixP (dv 2) (dv 1))))))), fun as Q h => ?_⟩
  unfold S_law_name at h
  split at h
  · unfold q_law_name at h
    rename_i x0 x1
    refine at_env (b := [.cel true x0, .dat x1, .un, .un]) rfl ?_
    exact Eq.mp (by kernel_rfl) h
  · exact h.elim
theorem ok_law_name (T : Tp K mg) (D_law_draw : Dn P w K mg base Tb "_law_draw" 1 ["_law_pot", "_law_many"] S_law_draw) : Dn P w K mg base Tb "_law_name" 2 ["_law_pot", "_law_last"] S_law_name := by
  obtain ⟨kV, doc, pm, an, cdv, ct, Fn⟩ := T.fun_ "_law_name" (top 51) 26 106
  exact ⟨⟨_, fg_law_name T D_law_draw Fn, Fn.binds (ps := ["_law_pot", "_law_last"]) fun _ _ _ _ _ _ us hl => match us, hl with | [_, _], _ => rfl⟩, T.glo "_law_name" 59, T.keep "_law_name" 106⟩
def kk_law_shuffled : RT → (PyData → List PyData → Prop) := fun R v c => R (.dat v) [.cel true c]
def em_law_shuffled_1 (i : PyData) (s : List PyData × List PyData) : List SD := [.cel true s.1, .dat i, .cel false s.2, .un]
def de_law_shuffled_1 : List SD → Option ((PyData) × (List PyData × List PyData))
  | [.cel true x0, .dat x1, .cel false x2, .un] => some (x1, (x0, x2))
  | _ => none
theorem hde_law_shuffled_1 : ∀ env i s, de_law_shuffled_1 env = some (i, s) → env = em_law_shuffled_1 i s := by
  intro env i s h
  unfold de_law_shuffled_1 at h
  split at h
  · cases h; rfl
  · cases h
def S_law_shuffled : DSp := fun as Q => match as with
  | [.cel true x0, .dat x1] => q_law_shuffled x0 x1 (kk_law_shuffled Q)
  | _ => False
theorem len_law_shuffled (as : List SD) (Q : SD → List SD → Prop) (h : S_law_shuffled as Q) : as.length = 2 := by
  unfold S_law_shuffled at h
  split at h
  · rfl
  · exact h.elim
theorem cels_law_shuffled : CelsIn 1 S_law_shuffled := by
  intro as Q h i p xs e
  unfold S_law_shuffled at h
  split at h
  · exact cels1 (ds := [_]) e
  · exact h.elim
def N_law_shuffled : List Str := ["_law_pot", "_law_some", "_law_left", "_law_k"]
theorem sc_law_shuffled : FnScope N_law_shuffled ["_law_pot", "_law_some"] (defScope (top 52)) := ⟨rfl, rfl, rfl, by decide +kernel, rfl, by decide +kernel, by decide +kernel⟩
theorem fg_law_shuffled (T : Tp K mg) (D_law_draw : Dn P w K mg base Tb "_law_draw" 1 ["_law_pot", "_law_many"] S_law_draw) {fd : FuncData} (Fn : Fun K "_law_shuffled" "_law_shuffled" (top 52) (He.ga K "_law_shuffled") fd) : FnG P w K mg base Tb 2 (He.ga K "_law_shuffled") fd ["_law_pot", "_law_some"] S_law_shuffled := by
  refine dfn 1 Fn sc_law_shuffled len_law_shuffled cels_law_shuffled fun cdv A outer s H hr hA => ⟨_, (scons (sset 2 sc_law_shuffled.nd (dlistOf (m_list T) (acons (dv 1) anil))) (sone (sret (m := 1) (dx (dtupleOf (m_tuple T) (acons (dfrz (dlc (dec := de_law_shuffled_1) (emb := em_law_shuffled_1) (qb := qb_law_shuffled_1) [("_law_k", 3)] (.one 3) hde_law_shuffled_1 rfl sc_law_shuffled.nd (irange1 (m_range T) (acons (dlen (m_len T) (acons (dv 1) anil)) anil)) (blkOk_by (own := [("_law_k", 3)]) (N := N_law_shuffled) (sc := defScope (top 52)) (by decide +kernel)) (fun _ _ _ _ _ => pg_name (i := 3) sc_law_shuffled.nd rfl (Or.inl rfl)) (fun _ _ _ _ _ => tyes) (fun _ _ _ _ _ => (dpop 2 (dfrz (dcnC 0 D_law_draw (hr.mono (by decide)) hA (acons (dlenC 2 (m_len T)) anil))))) (fun d i s sk yd h => Eq.mp (by kernel_rfl) h))) anil)))))), fun as Q h => ?_⟩
  unfold S_law_shuffled at h
  split at h
  · unfold q_law_shuffled at h
    rename_i x0 x1
    refine at_env (b := [.cel true x0, .dat x1, .un, .un]) rfl ?_
    exact Eq.mp (by kernel_rfl) h
  · exact h.elim
theorem ok_law_shuffled (T : Tp K mg) (D_law_draw : Dn P w K mg base Tb "_law_draw" 1 ["_law_pot", "_law_many"] S_law_draw) : Dn P w K mg base Tb "_law_shuffled" 2 ["_law_pot", "_law_some"] S_law_shuffled := by
  obtain ⟨kV, doc, pm, an, cdv, ct, Fn⟩ := T.fun_ "_law_shuffled" (top 52) 27 107
  exact ⟨⟨_, fg_law_shuffled T D_law_draw Fn, Fn.binds (ps := ["_law_pot", "_law_some"]) fun _ _ _ _ _ _ us hl => match us, hl with | [_, _], _ => rfl⟩, T.glo "_law_shuffled" 60, T.keep "_law_shuffled" 107⟩
def kk_law_log : RT → (PyData → List PyData → Prop) := fun R v c => R (.dat v) [.cel true c]
def em_law_log_1 (i : Unit) (s : List PyData × PyData × List PyData) : List SD := [.cel true s.1, .dat s.2.1, .cel false s.2.2, .un]
def de_law_log_1 : List SD → Option ((Unit) × (List PyData × PyData × List PyData))
  | [.cel true x0, .dat x1, .cel false x2, .un] => some ((), (x0, x1, x2))
  | _ => none
theorem hde_law_log_1 : ∀ env i s, de_law_log_1 env = some (i, s) → env = em_law_log_1 i s := by
  intro env i s h
  unfold de_law_log_1 at h
  split at h
  · cases h; rfl
  · cases h
def S_law_log : DSp := fun as Q => match as with
  | [.cel true x0] => q_law_log x0 (kk_law_log Q)
  | _ => False
theorem len_law_log (as : List SD) (Q : SD → List SD → Prop) (h : S_law_log as Q) : as.length = 1 := by
  unfold S_law_log at h
  split at h
  · rfl
  · exact h.elim
theorem cels_law_log : CelsIn 1 S_law_log := by
  intro as Q h i p xs e
  unfold S_law_log at h
  split at h
  · exact cels1 (ds := []) e
  · exact h.elim
def N_law_log : List Str := ["_law_pot", "_law_hour", "_law_found", "_law_k"]
theorem sc_law_log : FnScope N_law_log ["_law_pot"] (defScope (top 53)) := ⟨rfl, rfl, rfl, by decide +kernel, rfl, by decide +kernel, by decide +kernel⟩
theorem fg_law_log (T : Tp K mg) (D_law_draw : Dn P w K mg base Tb "_law_draw" 1 ["_law_pot", "_law_many"] S_law_draw) {fd : FuncData} (Fn : Fun K "_law_log" "_law_log" (top 53) (He.ga K "_law_log") fd) : FnG P w K mg base Tb 2 (He.ga K "_law_log") fd ["_law_pot"] S_law_log := by
  refine dfn 1 Fn sc_law_log len_law_log cels_law_log fun cdv A outer s H hr hA => ⟨_, (scons (sset 1 sc_law_log.nd (dcnC 0 D_law_draw (hr.mono (by decide)) hA (acons di anil))) (scons (sset 2 sc_law_log.nd (dlst anil)) (scons (sforQ [3] de_law_log_1 em_law_log_1 kk_law_log qb_law_log_1 hde_law_log_1 PassesOwn.never rfl (irange1 (m_range T) (acons (dadd di (dfrz (dcnC 0 D_law_draw (hr.mono (by decide)) hA (acons di anil)))) anil)) (gn 3 sc_law_log.nd) (scons (sapp 2 (dtup (acons (dv 1) (acons (dsub (dfrz (dcnC 0 D_law_draw (hr.mono (by decide)) hA (acons di anil))) di) (acons (dsub (dfrz (dcnC 0 D_law_draw (hr.mono (by decide)) hA (acons di anil))) di) anil))))) (sone (sset 1 sc_law_log.nd (dx (dadd (dadd (dv 1) di) (dfrz (dcnC 0 D_law_draw (hr.mono (by decide)) hA (acons di anil)))))))) (fun R d i s nx bk h => Eq.mp (by kernel_rfl) h)) (sone (sret (m := 1) (dx (dtupC 2 (m_tuple T)))))))), fun as Q h => ?_⟩
  unfold S_law_log at h
  split at h
  · unfold q_law_log at h
    rename_i x0
    refine at_env (b := [.cel true x0, .un, .un, .un]) rfl ?_
    exact Eq.mp (by kernel_rfl) h
  · exact h.elim
theorem ok_law_log (T : Tp K mg) (D_law_draw : Dn P w K mg base Tb "_law_draw" 1 ["_law_pot", "_law_many"] S_law_draw) : Dn P w K mg base Tb "_law_log" 2 ["_law_pot"] S_law_log := by
  obtain ⟨kV, doc, pm, an, cdv, ct, Fn⟩ := T.fun_ "_law_log" (top 53) 28 108
  exact ⟨⟨_, fg_law_log T D_law_draw Fn, Fn.binds (ps := ["_law_pot"]) fun _ _ _ _ _ _ us hl => match us, hl with | [_], _ => rfl⟩, T.glo "_law_log" 61, T.keep "_law_log" 108⟩
def kk_law_scheme : RT → (PyData → List PyData → Prop) := fun R v c => R (.dat v) [.cel true c]
def em_law_scheme_1 (i : PyData × PyData) (s : List PyData × List PyData) : List SD := [.cel true s.1, .dat i.1, .dat i.2, .cel false s.2, .un, .un, .un, .un]
def de_law_scheme_1 : List SD → Option ((PyData × PyData) × (List PyData × List PyData))
  | [.cel true x0, .dat x1, .dat x2, .cel false x3, .un, .un, .un, .un] => some ((x1, x2), (x0, x3))
  | _ => none
theorem hde_law_scheme_1 : ∀ env i s, de_law_scheme_1 env = some (i, s) → env = em_law_scheme_1 i s := by
  intro env i s h
  unfold de_law_scheme_1 at h
  split at h
  · cases h; rfl
  · cases h
def em_law_scheme_2 (i : PyData × PyData × List PyData) (s : List PyData) : List SD := [.cel true s, .dat i.1, .dat i.2.1, .cel false i.2.2, .un, .un, .un, .un]
def de_law_scheme_2 : List SD → Option ((PyData × PyData × List PyData) × (List PyData))
  | [.cel true x0, .dat x1, .dat x2, .cel false x3, .un, .un, .un, .un] => some ((x1, x2, x3), x0)
  | _ => none
theorem hde_law_scheme_2 : ∀ env i s, de_law_scheme_2 env = some (i, s) → env = em_law_scheme_2 i s := by
  intro env i s h
  unfold de_law_scheme_2 at h
  split at h
  · cases h; rfl
  · cases h
def S_law_scheme : DSp := fun as Q => match as with
  | [.cel true x0, .dat x1] => q_law_scheme x0 x1 (kk_law_scheme Q)
  | _ => False
theorem len_law_scheme (as : List SD) (Q : SD → List SD → Prop) (h : S_law_scheme as Q) : as.length = 2 := by
  unfold S_law_scheme at h
  split at h
  · rfl
  · exact h.elim
theorem cels_law_scheme : CelsIn 1 S_law_scheme := by
  intro as Q h i p xs e
  unfold S_law_scheme at h
  split at h
  · exact cels1 (ds := [_]) e
  · exact h.elim
def N_law_scheme : List Str := ["_law_pot", "_law_ranks", "_law_classes", "_law_eighths", "_law_k", "_law_at", "_law_named", "_law_rank"]
theorem sc_law_scheme : FnScope N_law_scheme ["_law_pot", "_law_ranks"] (defScope (top 54)) := ⟨rfl, rfl, rfl, by decide +kernel, rfl, by decide +kernel, by decide +kernel⟩
theorem fg_law_scheme (T : Tp K mg) (D_law_draw : Dn P w K mg base Tb "_law_draw" 1 ["_law_pot", "_law_many"] S_law_draw) {fd : FuncData} (Fn : Fun K "_law_scheme" "_law_scheme" (top 54) (He.ga K "_law_scheme") fd) : FnG P w K mg base Tb 2 (He.ga K "_law_scheme") fd ["_law_pot", "_law_ranks"] S_law_scheme := by
  refine dfn 1 Fn sc_law_scheme len_law_scheme cels_law_scheme fun cdv A outer s H hr hA => ⟨_, (scons (sset 2 sc_law_scheme.nd (dx (dadd di (dfrz (dcnC 0 D_law_draw (hr.mono (by decide)) hA (acons di anil)))))) (scons (sset 3 sc_law_scheme.nd (drep di (dv 2))) (scons (sforQ [4, 5] de_law_scheme_1 em_law_scheme_1 kk_law_scheme qb_law_scheme_1 hde_law_scheme_1 PassesOwn.never rfl (irange1 (m_range T) (acons di anil)) (gn 4 sc_law_scheme.nd) (scons (sset 5 sc_law_scheme.nd (dcnC 0 D_law_draw (hr.mono (by decide)) hA (acons (dv 2) anil))) (sone (ssetC 3 (dadd (dixC 3 (dv 5)) di) (dv 5)))) (fun R d i s nx bk h => Eq.mp (by kernel_rfl) h)) (scons (ssetLc (dec := de_law_scheme_2) (emb := em_law_scheme_2) (qb := qb_law_scheme_2) 6 [("_law_rank", 7)] (.one 7) hde_law_scheme_2 rfl sc_law_scheme.nd (iseq (dfrz (dsorted hr (m_sorted T) (dv 1)))) (blkOk_by (own := [("_law_rank", 7)]) (N := N_law_scheme) (sc := defScope (top 54)) (by decide +kernel)) (fun _ _ _ _ _ => pg_name (i := 7) sc_law_scheme.nd rfl (Or.inl rfl)) (fun _ _ _ _ _ => tif1 (dcmpT op_gt opr_gt (dfrz (dcnC 0 D_law_draw (hr.mono (by decide)) hA (acons di anil))) di (nomark _))) (fun _ _ _ _ _ => (dtup (acons (dv 7) (acons (dfrz (dcnC 0 D_law_draw (hr.mono (by decide)) hA (acons (dv 2) anil))) anil)))) (fun d i s sk yd h => Eq.mp (by kernel_rfl) h) (sw_true rfl rfl rfl (by decide +kernel))) (sone (sret (m := 1) (dx (dtup (acons (dtupC 3 (m_tuple T)) (acons (dtupC 6 (m_tuple T)) anil)))))))))), fun as Q h => ?_⟩
  unfold S_law_scheme at h
  split at h
  · unfold q_law_scheme at h
    rename_i x0 x1
    refine at_env (b := [.cel true x0, .dat x1, .un, .un, .un, .un, .un, .un]) rfl ?_
    exact Eq.mp (by kernel_rfl) h
  · exact h.elim
theorem ok_law_scheme (T : Tp K mg) (D_law_draw : Dn P w K mg base Tb "_law_draw" 1 ["_law_pot", "_law_many"] S_law_draw) : Dn P w K mg base Tb "_law_scheme" 2 ["_law_pot", "_law_ranks"] S_law_scheme := by
  obtain ⟨kV, doc, pm, an, cdv, ct, Fn⟩ := T.fun_ "_law_scheme" (top 54) 29 109
  exact ⟨⟨_, fg_law_scheme T D_law_draw Fn, Fn.binds (ps := ["_law_pot", "_law_ranks"]) fun _ _ _ _ _ _ us hl => match us, hl with | [_, _], _ => rfl⟩, T.glo "_law_scheme" 62, T.keep "_law_scheme" 109⟩
def kk_law_sale : RT → (PyData → List PyData → Prop) := fun R v c => R (.dat v) [.cel true c]
def S_law_sale : DSp := fun as Q => match as with
  | [.cel true x0] => q_law_sale x0 (kk_law_sale Q)
  | _ => False
theorem len_law_sale (as : List SD) (Q : SD → List SD → Prop) (h : S_law_sale as Q) : as.length = 1 := by
  unfold S_law_sale at h
  split at h
  · rfl
  · exact h.elim
theorem cels_law_sale : CelsIn 1 S_law_sale := by
  intro as Q h i p xs e
  unfold S_law_sale at h
  split at h
  · exact cels1 (ds := []) e
  · exact h.elim
def N_law_sale : List Str := ["_law_pot", "_law_way", "_law_gross", "_law_charges", "_law_rate", "_law_part"]
theorem sc_law_sale : FnScope N_law_sale ["_law_pot"] (defScope (top 55)) := ⟨rfl, rfl, rfl, by decide +kernel, rfl, by decide +kernel, by decide +kernel⟩
theorem fg_law_sale (T : Tp K mg) (D_law_draw : Dn P w K mg base Tb "_law_draw" 1 ["_law_pot", "_law_many"] S_law_draw) {fd : FuncData} (Fn : Fun K "_law_sale" "_law_sale" (top 55) (He.ga K "_law_sale") fd) : FnG P w K mg base Tb 2 (He.ga K "_law_sale") fd ["_law_pot"] S_law_sale := by
  refine dfn 1 Fn sc_law_sale len_law_sale cels_law_sale fun cdv A outer s H hr hA => ⟨_, (scons (sset 1 sc_law_sale.nd (dcnC 0 D_law_draw (hr.mono (by decide)) hA (acons di anil))) (scons (sset 2 sc_law_sale.nd (dx (dixP (dtup (acons (dfrz (dcnC 0 D_law_draw (hr.mono (by decide)) hA (acons di anil))) (acons (dfrz (dcnC 0 D_law_draw (hr.mono (by decide)) hA (acons di anil))) (acons (dfrz (dcnC 0 D_law_draw (hr.mono (by decide)) hA (acons (dadd (dpow di di) di) anil))) (acons (dpow di di) anil))))) (dv 1)))) (scons (sset 3 sc_law_sale.nd (dx (dixP (dtup (acons di (acons (dfrz (dcnC 0 D_law_draw (hr.mono (by decide)) hA (acons di anil))) (acons (dfrz (dcnC 0 D_law_draw (hr.mono (by decide)) hA (acons (dadd (dpow di di) di) anil))) (acons (dfrz (dcnC 0 D_law_draw (hr.mono (by decide)) hA (acons di anil))) anil))))) (dfrz (dcnC 0 D_law_draw (hr.mono (by decide)) hA (acons di anil)))))) (scons (sset 4 sc_law_sale.nd (dx (dixP (dtup (acons di (acons (dfrz (dcnC 0 D_law_draw (hr.mono (by decide)) hA (acons di anil))) (acons di (acons di anil))))) (dfrz (dcnC 0 D_law_draw (hr.mono (by decide)) hA (acons di anil)))))) (scons (sset 5 sc_law_sale.nd (dx (dixP (dtup (acons (dtup (acons di (acons di anil))) (acons (dtup (acons di (acons di anil))) (acons (dtup (acons di (acons di anil))) (acons (dtup (acons di (acons di anil))) anil))))) (dfrz (dcnC 0 D_law_draw (hr.mono (by decide)) hA (acons di anil)))))) (sone (sret (m := 1) (dx (dtup (acons (dv 2) (acons (dv 3) (acons (dv 4) (acons (dfrz (dcnC 0 D_law_draw (hr.mono (by decide)) hA (acons di anil))) (acons (dixP (dtup (acons (dfrz (dcnC 0 D_law_draw (hr.mono (by decide)) hA (acons di anil))) (acons (dpow di di) anil))) (ddiv (dfrz (dcnC 0 D_law_draw (hr.mono (by decide)) hA (acons di anil))) di)) (acons (dv 5) anil))))))))))))))), fun as Q h => ?_⟩
  unfold S_law_sale at h
  split at h
  · unfold q_law_sale at h
    rename_i x0
    refine at_env (b := [.cel true x0, .un, .un, .un, .un, .un]) rfl ?_
    exact Eq.mp (by kernel_rfl) h
  · exact h.elim
theorem ok_law_sale (T : Tp K mg) (D_law_draw : Dn P w K mg base Tb "_law_draw" 1 ["_law_pot", "_law_many"] S_law_draw) : Dn P w K mg base Tb "_law_sale" 2 ["_law_pot"] S_law_sale := by
  obtain ⟨kV, doc, pm, an, cdv, ct, Fn⟩ := T.fun_ "_law_sale" (top 55) 30 110
  exact ⟨⟨_, fg_law_sale T D_law_draw Fn, Fn.binds (ps := ["_law_pot"]) fun _ _ _ _ _ _ us hl => match us, hl with | [_], _ => rfl⟩, T.glo "_law_sale" 63, T.keep "_law_sale" 110⟩
def kk_law_folk : RT → (PyData → List PyData → Prop) := fun R v c => R (.dat v) [.cel true c]
def em_law_folk_1 (i : Unit) (s : List PyData) : List SD := [.cel true s, .un, .un, .un, .un]
def de_law_folk_1 : List SD → Option ((Unit) × (List PyData))
  | [.cel true x0, .un, .un, .un, .un] => some ((), x0)
  | _ => none
theorem hde_law_folk_1 : ∀ env i s, de_law_folk_1 env = some (i, s) → env = em_law_folk_1 i s := by
  intro env i s h
  unfold de_law_folk_1 at h
  split at h
  · cases h; rfl
  · cases h
def em_law_folk_2 (i : List PyData) (s : List PyData) : List SD := [.cel true s, .cel false i, .un, .un, .un]
def de_law_folk_2 : List SD → Option ((List PyData) × (List PyData))
  | [.cel true x0, .cel false x1, .un, .un, .un] => some (x1, x0)
  | _ => none
theorem hde_law_folk_2 : ∀ env i s, de_law_folk_2 env = some (i, s) → env = em_law_folk_2 i s := by
  intro env i s h
  unfold de_law_folk_2 at h
  split at h
  · cases h; rfl
  · cases h
def em_law_folk_3 (i : List PyData × List PyData) (s : List PyData) : List SD := [.cel true s, .cel false i.1, .cel false i.2, .un, .un]
def de_law_folk_3 : List SD → Option ((List PyData × List PyData) × (List PyData))
  | [.cel true x0, .cel false x1, .cel false x2, .un, .un] => some ((x1, x2), x0)
  | _ => none
theorem hde_law_folk_3 : ∀ env i s, de_law_folk_3 env = some (i, s) → env = em_law_folk_3 i s := by
  intro env i s h
  unfold de_law_folk_3 at h
  split at h
  · cases h; rfl
  · cases h
def S_law_folk : DSp := fun as Q => match as with
  | [.cel true x0] => q_law_folk x0 (kk_law_folk Q)
  | _ => False
theorem len_law_folk (as : List SD) (Q : SD → List SD → Prop) (h : S_law_folk as Q) : as.length = 1 := by
  unfold S_law_folk at h
  split at h
  · rfl
  · exact h.elim
theorem cels_law_folk : CelsIn 1 S_law_folk := by
  intro as Q h i p xs e
  unfold S_law_folk at h
  split at h
  · exact cels1 (ds := []) e
  · exact h.elim
def N_law_folk : List Str := ["_law_pot", "_law_ships", "_law_men", "_law_ranks", "_law_k"]
theorem sc_law_folk : FnScope N_law_folk ["_law_pot"] (defScope (top 56)) := ⟨rfl, rfl, rfl, by decide +kernel, rfl, by decide +kernel, by decide +kernel⟩
theorem fg_law_folk (T : Tp K mg) (D_law_draw : Dn P w K mg base Tb "_law_draw" 1 ["_law_pot", "_law_many"] S_law_draw) (D_law_name : Dn P w K mg base Tb "_law_name" 2 ["_law_pot", "_law_last"] S_law_name) {fd : FuncData} (Fn : Fun K "_law_folk" "_law_folk" (top 56) (He.ga K "_law_folk") fd) : FnG P w K mg base Tb 3 (He.ga K "_law_folk") fd ["_law_pot"] S_law_folk := by
  refine dfn 1 Fn sc_law_folk len_law_folk cels_law_folk fun cdv A outer s H hr hA => ⟨_, (scons (ssetLc (dec := de_law_folk_1) (emb := em_law_folk_1) (qb := qb_law_folk_1) 1 [("_law_k", 4)] (.one 4) hde_law_folk_1 rfl sc_law_folk.nd (irange1 (m_range T) (acons (dadd di (dfrz (dcnC 0 D_law_draw (hr.mono (by decide)) hA (acons di anil)))) anil)) (blkOk_by (own := [("_law_k", 4)]) (N := N_law_folk) (sc := defScope (top 56)) (by decide +kernel)) (fun _ _ _ _ _ => pg_name (i := 4) sc_law_folk.nd rfl (Or.inl rfl)) (fun _ _ _ _ _ => tyes) (fun _ _ _ _ _ => (dfrz (dcnC 0 D_law_name (hr.mono (by decide)) hA (acons (dv 4) anil)))) (fun d i s sk yd h => Eq.mp (by kernel_rfl) h) (sw_true rfl rfl rfl (by decide +kernel))) (scons (ssetLc (dec := de_law_folk_2) (emb := em_law_folk_2) (qb := qb_law_folk_2) 2 [("_law_k", 4)] (.one 4) hde_law_folk_2 rfl sc_law_folk.nd (irange1 (m_range T) (acons (dadd di (dfrz (dcnC 0 D_law_draw (hr.mono (by decide)) hA (acons di anil)))) anil)) (blkOk_by (own := [("_law_k", 4)]) (N := N_law_folk) (sc := defScope (top 56)) (by decide +kernel)) (fun _ _ _ _ _ => pg_name (i := 4) sc_law_folk.nd rfl (Or.inl rfl)) (fun _ _ _ _ _ => tyes) (fun _ _ _ _ _ => (dfrz (dcnC 0 D_law_name (hr.mono (by decide)) hA (acons (dadd di (dv 4)) anil)))) (fun d i s sk yd h => Eq.mp (by kernel_rfl) h) (sw_true rfl rfl rfl (by decide +kernel))) (scons (ssetLc (dec := de_law_folk_3) (emb := em_law_folk_3) (qb := qb_law_folk_3) 3 [("_law_k", 4)] (.one 4) hde_law_folk_3 rfl sc_law_folk.nd (irange1 (m_range T) (acons di anil)) (blkOk_by (own := [("_law_k", 4)]) (N := N_law_folk) (sc := defScope (top 56)) (by decide +kernel)) (fun _ _ _ _ _ => pg_name (i := 4) sc_law_folk.nd rfl (Or.inl rfl)) (fun _ _ _ _ _ => tyes) (fun _ _ _ _ _ => (dfrz (dcnC 0 D_law_name (hr.mono (by decide)) hA (acons (dadd di (dv 4)) anil)))) (fun d i s sk yd h => Eq.mp (by kernel_rfl) h) (sw_true rfl rfl rfl (by decide +kernel))) (ssfreeze2 2 (ssfreeze2 3 (ssfreeze2 1 (sone (sret (m := 1) (dx (dtup (acons (dv 1) (acons (dv 2) (acons (dv 3) (acons (dfrz (dlst (acons (dfrz (dcnC 0 D_law_name (hr.mono (by decide)) hA (acons di anil))) (acons (dfrz (dcnC 0 D_law_name (hr.mono (by decide)) hA (acons di anil))) anil)))) anil)))))))))))))), fun as Q h => ?_⟩
  unfold S_law_folk at h
  split at h
  · unfold q_law_folk at h
    rename_i x0
    refine at_env (b := [.cel true x0, .un, .un, .un, .un]) rfl ?_
    exact Eq.mp (by kernel_rfl) h
  · exact h.elim
theorem ok_law_folk (T : Tp K mg) (D_law_draw : Dn P w K mg base Tb "_law_draw" 1 ["_law_pot", "_law_many"] S_law_draw) (D_law_name : Dn P w K mg base Tb "_law_name" 2 ["_law_pot", "_law_last"] S_law_name) : Dn P w K mg base Tb "_law_folk" 3 ["_law_pot"] S_law_folk := by
  obtain ⟨kV, doc, pm, an, cdv, ct, Fn⟩ := T.fun_ "_law_folk" (top 56) 31 111
  exact ⟨⟨_, fg_law_folk T D_law_draw D_law_name Fn, Fn.binds (ps := ["_law_pot"]) fun _ _ _ _ _ _ us hl => match us, hl with | [_], _ => rfl⟩, T.glo "_law_folk" 64, T.keep "_law_folk" 111⟩
def kk_law_core : RT → (PyData → List PyData → Prop) := fun R v c => R (.dat v) [.cel true c]
def em_law_core_1 (i : PyData × PyData × PyData × PyData) (s : List PyData × List PyData) : List SD := [.cel true s.1, .un, .dat i.1, .dat i.2.1, .dat i.2.2.1, .dat i.2.2.2, .cel false s.2, .un, .un, .un, .un]
def de_law_core_1 : List SD → Option ((PyData × PyData × PyData × PyData) × (List PyData × List PyData))
  | [.cel true x0, .un, .dat x2, .dat x3, .dat x4, .dat x5, .cel false x6, .un, .un, .un, .un] => some ((x2, x3, x4, x5), (x0, x6))
  | _ => none
theorem hde_law_core_1 : ∀ env i s, de_law_core_1 env = some (i, s) → env = em_law_core_1 i s := by
  intro env i s h
  unfold de_law_core_1 at h
  split at h
  · cases h; rfl
  · cases h
def em_law_core_2 (i : PyData × PyData × PyData × PyData × List PyData × PyData) (s : List PyData) : List SD := [.cel true s, .un, .dat i.1, .dat i.2.1, .dat i.2.2.1, .dat i.2.2.2.1, .cel false i.2.2.2.2.1, .dat i.2.2.2.2.2, .un, .un, .un]
def de_law_core_2 : List SD → Option ((PyData × PyData × PyData × PyData × List PyData × PyData) × (List PyData))
  | [.cel true x0, .un, .dat x2, .dat x3, .dat x4, .dat x5, .cel false x6, .dat x7, .un, .un, .un] => some ((x2, x3, x4, x5, x6, x7), x0)
  | _ => none
theorem hde_law_core_2 : ∀ env i s, de_law_core_2 env = some (i, s) → env = em_law_core_2 i s := by
  intro env i s h
  unfold de_law_core_2 at h
  split at h
  · cases h; rfl
  · cases h
def em_law_core_3 (i : PyData × PyData × PyData) (s : List PyData × List PyData) : List SD := [.cel true s.1, .un, .dat i.1, .un, .dat i.2.1, .dat i.2.2, .cel false s.2, .un, .un, .un, .un]
def de_law_core_3 : List SD → Option ((PyData × PyData × PyData) × (List PyData × List PyData))
  | [.cel true x0, .un, .dat x2, .un, .dat x4, .dat x5, .cel false x6, .un, .un, .un, .un] => some ((x2, x4, x5), (x0, x6))
  | _ => none
theorem hde_law_core_3 : ∀ env i s, de_law_core_3 env = some (i, s) → env = em_law_core_3 i s := by
  intro env i s h
  unfold de_law_core_3 at h
  split at h
  · cases h; rfl
  · cases h
def S_law_core : DSp := fun as Q => match as with
  | [.cel true x0, .dat x1] => q_law_core x0 x1 (kk_law_core Q)
  | _ => False
theorem len_law_core (as : List SD) (Q : SD → List SD → Prop) (h : S_law_core as Q) : as.length = 2 := by
  unfold S_law_core at h
  split at h
  · rfl
  · exact h.elim
theorem cels_law_core : CelsIn 1 S_law_core := by
  intro as Q h i p xs e
  unfold S_law_core at h
  split at h
  · exact cels1 (ds := [_]) e
  · exact h.elim
def N_law_core : List Str := ["_law_pot", "_law_folk_here", "_law_ships", "_law_men", "_law_ranks", "_law_prizes", "_law_found", "_law_ship", "_law_k", "_law_man", "_law_low"]
theorem sc_law_core : FnScope N_law_core ["_law_pot", "_law_folk_here"] (defScope (top 57)) := ⟨rfl, rfl, rfl, by decide +kernel, rfl, by decide +kernel, by decide +kernel⟩
theorem fg_law_core (T : Tp K mg) (D_law_draw : Dn P w K mg base Tb "_law_draw" 1 ["_law_pot", "_law_many"] S_law_draw) (D_law_log : Dn P w K mg base Tb "_law_log" 2 ["_law_pot"] S_law_log) (D_law_sale : Dn P w K mg base Tb "_law_sale" 2 ["_law_pot"] S_law_sale) (D_law_scheme : Dn P w K mg base Tb "_law_scheme" 2 ["_law_pot", "_law_ranks"] S_law_scheme) {fd : FuncData} (Fn : Fun K "_law_core" "_law_core" (top 57) (He.ga K "_law_core") fd) : FnG P w K mg base Tb 3 (He.ga K "_law_core") fd ["_law_pot", "_law_folk_here"] S_law_core := by
  refine dfn 1 Fn sc_law_core len_law_core cels_law_core fun cdv A outer s H hr hA => ⟨_, (scons (sasg (dv 1) (gtup (gl_cons gok_n (gl_cons gok_n (gl_cons gok_n (gl_cons gok_n gl_nil)))) rfl (gcons (gn 2 sc_law_core.nd) (gcons (gn 3 sc_law_core.nd) (gcons (gn 4 sc_law_core.nd) (gcons (gn 5 sc_law_core.nd) gnil)))))) (scons (sset 6 sc_law_core.nd (dlst anil)) (ssforget [1] (scons (sforQ [7] de_law_core_1 em_law_core_1 kk_law_core qb_law_core_1 hde_law_core_1 PassesOwn.never rfl (iseq (dv 2)) (gn 7 sc_law_core.nd) (sone (sext 6 (dlc (dec := de_law_core_2) (emb := em_law_core_2) (qb := qb_law_core_2) [("_law_k", 8)] (.one 8) hde_law_core_2 rfl sc_law_core.nd (irange1 (m_range T) (acons (dadd di (dfrz (dcnC 0 D_law_draw (hr.mono (by decide)) hA (acons di anil)))) anil)) (blkOk_by (own := [("_law_k", 8)]) (N := N_law_core) (sc := defScope (top 57)) (by decide +kernel)) (fun _ _ _ _ _ => pg_name (i := 8) sc_law_core.nd rfl (Or.inl rfl)) (fun _ _ _ _ _ => tyes) (fun _ _ _ _ _ => (dtup (acons ds (acons (dv 7) (acons (dfrz (dcnC 0 D_law_log (hr.mono (by decide)) hA anil)) anil))))) (fun d i s sk yd h => Eq.mp (by kernel_rfl) h)))) (fun R d i s nx bk h => Eq.mp (by kernel_rfl) h)) (scons (sforQ [3, 7, 8, 9] de_law_core_3 em_law_core_3 kk_law_core qb_law_core_3 hde_law_core_3 PassesOwn.never rfl (ienum (m_enumerate T) (acons (dv 3) anil)) (gtup (gl_cons gok_n (gl_cons gok_n gl_nil)) rfl (gcons (gn 8 sc_law_core.nd) (gcons (gn 9 sc_law_core.nd) gnil))) (scons (sset 7 sc_law_core.nd (dx (dixP (dadd (dadd (dfrz (dlst (acons (dixP (dv 2) di) anil))) (dv 2)) (dfrz (dlst (acons ds anil)))) (dmul (dfrz (dcnC 0 D_law_draw (hr.mono (by decide)) hA (acons (dadd (dlen (m_len T) (acons (dv 2) anil)) di) anil))) (dintOf (m_int T) (acons (dcmp op_gt opr_gt (dv 8) di (nomark _)) anil)))))) (sone (sapp 6 (dtup (acons ds (acons (dv 9) (acons (dfrz (dcnC 0 D_law_draw (hr.mono (by decide)) hA (acons di anil))) (acons (dv 7) (acons (dixP (dv 4) (dfrz (dcnC 0 D_law_draw (hr.mono (by decide)) hA (acons di anil)))) anil))))))))) (fun R d i s nx bk h => Eq.mp (by kernel_rfl) h)) (scons (sapp 6 (dtup (acons ds (acons (dfrz (dcnC 0 D_law_draw (hr.mono (by decide)) hA (acons di anil))) (acons (dfrz (dcnC 0 D_law_scheme (hr.mono (by decide)) hA (acons (dv 4) anil))) anil))))) (scons (sset 10 sc_law_core.nd (dx (dadd di (dfrz (dcnC 0 D_law_draw (hr.mono (by decide)) hA (acons di anil)))))) (scons (sapp 6 (dtup (acons ds (acons (dixP (dv 5) di) (acons (dixP (dv 2) di) (acons (dv 10) (acons (dadd (dv 10) (dfrz (dcnC 0 D_law_draw (hr.mono (by decide)) hA (acons di anil)))) (acons (dfrz (dcnC 0 D_law_draw (hr.mono (by decide)) hA (acons di anil))) anil)))))))) (scons (sapp 6 (dadd (dtup (acons ds (acons (dixP (dv 5) di) anil))) (dfrz (dcnC 0 D_law_sale (hr.mono (by decide)) hA anil)))) (ssforget [2, 4, 5, 10] (scons (sif (dcmpT (op_eqE hr.units) opd_eq (dfrz (dcnC 0 D_law_draw (hr.mono (by decide)) hA (acons di anil))) di (nomark _)) (sone (sexpr (dx (dpop 6 (dfrz (dcnC 0 D_law_draw (hr.mono (by decide)) hA (acons (dlenC 6 (m_len T)) anil))))))) snil) (ssfreeze2 6 (sone (sret (m := 1) (dx (dv 6)))))))))))))))), fun as Q h => ?_⟩
  unfold S_law_core at h
  split at h
  · unfold q_law_core at h
    rename_i x0 x1
    refine at_env (b := [.cel true x0, .dat x1, .un, .un, .un, .un, .un, .un, .un, .un, .un]) rfl ?_
    exact Eq.mp (by kernel_rfl) h
  · exact h.elim
theorem ok_law_core (T : Tp K mg) (D_law_draw : Dn P w K mg base Tb "_law_draw" 1 ["_law_pot", "_law_many"] S_law_draw) (D_law_log : Dn P w K mg base Tb "_law_log" 2 ["_law_pot"] S_law_log) (D_law_sale : Dn P w K mg base Tb "_law_sale" 2 ["_law_pot"] S_law_sale) (D_law_scheme : Dn P w K mg base Tb "_law_scheme" 2 ["_law_pot", "_law_ranks"] S_law_scheme) : Dn P w K mg base Tb "_law_core" 3 ["_law_pot", "_law_folk_here"] S_law_core := by
  obtain ⟨kV, doc, pm, an, cdv, ct, Fn⟩ := T.fun_ "_law_core" (top 57) 32 112
  exact ⟨⟨_, fg_law_core T D_law_draw D_law_log D_law_sale D_law_scheme Fn, Fn.binds (ps := ["_law_pot", "_law_folk_here"]) fun _ _ _ _ _ _ us hl => match us, hl with | [_, _], _ => rfl⟩, T.glo "_law_core" 65, T.keep "_law_core" 112⟩
def kk_law_more : RT → (PyData → List PyData → Prop) := fun R v c => R (.dat v) [.cel true c]
def S_law_more : DSp := fun as Q => match as with
  | [.cel true x0, .dat x1, .dat x2, .dat x3] => q_law_more x0 x1 x2 x3 (kk_law_more Q)
  | _ => False
theorem len_law_more (as : List SD) (Q : SD → List SD → Prop) (h : S_law_more as Q) : as.length = 4 := by
  unfold S_law_more at h
  split at h
  · rfl
  · exact h.elim
theorem cels_law_more : CelsIn 1 S_law_more := by
  intro as Q h i p xs e
  unfold S_law_more at h
  split at h
  · exact cels1 (ds := [_, _, _]) e
  · exact h.elim
def N_law_more : List Str := ["_law_pot", "_law_folk_here", "_law_numbers", "_law_own", "_law_ships", "_law_men", "_law_ranks", "_law_prizes", "_law_ship", "_law_man", "_law_prize", "_law_number", "_law_way", "_law_aboard", "_law_low"]
theorem sc_law_more : FnScope N_law_more ["_law_pot", "_law_folk_here", "_law_numbers", "_law_own"] (defScope (top 58)) := ⟨rfl, rfl, rfl, by decide +kernel, rfl, by decide +kernel, by decide +kernel⟩
theorem fg_law_more (T : Tp K mg) (D_law_draw : Dn P w K mg base Tb "_law_draw" 1 ["_law_pot", "_law_many"] S_law_draw) (D_law_log : Dn P w K mg base Tb "_law_log" 2 ["_law_pot"] S_law_log) (D_law_sale : Dn P w K mg base Tb "_law_sale" 2 ["_law_pot"] S_law_sale) (D_law_scheme : Dn P w K mg base Tb "_law_scheme" 2 ["_law_pot", "_law_ranks"] S_law_scheme) {fd : FuncData} (Fn : Fun K "_law_more" "_law_more" (top 58) (He.ga K "_law_more") fd) : FnG P w K mg base Tb 3 (He.ga K "_law_more") fd ["_law_pot", "_law_folk_here", "_law_numbers", "_law_own"] S_law_more := by
  refine dfn 1 Fn sc_law_more len_law_more cels_law_more fun cdv A outer s H hr hA => ⟨_, (scons (sasg (dv 1) (gtup (gl_cons gok_n (gl_cons gok_n (gl_cons gok_n (gl_cons gok_n gl_nil)))) rfl (gcons (gn 4 sc_law_more.nd) (gcons (gn 5 sc_law_more.nd) (gcons (gn 6 sc_law_more.nd) (gcons (gn 7 sc_law_more.nd) gnil)))))) (scons (sset 8 sc_law_more.nd (dx (dixP (dv 4) (dfrz (dcnC 0 D_law_draw (hr.mono (by decide)) hA (acons (dlen (m_len T) (acons (dv 4) anil)) anil)))))) (scons (sset 9 sc_law_more.nd (dx (dixP (dv 5) (dfrz (dcnC 0 D_law_draw (hr.mono (by decide)) hA (acons (dlen (m_len T) (acons (dv 5) anil)) anil)))))) (scons (sset 10 sc_law_more.nd (dx (dixP (dv 7) (ddiv (dfrz (dcnC 0 D_law_draw (hr.mono (by decide)) hA (acons di anil))) di)))) (scons (sset 11 sc_law_more.nd (dx (dixP (dv 2) (dfrz (dcnC 0 D_law_draw (hr.mono (by decide)) hA (acons (dlen (m_len T) (acons (dv 2) anil)) anil)))))) (scons (sset 12 sc_law_more.nd (dcnC 0 D_law_draw (hr.mono (by decide)) hA (acons di anil))) (ssforget [1, 2, 5, 7] (scons (sif (dcmpT (op_eqE hr.units) opd_eq (dv 12) di (nomark _)) (sone (sret (m := 1) (dx (dtup (acons ds (acons (dv 8) (acons (dfrz (dcnC 0 D_law_log (hr.mono (by decide)) hA anil)) anil))))))) snil) (scons (sif (dcmpT (op_eqE hr.units) opd_eq (dv 12) di (nomark _)) (scons (sset 13 sc_law_more.nd (dx (dixP (dadd (dv 4) (dfrz (dlst (acons ds anil)))) (dfrz (dcnC 0 D_law_draw (hr.mono (by decide)) hA (acons (dadd (dlen (m_len T) (acons (dv 4) anil)) di) anil)))))) (sone (sret (m := 1) (dx (dtup (acons ds (acons (dv 9) (acons (dfrz (dcnC 0 D_law_draw (hr.mono (by decide)) hA (acons di anil))) (acons (dv 13) (acons (dixP (dv 6) (dfrz (dcnC 0 D_law_draw (hr.mono (by decide)) hA (acons di anil)))) anil)))))))))) snil) (ssforget [4] (scons (sif (dcmpT (op_eqE hr.units) opd_eq (dv 12) di (nomark _)) (sone (sret (m := 1) (dx (dtup (acons ds (acons (dfrz (dcnC 0 D_law_draw (hr.mono (by decide)) hA (acons di anil))) (acons (dfrz (dcnC 0 D_law_scheme (hr.mono (by decide)) hA (acons (dv 6) anil))) anil))))))) snil) (ssforget [6] (scons (sif (dcmpT (op_eqE hr.units) opd_eq (dv 12) di (nomark _)) (scons (sset 14 sc_law_more.nd (dcnC 0 D_law_draw (hr.mono (by decide)) hA (acons di anil))) (sone (sret (m := 1) (dx (dtup (acons ds (acons (dv 10) (acons (dv 8) (acons (dv 14) (acons (dadd (dv 14) (dfrz (dcnC 0 D_law_draw (hr.mono (by decide)) hA (acons di anil)))) (acons (dfrz (dcnC 0 D_law_draw (hr.mono (by decide)) hA (acons di anil))) anil))))))))))) snil) (scons (sif (dcmpT (op_eqE hr.units) opd_eq (dv 12) di (nomark _)) (sone (sret (m := 1) (dx (dadd (dtup (acons ds (acons (dv 10) anil))) (dfrz (dcnC 0 D_law_sale (hr.mono (by decide)) hA anil)))))) snil) (scons (sif (dcmpT op_ltA opr_ltA (dv 12) di (nomark _)) (sone (sret (m := 1) (dx (dtup (acons ds (acons (dv 9) (acons (dv 10) (acons (dadd di (dixP (dtup (acons (dfrz (dcnC 0 D_law_draw (hr.mono (by decide)) hA (acons di anil))) (acons (dfrz (dcnC 0 D_law_draw (hr.mono (by decide)) hA (acons (dpow di di) anil))) anil))) (ddiv (dfrz (dcnC 0 D_law_draw (hr.mono (by decide)) hA (acons di anil))) di))) anil)))))))) snil) (ssforget [9, 10] (scons (sif (tand (dcmpT op_ltA opr_ltA (dv 12) di (nomark _)) (tand1 (dcmpT op_ltA opr_ltA (dv 11) (dv 3) (nomark _)))).pt (sone (sret (m := 1) (dx (dtup (acons ds (acons (dv 11) anil)))))) snil) (sone (sret (m := 1) (dx (dtup (acons ds (acons (dv 8) (acons (dv 11) anil)))))))))))))))))))))))), fun as Q h => ?_⟩
  unfold S_law_more at h
  split at h
  · unfold q_law_more at h
    rename_i x0 x1 x2 x3
    refine at_env (b := [.cel true x0, .dat x1, .dat x2, .dat x3, .un, .un, .un, .un, .un, .un, .un, .un, .un, .un, .un]) rfl ?_
    exact Eq.mp (by kernel_rfl) h
  · exact h.elim
theorem ok_law_more (T : Tp K mg) (D_law_draw : Dn P w K mg base Tb "_law_draw" 1 ["_law_pot", "_law_many"] S_law_draw) (D_law_log : Dn P w K mg base Tb "_law_log" 2 ["_law_pot"] S_law_log) (D_law_sale : Dn P w K mg base Tb "_law_sale" 2 ["_law_pot"] S_law_sale) (D_law_scheme : Dn P w K mg base Tb "_law_scheme" 2 ["_law_pot", "_law_ranks"] S_law_scheme) : Dn P w K mg base Tb "_law_more" 3 ["_law_pot", "_law_folk_here", "_law_numbers", "_law_own"] S_law_more := by
  obtain ⟨kV, doc, pm, an, cdv, ct, Fn⟩ := T.fun_ "_law_more" (top 58) 33 113
  exact ⟨⟨_, fg_law_more T D_law_draw D_law_log D_law_sale D_law_scheme Fn, Fn.binds (ps := ["_law_pot", "_law_folk_here", "_law_numbers", "_law_own"]) fun _ _ _ _ _ _ us hl => match us, hl with | [_, _, _, _], _ => rfl⟩, T.glo "_law_more" 66, T.keep "_law_more" 113⟩
def kk_law_book : RT → (PyData → List PyData → Prop) := fun R v c => R (.dat v) [.cel true c]
def em_law_book_1 (i : PyData × PyData × PyData) (s : List PyData × List PyData × PyData) : List SD := [.cel true s.1, .dat i.1, .dat i.2.1, .dat i.2.2, .cel false s.2.1, .dat s.2.2, .un, .un, .un, .un]
def de_law_book_1 : List SD → Option ((PyData × PyData × PyData) × (List PyData × List PyData × PyData))
  | [.cel true x0, .dat x1, .dat x2, .dat x3, .cel false x4, .dat x5, .un, .un, .un, .un] => some ((x1, x2, x3), (x0, x4, x5))
  | _ => none
theorem hde_law_book_1 : ∀ env i s, de_law_book_1 env = some (i, s) → env = em_law_book_1 i s := by
  intro env i s h
  unfold de_law_book_1 at h
  split at h
  · cases h; rfl
  · cases h
def em_law_book_2 (i : PyData × PyData) (s : List PyData × List PyData × PyData) : List SD := [.cel true s.1, .dat i.1, .un, .dat i.2, .cel false s.2.1, .dat s.2.2, .un, .un, .un, .un]
def de_law_book_2 : List SD → Option ((PyData × PyData) × (List PyData × List PyData × PyData))
  | [.cel true x0, .dat x1, .un, .dat x3, .cel false x4, .dat x5, .un, .un, .un, .un] => some ((x1, x3), (x0, x4, x5))
  | _ => none
theorem hde_law_book_2 : ∀ env i s, de_law_book_2 env = some (i, s) → env = em_law_book_2 i s := by
  intro env i s h
  unfold de_law_book_2 at h
  split at h
  · cases h; rfl
  · cases h
def em_law_book_3 (i : PyData × PyData × PyData × PyData × PyData) (s : Unit) : List SD := [.dat i.1, .dat i.2.1, .un, .dat i.2.2.1, .dat i.2.2.2.1, .dat i.2.2.2.2, .un, .un, .un, .un]
def de_law_book_3 : List SD → Option ((PyData × PyData × PyData × PyData × PyData) × (Unit))
  | [.dat x0, .dat x1, .un, .dat x3, .dat x4, .dat x5, .un, .un, .un, .un] => some ((x0, x1, x3, x4, x5), ())
  | _ => none
theorem hde_law_book_3 : ∀ env i s, de_law_book_3 env = some (i, s) → env = em_law_book_3 i s := by
  intro env i s h
  unfold de_law_book_3 at h
  split at h
  · cases h; rfl
  · cases h
def S_law_book : DSp := fun as Q => match as with
  | [.cel true x0, .dat x1, .dat x2] => q_law_book x0 x1 x2 (kk_law_book Q)
  | _ => False
theorem len_law_book (as : List SD) (Q : SD → List SD → Prop) (h : S_law_book as Q) : as.length = 3 := by
  unfold S_law_book at h
  split at h
  · rfl
  · exact h.elim
theorem cels_law_book : CelsIn 1 S_law_book := by
  intro as Q h i p xs e
  unfold S_law_book at h
  split at h
  · exact cels1 (ds := [_, _]) e
  · exact h.elim
def N_law_book : List Str := ["_law_pot", "_law_folk_here", "_law_most", "_law_far", "_law_found", "_law_number", "_law_body", "_law_k", "_law_numbers", "_law_page"]
theorem sc_law_book : FnScope N_law_book ["_law_pot", "_law_folk_here", "_law_most"] (defScope (top 59)) := ⟨rfl, rfl, rfl, by decide +kernel, rfl, by decide +kernel, by decide +kernel⟩
theorem fg_law_book (T : Tp K mg) (D_law_core : Dn P w K mg base Tb "_law_core" 3 ["_law_pot", "_law_folk_here"] S_law_core) (D_law_draw : Dn P w K mg base Tb "_law_draw" 1 ["_law_pot", "_law_many"] S_law_draw) (D_law_more : Dn P w K mg base Tb "_law_more" 3 ["_law_pot", "_law_folk_here", "_law_numbers", "_law_own"] S_law_more) (D_law_shuffled : Dn P w K mg base Tb "_law_shuffled" 2 ["_law_pot", "_law_some"] S_law_shuffled) {fd : FuncData} (Fn : Fun K "_law_book" "_law_book" (top 59) (He.ga K "_law_book") fd) : FnG P w K mg base Tb 4 (He.ga K "_law_book") fd ["_law_pot", "_law_folk_here", "_law_most"] S_law_book := by
  refine dfn 1 Fn sc_law_book len_law_book cels_law_book fun cdv A outer s H hr hA => ⟨_, (scons (sset 3 sc_law_book.nd (dx (dixP (dtup (acons di (acons di (acons di (acons (dadd (dpow di di) di) anil))))) (dfrz (dcnC 0 D_law_draw (hr.mono (by decide)) hA (acons di anil)))))) (scons (sset 4 sc_law_book.nd (dlst anil)) (scons (sset 5 sc_law_book.nd (dcnC 0 D_law_draw (hr.mono (by decide)) hA (acons di anil))) (scons (sforQ [6] de_law_book_1 em_law_book_1 kk_law_book qb_law_book_1 hde_law_book_1 PassesOwn.never rfl (iseq (dfrz (dcnC 0 D_law_core (hr.mono (by decide)) hA (acons (dv 1) anil)))) (gn 6 sc_law_book.nd) (scons (sapp 4 (dtup (acons (dfrz (dcnC 0 D_law_draw (hr.mono (by decide)) hA (acons (dv 3) anil))) (acons (dv 5) (acons (dv 6) anil))))) (sone (sset 5 sc_law_book.nd (dx (dadd (dadd (dv 5) di) (dfrz (dcnC 0 D_law_draw (hr.mono (by decide)) hA (acons di anil)))))))) (fun R d i s nx bk h => Eq.mp (by kernel_rfl) h)) (scons (sforQ [2, 7, 8] de_law_book_2 em_law_book_2 kk_law_book qb_law_book_2 hde_law_book_2 PassesOwn.never rfl (irange1 (m_range T) (acons (dfrz (dcnC 0 D_law_draw (hr.mono (by decide)) hA (acons (dadd (dv 2) di) anil))) anil)) (gn 7 sc_law_book.nd) (ssforget [7] (scons (sset 8 sc_law_book.nd (dx (dadd (dfrz (dborX (dlc (dec := de_law_book_3) (emb := em_law_book_3) (qb := qb_law_book_3) [("_law_page", 9)] (.one 9) hde_law_book_3 rfl sc_law_book.nd (iseq (dv 4)) (blkOk_by (own := [("_law_page", 9)]) (N := N_law_book) (sc := defScope (top 59)) (by decide +kernel)) (fun _ _ _ _ _ => pg_name (i := 9) sc_law_book.nd rfl (Or.inl rfl)) (fun _ _ _ _ _ => tyes) (fun _ _ _ _ _ => (dixP (dv 9) di)) (fun d i s sk yd h => Eq.mp (by kernel_rfl) h)))) (dfrz (dlst (acons (dadd (dv 5) di) anil)))))) (scons (sapp 4 (dtup (acons (dfrz (dcnC 0 D_law_draw (hr.mono (by decide)) hA (acons (dv 3) anil))) (acons (dv 5) (acons (dfrz (dcnC 0 D_law_more (hr.mono (by decide)) hA (acons (dv 1) (acons (dv 8) (acons (dv 5) anil))))) anil))))) (sone (sset 5 sc_law_book.nd (dx (dadd (dadd (dv 5) di) (dfrz (dcnC 0 D_law_draw (hr.mono (by decide)) hA (acons di anil)))))))))) (fun R d i s nx bk h => Eq.mp (by kernel_rfl) h)) (ssfreeze2 4 (sone (sret (m := 1) (dx (dfrz (dcnC 0 D_law_shuffled (hr.mono (by decide)) hA (acons (dv 4) anil)))))))))))), fun as Q h => ?_⟩
  unfold S_law_book at h
  split at h
  · unfold q_law_book at h
    rename_i x0 x1 x2
    refine at_env (b := [.cel true x0, .dat x1, .dat x2, .un, .un, .un, .un, .un, .un, .un]) rfl ?_
    exact Eq.mp (by kernel_rfl) h
  · exact h.elim
theorem ok_law_book (T : Tp K mg) (D_law_core : Dn P w K mg base Tb "_law_core" 3 ["_law_pot", "_law_folk_here"] S_law_core) (D_law_draw : Dn P w K mg base Tb "_law_draw" 1 ["_law_pot", "_law_many"] S_law_draw) (D_law_more : Dn P w K mg base Tb "_law_more" 3 ["_law_pot", "_law_folk_here", "_law_numbers", "_law_own"] S_law_more) (D_law_shuffled : Dn P w K mg base Tb "_law_shuffled" 2 ["_law_pot", "_law_some"] S_law_shuffled) : Dn P w K mg base Tb "_law_book" 4 ["_law_pot", "_law_folk_here", "_law_most"] S_law_book := by
  obtain ⟨kV, doc, pm, an, cdv, ct, Fn⟩ := T.fun_ "_law_book" (top 59) 34 114
  exact ⟨⟨_, fg_law_book T D_law_core D_law_draw D_law_more D_law_shuffled Fn, Fn.binds (ps := ["_law_pot", "_law_folk_here", "_law_most"]) fun _ _ _ _ _ _ us hl => match us, hl with | [_, _, _], _ => rfl⟩, T.glo "_law_book" 67, T.keep "_law_book" 114⟩
def kk_law_spoilt : RT → (PyData → List PyData → Prop) := fun R v c => R (.dat v) [.cel true c]
def S_law_spoilt : DSp := fun as Q => match as with
  | [.cel true x0, .dat x1, .dat x2, .dat x3] => q_law_spoilt x0 x1 x2 x3 (kk_law_spoilt Q)
  | _ => False
theorem len_law_spoilt (as : List SD) (Q : SD → List SD → Prop) (h : S_law_spoilt as Q) : as.length = 4 := by
  unfold S_law_spoilt at h
  split at h
  · rfl
  · exact h.elim
theorem cels_law_spoilt : CelsIn 1 S_law_spoilt := by
  intro as Q h i p xs e
  unfold S_law_spoilt at h
  split at h
  · exact cels1 (ds := [_, _, _]) e
  · exact h.elim
def N_law_spoilt : List Str := ["_law_pot", "_law_thing", "_law_odds_here", "_law_depth", "_law_at", "_law_way", "_law_inner"]
theorem sc_law_spoilt : FnScope N_law_spoilt ["_law_pot", "_law_thing", "_law_odds_here", "_law_depth"] (defScope (top 60)) := ⟨rfl, rfl, rfl, by decide +kernel, rfl, by decide +kernel, by decide +kernel⟩
def S_law_spoilt_n (n : Nat) : DSp := fun as Q => match as with
  | [.cel true x0, .dat x1, .dat x2, .dat x3] => q_law_spoilt_n n x0 x1 x2 x3 (kk_law_spoilt Q)
  | _ => False
theorem len_law_spoilt_n (n : Nat) (as : List SD) (Q : SD → List SD → Prop) (h : S_law_spoilt_n n as Q) : as.length = 4 := by
  unfold S_law_spoilt_n at h
  split at h
  · rfl
  · exact h.elim
theorem cels_law_spoilt_n (n : Nat) : CelsIn 1 (S_law_spoilt_n n) := by
  intro as Q h i p xs e
  unfold S_law_spoilt_n at h
  split at h
  · exact cels1 (ds := [_, _, _]) e
  · exact h.elim
theorem fg_law_spoilt (T : Tp K mg) (D_law_draw : Dn P w K mg base Tb "_law_draw" 1 ["_law_pot", "_law_many"] S_law_draw) (n : Nat) (D_law_spoilt : Dn P w K mg base Tb "_law_spoilt" (1 + n) ["_law_pot", "_law_thing", "_law_odds_here", "_law_depth"] (S_law_spoilt_n n)) {fd : FuncData} (Fn : Fun K "_law_spoilt" "_law_spoilt" (top 60) (He.ga K "_law_spoilt") fd) : FnG P w K mg base Tb (1 + n + 1) (He.ga K "_law_spoilt") fd ["_law_pot", "_law_thing", "_law_odds_here", "_law_depth"] (S_law_spoilt_n (n + 1)) := by
  refine dfn 1 Fn sc_law_spoilt (len_law_spoilt_n _) (cels_law_spoilt_n _) fun cdv A outer s H hr hA => ⟨_, (scons (sif (tor (dcmpT (op_eqE hr.units) opd_eq (dv 3) di (nomark _)) (tor (tnot (dtest (disi "tuple" "tuple" (m_isinstance T) (m_tuple T) (by decide +kernel) (by decide +kernel) (dv 1)))) (tor1 (dcmpT (op_empE hr.units) opd_emp (dv 1) (dtup anil) (nomark _))))).pt (sone (sret (m := 1) (dx (dixP (dv 2) (dfrz (dcnC 0 D_law_draw (hr.mono (by omega)) hA (acons (dlen (m_len T) (acons (dv 2) anil)) anil))))))) snil) (scons (sset 4 sc_law_spoilt.nd (dcnC 0 D_law_draw (hr.mono (by omega)) hA (acons (dlen (m_len T) (acons (dv 1) anil)) anil))) (scons (sset 5 sc_law_spoilt.nd (dcnC 0 D_law_draw (hr.mono (by omega)) hA (acons di anil))) (scons (sif (dcmpT op_ltA opr_ltA (dv 5) di (nomark _)) (scons (sset 6 sc_law_spoilt.nd (dcnC 0 D_law_spoilt (hr.mono (by omega)) hA (acons (dixP (dv 1) (dv 4)) (acons (dv 2) (acons (dsub (dv 3) di) anil))))) (sone (sret (m := 1) (dx (dadd (dadd (dsl (dv 1) so_none (so_some (dv 4))) (dtup (acons (dv 6) anil))) (dsl (dv 1) (so_some (dadd (dv 4) di)) so_none)))))) snil) (ssforget [3] (scons (sif (dcmpT (op_eqE hr.units) opd_eq (dv 5) di (nomark _)) (sone (sret (m := 1) (dx (dadd (dsl (dv 1) so_none (so_some (dv 4))) (dsl (dv 1) (so_some (dadd (dv 4) di)) so_none))))) snil) (scons (sif (dcmpT (op_eqE hr.units) opd_eq (dv 5) di (nomark _)) (sone (sret (m := 1) (dx (dadd (dadd (dsl (dv 1) so_none (so_some (dv 4))) (dmul (dsl (dv 1) (so_some (dv 4)) (so_some (dadd (dv 4) di))) di)) (dsl (dv 1) (so_some (dadd (dv 4) di)) so_none))))) snil) (scons (sif (dcmpT (op_eqE hr.units) opd_eq (dv 5) di (nomark _)) (sone (sret (m := 1) (dx (dfrz (dlistOf (m_list T) (acons (dv 1) anil)))))) snil) (scons (sif (dcmpT (op_eqE hr.units) opd_eq (dv 5) di (nomark _)) (sone (sret (m := 1) (dx (dadd (dv 1) (dtup (acons (dixP (dv 2) (dfrz (dcnC 0 D_law_draw (hr.mono (by omega)) hA (acons (dlen (m_len T) (acons (dv 2) anil)) anil)))) anil)))))) snil) (sone (sret (m := 1) (dx (dadd (dadd (dsl (dv 1) so_none (so_some (dv 4))) (dtup (acons (dixP (dv 2) (dfrz (dcnC 0 D_law_draw (hr.mono (by omega)) hA (acons (dlen (m_len T) (acons (dv 2) anil)) anil)))) anil))) (dsl (dv 1) (so_some (dadd (dv 4) di)) so_none)))))))))))))), fun as Q h => ?_⟩
  unfold S_law_spoilt_n at h
  split at h
  · rename_i x0 x1 x2 x3
    refine at_env (b := [.cel true x0, .dat x1, .dat x2, .dat x3, .un, .un, .un]) rfl ?_
    exact Eq.mp (by kernel_rfl) (show q_law_spoilt_step (q_law_spoilt_n n) x0 x1 x2 x3 (kk_law_spoilt Q) from h)
  · exact h.elim
theorem okn_law_spoilt (T : Tp K mg) (D_law_draw : Dn P w K mg base Tb "_law_draw" 1 ["_law_pot", "_law_many"] S_law_draw) : ∀ n : Nat, Dn P w K mg base Tb "_law_spoilt" (1 + n) ["_law_pot", "_law_thing", "_law_odds_here", "_law_depth"] (S_law_spoilt_n n)
  | 0 => by
    obtain ⟨kV, doc, pm, an, cdv, ct, Fn⟩ := T.fun_ "_law_spoilt" (top 60) 35 115
    exact ⟨⟨_, FnG.never (fun as Q h => by unfold S_law_spoilt_n at h; split at h <;> exact h), Fn.binds (ps := ["_law_pot", "_law_thing", "_law_odds_here", "_law_depth"]) fun _ _ _ _ _ _ us hl => match us, hl with | [_, _, _, _], _ => rfl⟩, T.glo "_law_spoilt" 68, T.keep "_law_spoilt" 115⟩
  | n + 1 => by
    obtain ⟨kV, doc, pm, an, cdv, ct, Fn⟩ := T.fun_ "_law_spoilt" (top 60) 35 115
    exact ⟨⟨_, fg_law_spoilt T D_law_draw n (okn_law_spoilt T D_law_draw n) Fn, Fn.binds (ps := ["_law_pot", "_law_thing", "_law_odds_here", "_law_depth"]) fun _ _ _ _ _ _ us hl => match us, hl with | [_, _, _, _], _ => rfl⟩, T.glo "_law_spoilt" 68, T.keep "_law_spoilt" 115⟩
theorem ok_law_spoilt (T : Tp K mg) (D_law_draw : Dn P w K mg base Tb "_law_draw" 1 ["_law_pot", "_law_many"] S_law_draw) : Dn P w K mg base Tb "_law_spoilt" 9 ["_law_pot", "_law_thing", "_law_odds_here", "_law_depth"] S_law_spoilt :=
  (okn_law_spoilt T D_law_draw 8).imp fun as Q h => by
    unfold S_law_spoilt at h
    split at h
    · exact h
    · exact h.elim
def kk_law_within : RT → (PyData → Prop) := fun R v => R (.dat v) []
def S_law_within : DSp := fun as Q => match as with
  | [.dat x0, .dat x1, .dat x2] => q_law_within x0 x1 x2 (kk_law_within Q)
  | _ => False
theorem len_law_within (as : List SD) (Q : SD → List SD → Prop) (h : S_law_within as Q) : as.length = 3 := by
  unfold S_law_within at h
  split at h
  · rfl
  · exact h.elim
theorem cels_law_within : CelsIn 0 S_law_within := by
  intro as Q h i p xs e
  unfold S_law_within at h
  split at h
  · exact absurd e (no_cel (ds := [_, _, _]) i p xs)
  · exact h.elim
def N_law_within : List Str := ["_law_thing", "_law_least", "_law_most"]
theorem sc_law_within : FnScope N_law_within ["_law_thing", "_law_least", "_law_most"] (defScope (top 61)) := ⟨rfl, rfl, rfl, by decide +kernel, rfl, by decide +kernel, by decide +kernel⟩
theorem fg_law_within (T : Tp K mg) (D_law_whole : Dn P w K mg base Tb "_law_whole" 1 ["_law_thing"] S_law_whole) {fd : FuncData} (Fn : Fun K "_law_within" "_law_within" (top 61) (He.ga K "_law_within") fd) : FnG P w K mg base Tb 2 (He.ga K "_law_within") fd ["_law_thing", "_law_least", "_law_most"] S_law_within := by
  refine dfn 0 Fn sc_law_within len_law_within cels_law_within fun cdv A outer s H hr hA => ⟨_, (sone (sret (m := 0) (dx (dandV (dfrz (dcn D_law_whole (hr.mono (by decide)) hA (acons (dv 0) anil))) (done (dchain op_le op_le opr_le opr_le (dv 1) (dv 0) (dv 2))))))), fun as Q h => ?_⟩
  unfold S_law_within at h
  split at h
  · unfold q_law_within at h
    rename_i x0 x1 x2
    refine at_env (b := [.dat x0, .dat x1, .dat x2]) rfl ?_
    exact Eq.mp (by kernel_rfl) h
  · exact h.elim
theorem ok_law_within (T : Tp K mg) (D_law_whole : Dn P w K mg base Tb "_law_whole" 1 ["_law_thing"] S_law_whole) : Dn P w K mg base Tb "_law_within" 2 ["_law_thing", "_law_least", "_law_most"] S_law_within := by
  obtain ⟨kV, doc, pm, an, cdv, ct, Fn⟩ := T.fun_ "_law_within" (top 61) 36 116
  exact ⟨⟨_, fg_law_within T D_law_whole Fn, Fn.binds (ps := ["_law_thing", "_law_least", "_law_most"]) fun _ _ _ _ _ _ us hl => match us, hl with | [_, _, _], _ => rfl⟩, T.glo "_law_within" 69, T.keep "_law_within" 116⟩
def kk_law_is_name : RT → (PyData → Prop) := fun R v => R (.dat v) []
def em_law_is_name_1 (i : PyData) (s : Unit) : List SD := [.dat i, .un]
def de_law_is_name_1 : List SD → Option ((PyData) × (Unit))
  | [.dat x0, .un] => some (x0, ())
  | _ => none
theorem hde_law_is_name_1 : ∀ env i s, de_law_is_name_1 env = some (i, s) → env = em_law_is_name_1 i s := by
  intro env i s h
  unfold de_law_is_name_1 at h
  split at h
  · cases h; rfl
  · cases h
def S_law_is_name : DSp := fun as Q => match as with
  | [.dat x0] => q_law_is_name x0 (kk_law_is_name Q)
  | _ => False
theorem len_law_is_name (as : List SD) (Q : SD → List SD → Prop) (h : S_law_is_name as Q) : as.length = 1 := by
  unfold S_law_is_name at h
  split at h
  · rfl
  · exact h.elim
theorem cels_law_is_name : CelsIn 0 S_law_is_name := by
  intro as Q h i p xs e
  unfold S_law_is_name at h
  split at h
  · exact absurd e (no_cel (ds := [_]) i p xs)
  · exact h.elim
def N_law_is_name : List Str := ["_law_thing", "_law_sign"]
theorem sc_law_is_name : FnScope N_law_is_name ["_law_thing"] (defScope (top 62)) := ⟨rfl, rfl, rfl, by decide +kernel, rfl, by decide +kernel, by decide +kernel⟩
theorem fg_law_is_name (T : Tp K mg)  {fd : FuncData} (Fn : Fun K "_law_is_name" "_law_is_name" (top 62) (He.ga K "_law_is_name") fd) : FnG P w K mg base Tb 1 (He.ga K "_law_is_name") fd ["_law_thing"] S_law_is_name := by
  refine dfn 0 Fn sc_law_is_name len_law_is_name cels_law_is_name fun cdv A outer s H hr hA => ⟨_, (scons (sif (tor (tnot (dtest (disi "str" "str" (m_isinstance T) (m_str T) (by decide +kernel) (by decide +kernel) (dv 0)))) (tor1 (tnot (dchainT op_le op_le opr_le opr_le di (dlen (m_len T) (acons (dv 0) anil)) di)))).pt (sone (sret (m := 0) (dx db))) snil) (sone (sret (m := 0) (dx (dcmp (op_empE hr.units) opd_emp (dfrz (dlc (dec := de_law_is_name_1) (emb := em_law_is_name_1) (qb := qb_law_is_name_1) [("_law_sign", 1)] (.one 1) hde_law_is_name_1 rfl sc_law_is_name.nd (iseq (dv 0)) (blkOk_by (own := [("_law_sign", 1)]) (N := N_law_is_name) (sc := defScope (top 62)) (by decide +kernel)) (fun _ _ _ _ _ => pg_name (i := 1) sc_law_is_name.nd rfl (Or.inl rfl)) (fun _ _ _ _ _ => tif1 (tnin hr (dv 1) ds)) (fun _ _ _ _ _ => (dv 1)) (fun d i s sk yd h => Eq.mp (by kernel_rfl) h))) (dfrz (dlst anil)) (nomark _)))))), fun as Q h => ?_⟩
  unfold S_law_is_name at h
  split at h
  · unfold q_law_is_name at h
    rename_i x0
    refine at_env (b := [.dat x0, .un]) rfl ?_
    exact Eq.mp (by kernel_rfl) h
  · exact h.elim
theorem ok_law_is_name (T : Tp K mg)  : Dn P w K mg base Tb "_law_is_name" 1 ["_law_thing"] S_law_is_name := by
  obtain ⟨kV, doc, pm, an, cdv, ct, Fn⟩ := T.fun_ "_law_is_name" (top 62) 37 117
  exact ⟨⟨_, fg_law_is_name T  Fn, Fn.binds (ps := ["_law_thing"]) fun _ _ _ _ _ _ us hl => match us, hl with | [_], _ => rfl⟩, T.glo "_law_is_name" 70, T.keep "_law_is_name" 117⟩
def kk_law_is_log : RT → (PyData → Prop) := fun R v => R (.dat v) []
def em_law_is_log_1 (i : Unit) (s : PyData) : List SD := [.un, .dat s, .un]
def de_law_is_log_1 : List SD → Option ((Unit) × (PyData))
  | [.un, .dat x1, .un] => some ((), x1)
  | _ => none
theorem hde_law_is_log_1 : ∀ env i s, de_law_is_log_1 env = some (i, s) → env = em_law_is_log_1 i s := by
  intro env i s h
  unfold de_law_is_log_1 at h
  split at h
  · cases h; rfl
  · cases h
def S_law_is_log : DSp := fun as Q => match as with
  | [.dat x0] => q_law_is_log x0 (kk_law_is_log Q)
  | _ => False
theorem len_law_is_log (as : List SD) (Q : SD → List SD → Prop) (h : S_law_is_log as Q) : as.length = 1 := by
  unfold S_law_is_log at h
  split at h
  · rfl
  · exact h.elim
theorem cels_law_is_log : CelsIn 0 S_law_is_log := by
  intro as Q h i p xs e
  unfold S_law_is_log at h
  split at h
  · exact absurd e (no_cel (ds := [_]) i p xs)
  · exact h.elim
def N_law_is_log : List Str := ["_law_thing", "_law_ahead", "_law_row"]
theorem sc_law_is_log : FnScope N_law_is_log ["_law_thing"] (defScope (top 63)) := ⟨rfl, rfl, rfl, by decide +kernel, rfl, by decide +kernel, by decide +kernel⟩
theorem fg_law_is_log (T : Tp K mg) (D_law_within : Dn P w K mg base Tb "_law_within" 2 ["_law_thing", "_law_least", "_law_most"] S_law_within) {fd : FuncData} (Fn : Fun K "_law_is_log" "_law_is_log" (top 63) (He.ga K "_law_is_log") fd) : FnG P w K mg base Tb 3 (He.ga K "_law_is_log") fd ["_law_thing"] S_law_is_log := by
  refine dfn 0 Fn sc_law_is_log len_law_is_log cels_law_is_log fun cdv A outer s H hr hA => ⟨_, (scons (sif (tor (tnot (dtest (disi "tuple" "tuple" (m_isinstance T) (m_tuple T) (by decide +kernel) (by decide +kernel) (dv 0)))) (tor1 (tnot (dchainT op_le op_le opr_le opr_le di (dlen (m_len T) (acons (dv 0) anil)) di)))).pt (sone (sret (m := 0) (dx db))) snil) (scons (sset 1 sc_law_is_log.nd (dx (dneg di))) (scons (sforQ [0, 2] de_law_is_log_1 em_law_is_log_1 kk_law_is_log qb_law_is_log_1 hde_law_is_log_1 PassesOwn.never rfl (iseq (dv 0)) (gn 2 sc_law_is_log.nd) (scons (sif (tor (tnot (dtest (disi "tuple" "tuple" (m_isinstance T) (m_tuple T) (by decide +kernel) (by decide +kernel) (dv 2)))) (tor (dcmpT (op_neE hr.units) opd_ne (dlen (m_len T) (acons (dv 2) anil)) di (nomark _)) (tor1 (tnot (dtest (dfrz (dcn D_law_within (hr.mono (by decide)) hA (acons (dixP (dv 2) di) (acons (dadd (dv 1) di) (acons (dpow di di) anil)))))))))).pt (sone (sret (m := 0) (dx db))) snil) (ssforget [1] (scons (sif (tor (tnot (dtest (dfrz (dcn D_law_within (hr.mono (by decide)) hA (acons (dixP (dv 2) di) (acons (dneg (dpow di di)) (acons (dpow di di) anil))))))) (tor1 (tnot (dtest (dfrz (dcn D_law_within (hr.mono (by decide)) hA (acons (dixP (dv 2) di) (acons (dneg (dpow di di)) (acons (dpow di di) anil))))))))).pt (sone (sret (m := 0) (dx db))) snil) (sone (sset 1 sc_law_is_log.nd (dx (dixP (dv 2) di))))))) (fun R d i s nx bk h => Eq.mp (by kernel_rfl) h)) (sone (sret (m := 0) (dx db)))))), fun as Q h => ?_⟩
  unfold S_law_is_log at h
  split at h
  · unfold q_law_is_log at h
    rename_i x0
    refine at_env (b := [.dat x0, .un, .un]) rfl ?_
    exact Eq.mp (by kernel_rfl) h
  · exact h.elim
theorem ok_law_is_log (T : Tp K mg) (D_law_within : Dn P w K mg base Tb "_law_within" 2 ["_law_thing", "_law_least", "_law_most"] S_law_within) : Dn P w K mg base Tb "_law_is_log" 3 ["_law_thing"] S_law_is_log := by
  obtain ⟨kV, doc, pm, an, cdv, ct, Fn⟩ := T.fun_ "_law_is_log" (top 63) 38 118
  exact ⟨⟨_, fg_law_is_log T D_law_within Fn, Fn.binds (ps := ["_law_thing"]) fun _ _ _ _ _ _ us hl => match us, hl with | [_], _ => rfl⟩, T.glo "_law_is_log" 71, T.keep "_law_is_log" 118⟩
def kk_law_is_scheme : RT → (PyData → Prop) := fun R v => R (.dat v) []
def em_law_is_scheme_1 (i : PyData × PyData) (s : Unit) : List SD := [.un, .dat i.1, .dat i.2, .un, .un, .un]
def de_law_is_scheme_1 : List SD → Option ((PyData × PyData) × (Unit))
  | [.un, .dat x1, .dat x2, .un, .un, .un] => some ((x1, x2), ())
  | _ => none
theorem hde_law_is_scheme_1 : ∀ env i s, de_law_is_scheme_1 env = some (i, s) → env = em_law_is_scheme_1 i s := by
  intro env i s h
  unfold de_law_is_scheme_1 at h
  split at h
  · cases h; rfl
  · cases h
def em_law_is_scheme_2 (i : PyData) (s : PyData) : List SD := [.un, .dat i, .un, .dat s, .un, .un]
def de_law_is_scheme_2 : List SD → Option ((PyData) × (PyData))
  | [.un, .dat x1, .un, .dat x3, .un, .un] => some (x1, x3)
  | _ => none
theorem hde_law_is_scheme_2 : ∀ env i s, de_law_is_scheme_2 env = some (i, s) → env = em_law_is_scheme_2 i s := by
  intro env i s h
  unfold de_law_is_scheme_2 at h
  split at h
  · cases h; rfl
  · cases h
def S_law_is_scheme : DSp := fun as Q => match as with
  | [.dat x0] => q_law_is_scheme x0 (kk_law_is_scheme Q)
  | _ => False
theorem len_law_is_scheme (as : List SD) (Q : SD → List SD → Prop) (h : S_law_is_scheme as Q) : as.length = 1 := by
  unfold S_law_is_scheme at h
  split at h
  · rfl
  · exact h.elim
theorem cels_law_is_scheme : CelsIn 0 S_law_is_scheme := by
  intro as Q h i p xs e
  unfold S_law_is_scheme at h
  split at h
  · exact absurd e (no_cel (ds := [_]) i p xs)
  · exact h.elim
def N_law_is_scheme : List Str := ["_law_thing", "_law_eighths", "_law_ranks", "_law_ahead", "_law_pair", "_law_one"]
theorem sc_law_is_scheme : FnScope N_law_is_scheme ["_law_thing"] (defScope (top 64)) := ⟨rfl, rfl, rfl, by decide +kernel, rfl, by decide +kernel, by decide +kernel⟩
theorem fg_law_is_scheme (T : Tp K mg) (D_law_is_name : Dn P w K mg base Tb "_law_is_name" 1 ["_law_thing"] S_law_is_name) (D_law_within : Dn P w K mg base Tb "_law_within" 2 ["_law_thing", "_law_least", "_law_most"] S_law_within) {fd : FuncData} (Fn : Fun K "_law_is_scheme" "_law_is_scheme" (top 64) (He.ga K "_law_is_scheme") fd) : FnG P w K mg base Tb 3 (He.ga K "_law_is_scheme") fd ["_law_thing"] S_law_is_scheme := by
  refine dfn 0 Fn sc_law_is_scheme len_law_is_scheme cels_law_is_scheme fun cdv A outer s H hr hA => ⟨_, (scons (sif (tor (tnot (dtest (disi "tuple" "tuple" (m_isinstance T) (m_tuple T) (by decide +kernel) (by decide +kernel) (dv 0)))) (tor (dcmpT (op_neE hr.units) opd_ne (dlen (m_len T) (acons (dv 0) anil)) di (nomark _)) (tor1 (tnot (dtest (disi "tuple" "tuple" (m_isinstance T) (m_tuple T) (by decide +kernel) (by decide +kernel) (dixP (dv 0) di))))))).pt (sone (sret (m := 0) (dx db))) snil) (scons (sasg (dv 0) (gtup (gl_cons gok_n (gl_cons gok_n gl_nil)) rfl (gcons (gn 1 sc_law_is_scheme.nd) (gcons (gn 2 sc_law_is_scheme.nd) gnil)))) (ssforget [0] (scons (sif (tor (tnot (dchainT op_leA op_leA opd_leA opd_leA di (dlen (m_len T) (acons (dv 1) anil)) di)) (tor (tnot (dtest (dall (m_all T) rfl (acons (dfrz (dlc (dec := de_law_is_scheme_1) (emb := em_law_is_scheme_1) (qb := qb_law_is_scheme_1) [("_law_one", 5)] (.one 5) hde_law_is_scheme_1 rfl sc_law_is_scheme.nd (iseq (dv 1)) (blkOk_by (own := [("_law_one", 5)]) (N := N_law_is_scheme) (sc := defScope (top 64)) (by decide +kernel)) (fun _ _ _ _ _ => pg_name (i := 5) sc_law_is_scheme.nd rfl (Or.inl rfl)) (fun _ _ _ _ _ => tyes) (fun _ _ _ _ _ => (dfrz (dcn D_law_within (hr.mono (by decide)) hA (acons (dv 5) (acons di (acons di anil)))))) (fun d i s sk yd h => Eq.mp (by kernel_rfl) h))) anil)))) (tor1 (dcmpT (op_neE hr.units) opd_ne (dsum (m_sum T) rfl (acons (dv 1) anil)) di (nomark _))))).pt (sone (sret (m := 0) (dx db))) snil) (scons (sif (tor (tnot (dtest (disi "tuple" "tuple" (m_isinstance T) (m_tuple T) (by decide +kernel) (by decide +kernel) (dv 2)))) (tor1 (dcmpT op_gt opr_gt (dlen (m_len T) (acons (dv 2) anil)) di (nomark _)))).pt (sone (sret (m := 0) (dx db))) snil) (scons (sset 3 sc_law_is_scheme.nd (dx ds)) (scons (sforQ [2, 4] de_law_is_scheme_2 em_law_is_scheme_2 kk_law_is_scheme qb_law_is_scheme_2 hde_law_is_scheme_2 PassesOwn.never rfl (iseq (dv 2)) (gn 4 sc_law_is_scheme.nd) (scons (sif (tor (tnot (dtest (disi "tuple" "tuple" (m_isinstance T) (m_tuple T) (by decide +kernel) (by decide +kernel) (dv 4)))) (tor (dcmpT (op_neE hr.units) opd_ne (dlen (m_len T) (acons (dv 4) anil)) di (nomark _)) (tor (tnot (dtest (dfrz (dcn D_law_is_name (hr.mono (by decide)) hA (acons (dixP (dv 4) di) anil))))) (tor1 (dcmpT op_leA opd_leA (dixP (dv 4) di) (dv 3) (nomark _)))))).pt (sone (sret (m := 0) (dx db))) snil) (ssforget [3] (scons (sif (tnot (dtest (dfrz (dcn D_law_within (hr.mono (by decide)) hA (acons (dixP (dv 4) di) (acons di (acons (dsub (dlen (m_len T) (acons (dv 1) anil)) di) anil))))))) (sone (sret (m := 0) (dx db))) snil) (sone (sset 3 sc_law_is_scheme.nd (dx (dixP (dv 4) di))))))) (fun R d i s nx bk h => Eq.mp (by kernel_rfl) h)) (sone (sret (m := 0) (dx db)))))))))), fun as Q h => ?_⟩
  unfold S_law_is_scheme at h
  split at h
  · unfold q_law_is_scheme at h
    rename_i x0
    refine at_env (b := [.dat x0, .un, .un, .un, .un, .un]) rfl ?_
    exact Eq.mp (by kernel_rfl) h
  · exact h.elim
theorem ok_law_is_scheme (T : Tp K mg) (D_law_is_name : Dn P w K mg base Tb "_law_is_name" 1 ["_law_thing"] S_law_is_name) (D_law_within : Dn P w K mg base Tb "_law_within" 2 ["_law_thing", "_law_least", "_law_most"] S_law_within) : Dn P w K mg base Tb "_law_is_scheme" 3 ["_law_thing"] S_law_is_scheme := by
  obtain ⟨kV, doc, pm, an, cdv, ct, Fn⟩ := T.fun_ "_law_is_scheme" (top 64) 39 119
  exact ⟨⟨_, fg_law_is_scheme T D_law_is_name D_law_within Fn, Fn.binds (ps := ["_law_thing"]) fun _ _ _ _ _ _ us hl => match us, hl with | [_], _ => rfl⟩, T.glo "_law_is_scheme" 72, T.keep "_law_is_scheme" 119⟩
def kk_law_is_part : RT → (PyData → Prop) := fun R v => R (.dat v) []
def em_law_is_part_1 (i : Unit) (s : PyData × PyData) : List SD := [.un, .dat s.1, .dat s.2]
def de_law_is_part_1 : List SD → Option ((Unit) × (PyData × PyData))
  | [.un, .dat x1, .dat x2] => some ((), (x1, x2))
  | _ => none
theorem hde_law_is_part_1 : ∀ env i s, de_law_is_part_1 env = some (i, s) → env = em_law_is_part_1 i s := by
  intro env i s h
  unfold de_law_is_part_1 at h
  split at h
  · cases h; rfl
  · cases h
def S_law_is_part : DSp := fun as Q => match as with
  | [.dat x0] => q_law_is_part x0 (kk_law_is_part Q)
  | _ => False
theorem len_law_is_part (as : List SD) (Q : SD → List SD → Prop) (h : S_law_is_part as Q) : as.length = 1 := by
  unfold S_law_is_part at h
  split at h
  · rfl
  · exact h.elim
theorem cels_law_is_part : CelsIn 0 S_law_is_part := by
  intro as Q h i p xs e
  unfold S_law_is_part at h
  split at h
  · exact absurd e (no_cel (ds := [_]) i p xs)
  · exact h.elim
def N_law_is_part : List Str := ["_law_thing", "_law_one", "_law_other"]
theorem sc_law_is_part : FnScope N_law_is_part ["_law_thing"] (defScope (top 65)) := ⟨rfl, rfl, rfl, by decide +kernel, rfl, by decide +kernel, by decide +kernel⟩
theorem fg_law_is_part (T : Tp K mg) (D_law_within : Dn P w K mg base Tb "_law_within" 2 ["_law_thing", "_law_least", "_law_most"] S_law_within) {fd : FuncData} (Fn : Fun K "_law_is_part" "_law_is_part" (top 65) (He.ga K "_law_is_part") fd) : FnG P w K mg base Tb 3 (He.ga K "_law_is_part") fd ["_law_thing"] S_law_is_part := by
  refine dfn 0 Fn sc_law_is_part len_law_is_part cels_law_is_part fun cdv A outer s H hr hA => ⟨_, (scons (sif (tor (tnot (dtest (disi "tuple" "tuple" (m_isinstance T) (m_tuple T) (by decide +kernel) (by decide +kernel) (dv 0)))) (tor (dcmpT (op_neE hr.units) opd_ne (dlen (m_len T) (acons (dv 0) anil)) di (nomark _)) (tor1 (tnot (dtest (dfrz (dcn D_law_within (hr.mono (by decide)) hA (acons (dixP (dv 0) di) (acons di (acons (dpow di di) anil)))))))))).pt (sone (sret (m := 0) (dx db))) snil) (scons (sif (tor (tnot (dtest (dfrz (dcn D_law_within (hr.mono (by decide)) hA (acons (dixP (dv 0) di) (acons di (acons (dpow di di) anil))))))) (tor1 (dcmpT op_gt opr_gt (dixP (dv 0) di) (dixP (dv 0) di) (nomark _)))).pt (sone (sret (m := 0) (dx db))) snil) (scons (sasg (dv 0) (gtup (gl_cons gok_n (gl_cons gok_n gl_nil)) rfl (gcons (gn 1 sc_law_is_part.nd) (gcons (gn 2 sc_law_is_part.nd) gnil)))) (ssforget [0] (scons (swhileQ [] de_law_is_part_1 em_law_is_part_1 kk_law_is_part qb_law_is_part_1 hde_law_is_part_1 PassesOwn.never (dcmpT op_gt opr_gt (dv 1) di (nomark _)) (sone (spar 1 2 rfl sc_law_is_part.nd (acons (dmod (dv 2) (dv 1)) (acons (dv 1) anil)))) (fun R i s nx bk h => Eq.mp (by kernel_rfl) h)) (sone (sret (m := 0) (dx (dcmp (op_eqE hr.units) opd_eq (dv 2) di (nomark _)))))))))), fun as Q h => ?_⟩
  unfold S_law_is_part at h
  split at h
  · unfold q_law_is_part at h
    rename_i x0
    refine at_env (b := [.dat x0, .un, .un]) rfl ?_
    exact Eq.mp (by kernel_rfl) h
  · exact h.elim
theorem ok_law_is_part (T : Tp K mg) (D_law_within : Dn P w K mg base Tb "_law_within" 2 ["_law_thing", "_law_least", "_law_most"] S_law_within) : Dn P w K mg base Tb "_law_is_part" 3 ["_law_thing"] S_law_is_part := by
  obtain ⟨kV, doc, pm, an, cdv, ct, Fn⟩ := T.fun_ "_law_is_part" (top 65) 40 120
  exact ⟨⟨_, fg_law_is_part T D_law_within Fn, Fn.binds (ps := ["_law_thing"]) fun _ _ _ _ _ _ us hl => match us, hl with | [_], _ => rfl⟩, T.glo "_law_is_part" 73, T.keep "_law_is_part" 120⟩
def kk_law_is_sale : RT → (PyData → Prop) := fun R v => R (.dat v) []
def em_law_is_sale_1 (i : PyData) (s : Unit) : List SD := [.dat i, .un, .un]
def de_law_is_sale_1 : List SD → Option ((PyData) × (Unit))
  | [.dat x0, .un, .un] => some (x0, ())
  | _ => none
theorem hde_law_is_sale_1 : ∀ env i s, de_law_is_sale_1 env = some (i, s) → env = em_law_is_sale_1 i s := by
  intro env i s h
  unfold de_law_is_sale_1 at h
  split at h
  · cases h; rfl
  · cases h
def S_law_is_sale : DSp := fun as Q => match as with
  | [.dat x0] => q_law_is_sale x0 (kk_law_is_sale Q)
  | _ => False
theorem len_law_is_sale (as : List SD) (Q : SD → List SD → Prop) (h : S_law_is_sale as Q) : as.length = 1 := by
  unfold S_law_is_sale at h
  split at h
  · rfl
  · exact h.elim
theorem cels_law_is_sale : CelsIn 0 S_law_is_sale := by
  intro as Q h i p xs e
  unfold S_law_is_sale at h
  split at h
  · exact absurd e (no_cel (ds := [_]) i p xs)
  · exact h.elim
def N_law_is_sale : List Str := ["_law_thing", "_law_one", "_law_most"]
theorem sc_law_is_sale : FnScope N_law_is_sale ["_law_thing"] (defScope (top 66)) := ⟨rfl, rfl, rfl, by decide +kernel, rfl, by decide +kernel, by decide +kernel⟩
theorem fg_law_is_sale (T : Tp K mg) (D_law_is_part : Dn P w K mg base Tb "_law_is_part" 3 ["_law_thing"] S_law_is_part) (D_law_within : Dn P w K mg base Tb "_law_within" 2 ["_law_thing", "_law_least", "_law_most"] S_law_within) {fd : FuncData} (Fn : Fun K "_law_is_sale" "_law_is_sale" (top 66) (He.ga K "_law_is_sale") fd) : FnG P w K mg base Tb 4 (He.ga K "_law_is_sale") fd ["_law_thing"] S_law_is_sale := by
  refine dfn 0 Fn sc_law_is_sale len_law_is_sale cels_law_is_sale fun cdv A outer s H hr hA => ⟨_, (scons (sif (tor (dcmpT (op_neE hr.units) opd_ne (dlen (m_len T) (acons (dv 0) anil)) di (nomark _)) (tor1 (tnot (dtest (dfrz (dcn D_law_is_part (hr.mono (by decide)) hA (acons (dixP (dv 0) di) anil))))))).pt (sone (sret (m := 0) (dx db))) snil) (sone (sret (m := 0) (dx (dall (m_all T) rfl (acons (dfrz (dlc (dec := de_law_is_sale_1) (emb := em_law_is_sale_1) (qb := qb_law_is_sale_1) [("_law_one", 1), ("_law_most", 2)] (.tup [1, 2]) hde_law_is_sale_1 rfl sc_law_is_sale.nd (izip (m_zip T) (acons (dv 0) (acons (dtup (acons (dpow di di) (acons (dpow di di) (acons (dpow di di) (acons di (acons (dpow di di) anil)))))) anil))) (blkOk_by (own := [("_law_one", 1), ("_law_most", 2)]) (N := N_law_is_sale) (sc := defScope (top 66)) (by decide +kernel)) (fun _ _ _ _ _ => pg_tup rfl (pgs_cons (pg_name (i := 1) sc_law_is_sale.nd rfl (Or.inl rfl)) (pgs_cons (pg_name (i := 2) sc_law_is_sale.nd rfl (Or.inl rfl)) pgs_nil))) (fun _ _ _ _ _ => tyes) (fun _ _ _ _ _ => (dfrz (dcn D_law_within (hr.mono (by decide)) hA (acons (dv 1) (acons di (acons (dv 2) anil)))))) (fun d i s sk yd h => Eq.mp (by kernel_rfl) h))) anil)))))), fun as Q h => ?_⟩
  unfold S_law_is_sale at h
  split at h
  · unfold q_law_is_sale at h
    rename_i x0
    refine at_env (b := [.dat x0, .un, .un]) rfl ?_
    exact Eq.mp (by kernel_rfl) h
  · exact h.elim
theorem ok_law_is_sale (T : Tp K mg) (D_law_is_part : Dn P w K mg base Tb "_law_is_part" 3 ["_law_thing"] S_law_is_part) (D_law_within : Dn P w K mg base Tb "_law_within" 2 ["_law_thing", "_law_least", "_law_most"] S_law_within) : Dn P w K mg base Tb "_law_is_sale" 4 ["_law_thing"] S_law_is_sale := by
  obtain ⟨kV, doc, pm, an, cdv, ct, Fn⟩ := T.fun_ "_law_is_sale" (top 66) 41 121
  exact ⟨⟨_, fg_law_is_sale T D_law_is_part D_law_within Fn, Fn.binds (ps := ["_law_thing"]) fun _ _ _ _ _ _ us hl => match us, hl with | [_], _ => rfl⟩, T.glo "_law_is_sale" 74, T.keep "_law_is_sale" 121⟩
def kk_law_is_body : RT → (PyData → Prop) := fun R v => R (.dat v) []
def em_law_is_body_1 (i : PyData × PyData × PyData × PyData × PyData) (s : Unit) : List SD := [.dat i.1, .dat i.2.1, .dat i.2.2.1, .dat i.2.2.2.1, .dat i.2.2.2.2, .un]
def de_law_is_body_1 : List SD → Option ((PyData × PyData × PyData × PyData × PyData) × (Unit))
  | [.dat x0, .dat x1, .dat x2, .dat x3, .dat x4, .un] => some ((x0, x1, x2, x3, x4), ())
  | _ => none
theorem hde_law_is_body_1 : ∀ env i s, de_law_is_body_1 env = some (i, s) → env = em_law_is_body_1 i s := by
  intro env i s h
  unfold de_law_is_body_1 at h
  split at h
  · cases h; rfl
  · cases h
def S_law_is_body : DSp := fun as Q => match as with
  | [.dat x0, .dat x1] => q_law_is_body x0 x1 (kk_law_is_body Q)
  | _ => False
theorem len_law_is_body (as : List SD) (Q : SD → List SD → Prop) (h : S_law_is_body as Q) : as.length = 2 := by
  unfold S_law_is_body at h
  split at h
  · rfl
  · exact h.elim
theorem cels_law_is_body : CelsIn 0 S_law_is_body := by
  intro as Q h i p xs e
  unfold S_law_is_body at h
  split at h
  · exact absurd e (no_cel (ds := [_, _]) i p xs)
  · exact h.elim
def N_law_is_body : List Str := ["_law_number", "_law_body", "_law_word", "_law_names", "_law_many", "_law_at"]
theorem sc_law_is_body : FnScope N_law_is_body ["_law_number", "_law_body"] (defScope (top 67)) := ⟨rfl, rfl, rfl, by decide +kernel, rfl, by decide +kernel, by decide +kernel⟩
theorem fg_law_is_body (T : Tp K mg) (D_law_is_log : Dn P w K mg base Tb "_law_is_log" 3 ["_law_thing"] S_law_is_log) (D_law_is_name : Dn P w K mg base Tb "_law_is_name" 1 ["_law_thing"] S_law_is_name) (D_law_is_sale : Dn P w K mg base Tb "_law_is_sale" 4 ["_law_thing"] S_law_is_sale) (D_law_is_scheme : Dn P w K mg base Tb "_law_is_scheme" 3 ["_law_thing"] S_law_is_scheme) (D_law_within : Dn P w K mg base Tb "_law_within" 2 ["_law_thing", "_law_least", "_law_most"] S_law_within) {fd : FuncData} (Fn : Fun K "_law_is_body" "_law_is_body" (top 67) (He.ga K "_law_is_body") fd) : FnG P w K mg base Tb 5 (He.ga K "_law_is_body") fd ["_law_number", "_law_body"] S_law_is_body := by
  refine dfnW 0 Fn sc_law_is_body len_law_is_body cels_law_is_body fun cdv A outer s H hP hW hr hA => ⟨_, (scons (sset 2 sc_law_is_body.nd (dx (dixP (dv 1) di))) (scons (skset 3 sc_law_is_body.nd hP hW (ddisp (pp_cons ds (dtup (acons di anil)) (pp_cons ds (dtup (acons di (acons di anil))) (pp_cons ds (dtup anil) (pp_cons ds (dtup (acons di (acons di anil))) (pp_cons ds (dtup (acons di anil)) (pp_cons ds (dtup (acons di anil)) pp_nil)))))))) (scons (skupd 3 hP hW (ddisp (pp_cons ds (dtup anil) (pp_cons ds (dtup (acons di (acons di anil))) pp_nil)))) (scons (sset 4 sc_law_is_body.nd (dx (ddat (ddisp (pp_cons ds di (pp_cons ds di (pp_cons ds di (pp_cons ds di (pp_cons ds di (pp_cons ds di (pp_cons ds di (pp_cons ds di pp_nil)))))))))))) (ssfreezeW 3 hP hW (scons (sif (tor (tninM hr (dv 2) (dv 4)) (tor (dcmpT (op_neE hr.units) opd_ne (dlen (m_len T) (acons (dv 1) anil)) (dixM hr (dv 4) (dv 2)) (nomark _)) (tor1 (tnot (dtest (dall (m_all T) rfl (acons (dfrz (dlc (dec := de_law_is_body_1) (emb := em_law_is_body_1) (qb := qb_law_is_body_1) [("_law_at", 5)] (.one 5) hde_law_is_body_1 rfl sc_law_is_body.nd (iseq (dixM hr (dv 3) (dv 2))) (blkOk_by (own := [("_law_at", 5)]) (N := N_law_is_body) (sc := defScope (top 67)) (by decide +kernel)) (fun _ _ _ _ _ => pg_name (i := 5) sc_law_is_body.nd rfl (Or.inl rfl)) (fun _ _ _ _ _ => tyes) (fun _ _ _ _ _ => (dfrz (dcn D_law_is_name (hr.mono (by decide)) hA (acons (dixP (dv 1) (dv 5)) anil)))) (fun d i s sk yd h => Eq.mp (by kernel_rfl) h))) anil))))))).pt (sone (sret (m := 0) (dx db))) snil) (ssforget [3, 4] (scons (sif (dcmpT (op_eqS hr.units) opd_eqS (dv 2) ds (nomark _)) (sone (sret (m := 0) (dx (dfrz (dcn D_law_is_log (hr.mono (by decide)) hA (acons (dixP (dv 1) di) anil)))))) snil) (scons (sif (dcmpT (op_eqS hr.units) opd_eqS (dv 2) ds (nomark _)) (sone (sret (m := 0) (dx (dandV (dfrz (dcn D_law_within (hr.mono (by decide)) hA (acons (dixP (dv 1) di) (acons di (acons (dpow di di) anil))))) (done (dorV (dfrz (dcn D_law_is_name (hr.mono (by decide)) hA (acons (dixP (dv 1) di) anil))) (done (dcmp (op_eqS hr.units) opd_eqS (dixP (dv 1) di) ds (nomark _))))))))) snil) (scons (sif (dcmpT (op_eqS hr.units) opd_eqS (dv 2) ds (nomark _)) (sone (sret (m := 0) (dx (dandV (dfrz (dcn D_law_within (hr.mono (by decide)) hA (acons (dixP (dv 1) di) (acons di (acons (dpow di di) anil))))) (done (dfrz (dcn D_law_is_scheme (hr.mono (by decide)) hA (acons (dixP (dv 1) di) anil)))))))) snil) (scons (sif (dcmpT (op_eqS hr.units) opd_eqS (dv 2) ds (nomark _)) (ssforget [0, 2] (scons (sif (tor (tnot (dtest (dfrz (dcn D_law_within (hr.mono (by decide)) hA (acons (dixP (dv 1) di) (acons di (acons (dpow di di) anil))))))) (tor1 (tnot (dtest (dfrz (dcn D_law_within (hr.mono (by decide)) hA (acons (dixP (dv 1) di) (acons di (acons (dpow di di) anil))))))))).pt (sone (sret (m := 0) (dx db))) snil) (sone (sret (m := 0) (dx (dandV (dcmp op_le opr_le (dixP (dv 1) di) (dixP (dv 1) di) (nomark _)) (done (dfrz (dcn D_law_within (hr.mono (by decide)) hA (acons (dixP (dv 1) di) (acons di (acons (dpow di di) anil)))))))))))) snil) (scons (sif (dcmpT (op_eqS hr.units) opd_eqS (dv 2) ds (nomark _)) (sone (sret (m := 0) (dx (dfrz (dcn D_law_is_sale (hr.mono (by decide)) hA (acons (dsl (dv 1) (so_some di) so_none) anil)))))) snil) (scons (sif (dcmpT (op_eqS hr.units) opd_eqS (dv 2) ds (nomark _)) (sone (sret (m := 0) (dx (dfrz (dcn D_law_within (hr.mono (by decide)) hA (acons (dixP (dv 1) di) (acons di (acons (dpow di di) anil)))))))) snil) (sone (sret (m := 0) (dx (dif (dcmpT (op_eqS hr.units) opd_eqS (dv 2) ds (nomark _)) (dfrz (dcn D_law_within (hr.mono (by decide)) hA (acons (dixP (dv 1) di) (acons di (acons (dsub (dv 0) di) anil))))) (dfrz (dcn D_law_within (hr.mono (by decide)) hA (acons (dixP (dv 1) di) (acons di (acons (dpow di di) anil)))))))))))))))))))))), fun as Q h => ?_⟩
  unfold S_law_is_body at h
  split at h
  · unfold q_law_is_body at h
    rename_i x0 x1
    refine at_env (b := [.dat x0, .dat x1, .un, .un, .un, .un]) rfl ?_
    exact Eq.mp (by kernel_rfl) h
  · exact h.elim
theorem ok_law_is_body (T : Tp K mg) (D_law_is_log : Dn P w K mg base Tb "_law_is_log" 3 ["_law_thing"] S_law_is_log) (D_law_is_name : Dn P w K mg base Tb "_law_is_name" 1 ["_law_thing"] S_law_is_name) (D_law_is_sale : Dn P w K mg base Tb "_law_is_sale" 4 ["_law_thing"] S_law_is_sale) (D_law_is_scheme : Dn P w K mg base Tb "_law_is_scheme" 3 ["_law_thing"] S_law_is_scheme) (D_law_within : Dn P w K mg base Tb "_law_within" 2 ["_law_thing", "_law_least", "_law_most"] S_law_within) : Dn P w K mg base Tb "_law_is_body" 5 ["_law_number", "_law_body"] S_law_is_body := by
  obtain ⟨kV, doc, pm, an, cdv, ct, Fn⟩ := T.fun_ "_law_is_body" (top 67) 42 122
  exact ⟨⟨_, fg_law_is_body T D_law_is_log D_law_is_name D_law_is_sale D_law_is_scheme D_law_within Fn, Fn.binds (ps := ["_law_number", "_law_body"]) fun _ _ _ _ _ _ us hl => match us, hl with | [_, _], _ => rfl⟩, T.glo "_law_is_body" 75, T.keep "_law_is_body" 122⟩
def kk_law_is_page : RT → (PyData → Prop) := fun R v => R (.dat v) []
def S_law_is_page : DSp := fun as Q => match as with
  | [.dat x0] => q_law_is_page x0 (kk_law_is_page Q)
  | _ => False
theorem len_law_is_page (as : List SD) (Q : SD → List SD → Prop) (h : S_law_is_page as Q) : as.length = 1 := by
  unfold S_law_is_page at h
  split at h
  · rfl
  · exact h.elim
theorem cels_law_is_page : CelsIn 0 S_law_is_page := by
  intro as Q h i p xs e
  unfold S_law_is_page at h
  split at h
  · exact absurd e (no_cel (ds := [_]) i p xs)
  · exact h.elim
def N_law_is_page : List Str := ["_law_thing"]
theorem sc_law_is_page : FnScope N_law_is_page ["_law_thing"] (defScope (top 68)) := ⟨rfl, rfl, rfl, by decide +kernel, rfl, by decide +kernel, by decide +kernel⟩
theorem fg_law_is_page (T : Tp K mg) (D_law_is_body : Dn P w K mg base Tb "_law_is_body" 5 ["_law_number", "_law_body"] S_law_is_body) (D_law_within : Dn P w K mg base Tb "_law_within" 2 ["_law_thing", "_law_least", "_law_most"] S_law_within) {fd : FuncData} (Fn : Fun K "_law_is_page" "_law_is_page" (top 68) (He.ga K "_law_is_page") fd) : FnG P w K mg base Tb 6 (He.ga K "_law_is_page") fd ["_law_thing"] S_law_is_page := by
  refine dfn 0 Fn sc_law_is_page len_law_is_page cels_law_is_page fun cdv A outer s H hr hA => ⟨_, (scons (sif (tor (tnot (dtest (disi "tuple" "tuple" (m_isinstance T) (m_tuple T) (by decide +kernel) (by decide +kernel) (dv 0)))) (tor (dcmpT (op_neE hr.units) opd_ne (dlen (m_len T) (acons (dv 0) anil)) di (nomark _)) (tor (tnot (dtest (disi "tuple" "tuple" (m_isinstance T) (m_tuple T) (by decide +kernel) (by decide +kernel) (dixP (dv 0) di)))) (tor1 (dcmpT (op_empE hr.units) opd_emp (dixP (dv 0) di) (dtup anil) (nomark _)))))).pt (sone (sret (m := 0) (dx db))) snil) (scons (sif (tor (tnot (dtest (dfrz (dcn D_law_within (hr.mono (by decide)) hA (acons (dixP (dv 0) di) (acons di (acons (dpow di di) anil))))))) (tor1 (tnot (dtest (dfrz (dcn D_law_within (hr.mono (by decide)) hA (acons (dixP (dv 0) di) (acons di (acons (dpow di di) anil))))))))).pt (sone (sret (m := 0) (dx db))) snil) (sone (sret (m := 0) (dx (dandV (disi "str" "str" (m_isinstance T) (m_str T) (by decide +kernel) (by decide +kernel) (dixP (dixP (dv 0) di) di)) (done (dfrz (dcn D_law_is_body (hr.mono (by decide)) hA (acons (dixP (dv 0) di) (acons (dixP (dv 0) di) anil))))))))))), fun as Q h => ?_⟩
  unfold S_law_is_page at h
  split at h
  · unfold q_law_is_page at h
    rename_i x0
    refine at_env (b := [.dat x0]) rfl ?_
    exact Eq.mp (by kernel_rfl) h
  · exact h.elim
theorem ok_law_is_page (T : Tp K mg) (D_law_is_body : Dn P w K mg base Tb "_law_is_body" 5 ["_law_number", "_law_body"] S_law_is_body) (D_law_within : Dn P w K mg base Tb "_law_within" 2 ["_law_thing", "_law_least", "_law_most"] S_law_within) : Dn P w K mg base Tb "_law_is_page" 6 ["_law_thing"] S_law_is_page := by
  obtain ⟨kV, doc, pm, an, cdv, ct, Fn⟩ := T.fun_ "_law_is_page" (top 68) 43 123
  exact ⟨⟨_, fg_law_is_page T D_law_is_body D_law_within Fn, Fn.binds (ps := ["_law_thing"]) fun _ _ _ _ _ _ us hl => match us, hl with | [_], _ => rfl⟩, T.glo "_law_is_page" 76, T.keep "_law_is_page" 123⟩
def kk_law_are_pages : RT → (PyData → Prop) := fun R v => R (.dat v) []
def em_law_are_pages_1 (i : PyData) (s : Unit) : List SD := [.dat i, .un]
def de_law_are_pages_1 : List SD → Option ((PyData) × (Unit))
  | [.dat x0, .un] => some (x0, ())
  | _ => none
theorem hde_law_are_pages_1 : ∀ env i s, de_law_are_pages_1 env = some (i, s) → env = em_law_are_pages_1 i s := by
  intro env i s h
  unfold de_law_are_pages_1 at h
  split at h
  · cases h; rfl
  · cases h
def em_law_are_pages_2 (i : PyData) (s : Unit) : List SD := [.dat i, .un]
def de_law_are_pages_2 : List SD → Option ((PyData) × (Unit))
  | [.dat x0, .un] => some (x0, ())
  | _ => none
theorem hde_law_are_pages_2 : ∀ env i s, de_law_are_pages_2 env = some (i, s) → env = em_law_are_pages_2 i s := by
  intro env i s h
  unfold de_law_are_pages_2 at h
  split at h
  · cases h; rfl
  · cases h
def S_law_are_pages : DSp := fun as Q => match as with
  | [.dat x0] => q_law_are_pages x0 (kk_law_are_pages Q)
  | _ => False
theorem len_law_are_pages (as : List SD) (Q : SD → List SD → Prop) (h : S_law_are_pages as Q) : as.length = 1 := by
  unfold S_law_are_pages at h
  split at h
  · rfl
  · exact h.elim
theorem cels_law_are_pages : CelsIn 0 S_law_are_pages := by
  intro as Q h i p xs e
  unfold S_law_are_pages at h
  split at h
  · exact absurd e (no_cel (ds := [_]) i p xs)
  · exact h.elim
def N_law_are_pages : List Str := ["_law_thing", "_law_page"]
theorem sc_law_are_pages : FnScope N_law_are_pages ["_law_thing"] (defScope (top 69)) := ⟨rfl, rfl, rfl, by decide +kernel, rfl, by decide +kernel, by decide +kernel⟩
theorem fg_law_are_pages (T : Tp K mg) (D_law_is_page : Dn P w K mg base Tb "_law_is_page" 6 ["_law_thing"] S_law_is_page) {fd : FuncData} (Fn : Fun K "_law_are_pages" "_law_are_pages" (top 69) (He.ga K "_law_are_pages") fd) : FnG P w K mg base Tb 7 (He.ga K "_law_are_pages") fd ["_law_thing"] S_law_are_pages := by
  refine dfn 0 Fn sc_law_are_pages len_law_are_pages cels_law_are_pages fun cdv A outer s H hr hA => ⟨_, (scons (sif (tor (tnot (dtest (disi "tuple" "tuple" (m_isinstance T) (m_tuple T) (by decide +kernel) (by decide +kernel) (dv 0)))) (tor (dcmpT op_gt opr_gt (dlen (m_len T) (acons (dv 0) anil)) di (nomark _)) (tor1 (tnot (dtest (dall (m_all T) rfl (acons (dfrz (dlc (dec := de_law_are_pages_1) (emb := em_law_are_pages_1) (qb := qb_law_are_pages_1) [("_law_page", 1)] (.one 1) hde_law_are_pages_1 rfl sc_law_are_pages.nd (iseq (dv 0)) (blkOk_by (own := [("_law_page", 1)]) (N := N_law_are_pages) (sc := defScope (top 69)) (by decide +kernel)) (fun _ _ _ _ _ => pg_name (i := 1) sc_law_are_pages.nd rfl (Or.inl rfl)) (fun _ _ _ _ _ => tyes) (fun _ _ _ _ _ => (dfrz (dcn D_law_is_page (hr.mono (by decide)) hA (acons (dv 1) anil)))) (fun d i s sk yd h => Eq.mp (by kernel_rfl) h))) anil))))))).pt (sone (sret (m := 0) (dx db))) snil) (sone (sret (m := 0) (dx (dcmp (op_eqE hr.units) opd_eq (dlenSetI (by rfl) (m_len T) (m_set T) (dfrz (dlc (dec := de_law_are_pages_2) (emb := em_law_are_pages_2) (qb := qb_law_are_pages_2) [("_law_page", 1)] (.one 1) hde_law_are_pages_2 rfl sc_law_are_pages.nd (iseq (dv 0)) (blkOk_by (own := [("_law_page", 1)]) (N := N_law_are_pages) (sc := defScope (top 69)) (by decide +kernel)) (fun _ _ _ _ _ => pg_name (i := 1) sc_law_are_pages.nd rfl (Or.inl rfl)) (fun _ _ _ _ _ => tyes) (fun _ _ _ _ _ => (dixP (dv 1) di)) (fun d i s sk yd h => Eq.mp (by kernel_rfl) h)))) (dlen (m_len T) (acons (dv 0) anil)) (nomark _)))))), fun as Q h => ?_⟩
  unfold S_law_are_pages at h
  split at h
  · unfold q_law_are_pages at h
    rename_i x0
    refine at_env (b := [.dat x0, .un]) rfl ?_
    exact Eq.mp (by kernel_rfl) h
  · exact h.elim
theorem ok_law_are_pages (T : Tp K mg) (D_law_is_page : Dn P w K mg base Tb "_law_is_page" 6 ["_law_thing"] S_law_is_page) : Dn P w K mg base Tb "_law_are_pages" 7 ["_law_thing"] S_law_are_pages := by
  obtain ⟨kV, doc, pm, an, cdv, ct, Fn⟩ := T.fun_ "_law_are_pages" (top 69) 44 124
  exact ⟨⟨_, fg_law_are_pages T D_law_is_page Fn, Fn.binds (ps := ["_law_thing"]) fun _ _ _ _ _ _ us hl => match us, hl with | [_], _ => rfl⟩, T.glo "_law_are_pages" 77, T.keep "_law_are_pages" 124⟩
def kk_law_odds : RT → (PyData → List PyData → Prop) := fun R v c => R (.dat v) [.cel true c]
def S_law_odds : DSp := fun as Q => match as with
  | [.cel true x0] => q_law_odds x0 (kk_law_odds Q)
  | _ => False
theorem len_law_odds (as : List SD) (Q : SD → List SD → Prop) (h : S_law_odds as Q) : as.length = 1 := by
  unfold S_law_odds at h
  split at h
  · rfl
  · exact h.elim
theorem cels_law_odds : CelsIn 1 S_law_odds := by
  intro as Q h i p xs e
  unfold S_law_odds at h
  split at h
  · exact cels1 (ds := []) e
  · exact h.elim
def N_law_odds : List Str := ["_law_pot", "_law_far", "_law_found"]
theorem sc_law_odds : FnScope N_law_odds ["_law_pot"] (defScope (top 70)) := ⟨rfl, rfl, rfl, by decide +kernel, rfl, by decide +kernel, by decide +kernel⟩
theorem fg_law_odds (T : Tp K mg) (D_law_draw : Dn P w K mg base Tb "_law_draw" 1 ["_law_pot", "_law_many"] S_law_draw) {fd : FuncData} (Fn : Fun K "_law_odds" "_law_odds" (top 70) (He.ga K "_law_odds") fd) : FnG P w K mg base Tb 2 (He.ga K "_law_odds") fd ["_law_pot"] S_law_odds := by
  refine dfn 1 Fn sc_law_odds len_law_odds cels_law_odds fun cdv A outer s H hr hA => ⟨_, (scons (sset 1 sc_law_odds.nd (dcnC 0 D_law_draw (hr.mono (by decide)) hA (acons (dpow di di) anil))) (scons (sset 2 sc_law_odds.nd (dx (dfrz (dlst (acons di (acons di (acons (dneg di) (acons di (acons di (acons (dpow di di) (acons (dadd (dpow di di) di) (acons (dsub (dneg (dpow di di)) di) (acons (dpow di di) (acons (dadd (dpow di di) di) (acons (dpow di di) (acons (dadd (dpow di di) di) anil)))))))))))))))) (scons (sset 2 sc_law_odds.nd (dx (dadd (dv 2) (dfrz (dlst (acons (dv 1) (acons (dneg (dv 1)) (acons (dpow di di) (acons (dadd (dpow di di) di) (acons (dpow di di) (acons (dadd (dpow di di) di) (acons di (acons di (acons di (acons db (acons db anil)))))))))))))))) (scons (sset 2 sc_law_odds.nd (dx (dadd (dv 2) (dfrz (dlst (acons dn (acons (dtup anil) (acons ddict0 (acons (dfrz (dlst anil)) anil))))))))) (scons (sset 2 sc_law_odds.nd (dx (dadd (dv 2) (dfrz (dlst (acons ds (acons ds (acons ds (acons ds (acons ds (acons ds (acons ds (acons ds (acons ds (acons ds (acons ds (acons ds anil))))))))))))))))) (sone (sret (m := 1) (dx (dadd (dv 2) (dfrz (dlst (acons (dtup (acons di anil)) (acons (dtup (acons di (acons di anil))) (acons (dtup (acons di (acons di anil))) (acons (dtup (acons di (acons di anil))) (acons (dtup (acons ds (acons di anil))) (acons (dtup (acons (dtup (acons di (acons di (acons di anil)))) anil)) (acons (dtup (acons di (acons di (acons di anil)))) (acons (dfrz (dlst (acons di anil))) (acons (dtup (acons ds anil)) (acons (dtup (acons ds (acons di anil))) anil))))))))))))))))))))), fun as Q h => ?_⟩
  unfold S_law_odds at h
  split at h
  · unfold q_law_odds at h
    rename_i x0
    refine at_env (b := [.cel true x0, .un, .un]) rfl ?_
    exact Eq.mp (by kernel_rfl) h
  · exact h.elim
theorem ok_law_odds (T : Tp K mg) (D_law_draw : Dn P w K mg base Tb "_law_draw" 1 ["_law_pot", "_law_many"] S_law_draw) : Dn P w K mg base Tb "_law_odds" 2 ["_law_pot"] S_law_odds := by
  obtain ⟨kV, doc, pm, an, cdv, ct, Fn⟩ := T.fun_ "_law_odds" (top 70) 45 125
  exact ⟨⟨_, fg_law_odds T D_law_draw Fn, Fn.binds (ps := ["_law_pot"]) fun _ _ _ _ _ _ us hl => match us, hl with | [_], _ => rfl⟩, T.glo "_law_odds" 78, T.keep "_law_odds" 125⟩
def kk_law : RT → (PyData → Prop) := fun R v => R (.dat v) []
def em_law_1 (i : PyData) (s : Unit) : List SD := [.dat i, .un, .un, .un, .un, .un, .un, .un, .un, .un, .un, .un, .un, .un, .un, .un, .un]
def de_law_1 : List SD → Option ((PyData) × (Unit))
  | [.dat x0, .un, .un, .un, .un, .un, .un, .un, .un, .un, .un, .un, .un, .un, .un, .un, .un] => some (x0, ())
  | _ => none
theorem hde_law_1 : ∀ env i s, de_law_1 env = some (i, s) → env = em_law_1 i s := by
  intro env i s h
  unfold de_law_1 at h
  split at h
  · cases h; rfl
  · cases h
def em_law_2 (i : PyData × List PyData × PyData × PyData × PyData) (s : List PyData) : List SD := [.dat i.1, .un, .cel false i.2.1, .dat i.2.2.1, .dat i.2.2.2.1, .dat i.2.2.2.2, .cel false s, .un, .un, .un, .un, .un, .un, .un, .un, .un, .un]
def de_law_2 : List SD → Option ((PyData × List PyData × PyData × PyData × PyData) × (List PyData))
  | [.dat x0, .un, .cel false x2, .dat x3, .dat x4, .dat x5, .cel false x6, .un, .un, .un, .un, .un, .un, .un, .un, .un, .un] => some ((x0, x2, x3, x4, x5), x6)
  | _ => none
theorem hde_law_2 : ∀ env i s, de_law_2 env = some (i, s) → env = em_law_2 i s := by
  intro env i s h
  unfold de_law_2 at h
  split at h
  · cases h; rfl
  · cases h
def em_law_3 (i : PyData × PyData × PyData × PyData) (s : List PyData × List PyData) : List SD := [.dat i.1, .un, .cel false s.1, .dat i.2.1, .dat i.2.2.1, .dat i.2.2.2, .cel false s.2, .un, .un, .un, .un, .un, .un, .un, .un, .un, .un]
def de_law_3 : List SD → Option ((PyData × PyData × PyData × PyData) × (List PyData × List PyData))
  | [.dat x0, .un, .cel false x2, .dat x3, .dat x4, .dat x5, .cel false x6, .un, .un, .un, .un, .un, .un, .un, .un, .un, .un] => some ((x0, x3, x4, x5), (x2, x6))
  | _ => none
theorem hde_law_3 : ∀ env i s, de_law_3 env = some (i, s) → env = em_law_3 i s := by
  intro env i s h
  unfold de_law_3 at h
  split at h
  · cases h; rfl
  · cases h
def em_law_4 (i : PyData × List PyData × PyData × PyData × PyData) (s : Unit) : List SD := [.dat i.1, .un, .cel false i.2.1, .dat i.2.2.1, .dat i.2.2.2.1, .dat i.2.2.2.2, .un, .un, .un, .un, .un, .un, .un, .un, .un, .un, .un]
def de_law_4 : List SD → Option ((PyData × List PyData × PyData × PyData × PyData) × (Unit))
  | [.dat x0, .un, .cel false x2, .dat x3, .dat x4, .dat x5, .un, .un, .un, .un, .un, .un, .un, .un, .un, .un, .un] => some ((x0, x2, x3, x4, x5), ())
  | _ => none
theorem hde_law_4 : ∀ env i s, de_law_4 env = some (i, s) → env = em_law_4 i s := by
  intro env i s h
  unfold de_law_4 at h
  split at h
  · cases h; rfl
  · cases h
def em_law_5 (i : PyData × List PyData × PyData × PyData × PyData) (s : Unit) : List SD := [.dat i.1, .un, .cel false i.2.1, .dat i.2.2.1, .dat i.2.2.2.1, .dat i.2.2.2.2, .un, .un, .un, .un, .un, .un, .un, .un, .un, .un, .un]
def de_law_5 : List SD → Option ((PyData × List PyData × PyData × PyData × PyData) × (Unit))
  | [.dat x0, .un, .cel false x2, .dat x3, .dat x4, .dat x5, .un, .un, .un, .un, .un, .un, .un, .un, .un, .un, .un] => some ((x0, x2, x3, x4, x5), ())
  | _ => none
theorem hde_law_5 : ∀ env i s, de_law_5 env = some (i, s) → env = em_law_5 i s := by
  intro env i s h
  unfold de_law_5 at h
  split at h
  · cases h; rfl
  · cases h
def em_law_6 (i : PyData × PyData × PyData) (s : List PyData × List PyData) : List SD := [.dat i.1, .un, .cel false s.1, .un, .dat i.2.1, .dat i.2.2, .un, .un, .un, .un, .un, .un, .un, .un, .cel false s.2, .un, .un]
def de_law_6 : List SD → Option ((PyData × PyData × PyData) × (List PyData × List PyData))
  | [.dat x0, .un, .cel false x2, .un, .dat x4, .dat x5, .un, .un, .un, .un, .un, .un, .un, .un, .cel false x14, .un, .un] => some ((x0, x4, x5), (x2, x14))
  | _ => none
theorem hde_law_6 : ∀ env i s, de_law_6 env = some (i, s) → env = em_law_6 i s := by
  intro env i s h
  unfold de_law_6 at h
  split at h
  · cases h; rfl
  · cases h
def em_law_7 (i : PyData) (s : Unit) : List SD := [.dat i, .un, .un, .un, .un, .un, .un, .un, .un, .un, .un, .un, .un, .un, .un, .un, .un]
def de_law_7 : List SD → Option ((PyData) × (Unit))
  | [.dat x0, .un, .un, .un, .un, .un, .un, .un, .un, .un, .un, .un, .un, .un, .un, .un, .un] => some (x0, ())
  | _ => none
theorem hde_law_7 : ∀ env i s, de_law_7 env = some (i, s) → env = em_law_7 i s := by
  intro env i s h
  unfold de_law_7 at h
  split at h
  · cases h; rfl
  · cases h
def S_law : DSp := fun as Q => match as with
  | [.dat x0] => q_law x0 (kk_law Q)
  | _ => False
theorem len_law (as : List SD) (Q : SD → List SD → Prop) (h : S_law as Q) : as.length = 1 := by
  unfold S_law at h
  split at h
  · rfl
  · exact h.elim
theorem cels_law : CelsIn 0 S_law := by
  intro as Q h i p xs e
  unfold S_law at h
  split at h
  · exact absurd e (no_cel (ds := [_]) i p xs)
  · exact h.elim
def N_law : List Str := ["_law_script", "_law_k", "_law_pot", "_law_way", "_law_pages", "_law_odds_here", "_law_things", "_law_low", "_law_high", "_law_turn", "_law_page", "_law_thing", "_law_told", "_law_many", "_law_books", "_law_book_here", "_law_number"]
theorem sc_law : FnScope N_law ["_law_script"] (defScope (top 71)) := ⟨rfl, rfl, rfl, by decide +kernel, rfl, by decide +kernel, by decide +kernel⟩
theorem fg_law (T : Tp K mg) (D_law_are_pages : Dn P w K mg base Tb "_law_are_pages" 7 ["_law_thing"] S_law_are_pages) (D_law_book : Dn P w K mg base Tb "_law_book" 4 ["_law_pot", "_law_folk_here", "_law_most"] S_law_book) (D_law_draw : Dn P w K mg base Tb "_law_draw" 1 ["_law_pot", "_law_many"] S_law_draw) (D_law_folk : Dn P w K mg base Tb "_law_folk" 3 ["_law_pot"] S_law_folk) (D_law_is_page : Dn P w K mg base Tb "_law_is_page" 6 ["_law_thing"] S_law_is_page) (D_law_odds : Dn P w K mg base Tb "_law_odds" 2 ["_law_pot"] S_law_odds) (D_law_pot_of : Dn P w K mg base Tb "_law_pot_of" 1 ["_law_script", "_law_k"] S_law_pot_of) (D_law_spoilt : Dn P w K mg base Tb "_law_spoilt" 9 ["_law_pot", "_law_thing", "_law_odds_here", "_law_depth"] S_law_spoilt) (D_are_pages : Dn P w K mg base Tb "are_pages" 8 ["thing"] S_are_pages) (D_is_page : Dn P w K mg base Tb "is_page" 7 ["thing"] S_is_page) {fd : FuncData} (Fn : Fun K "law" "law" (top 71) (He.ga K "law") fd) : FnG P w K mg base Tb 10 (He.ga K "law") fd ["_law_script"] S_law := by
  refine dfn 0 Fn sc_law len_law cels_law fun cdv A outer s H hr hA => ⟨_, (scons (sforQ [1, 2, 3, 4, 5, 6, 7, 8, 9, 10, 11, 12, 13, 14, 15] de_law_1 em_law_1 kk_law qb_law_1 hde_law_1 PassesOwn.never rfl (irange1 (m_range T) (acons (dmax2 (m_max T) rfl (acons di (acons (dmin2 (m_min T) rfl (acons (dlen (m_len T) (acons (dv 0) anil)) (acons di anil))) anil))) anil)) (gn 1 sc_law.nd) (scons (sset 2 sc_law.nd (dcn D_law_pot_of (hr.mono (by decide)) hA (acons (dv 0) (acons (dv 1) anil)))) (scons (sset 3 sc_law.nd (dcnC 2 D_law_draw (hr.mono (by decide)) hA (acons di anil))) (scons (sset 4 sc_law.nd (dcnC 2 D_law_book (hr.mono (by decide)) hA (acons (dfrz (dcnC 2 D_law_folk (hr.mono (by decide)) hA anil)) (acons di anil)))) (scons (sset 5 sc_law.nd (dcnC 2 D_law_odds (hr.mono (by decide)) hA anil)) (scons (sset 6 sc_law.nd (dcatN (dv 5) (dfrz (dlst (acons (dtup (acons di (acons di (acons (dtup (acons ds (acons di anil))) anil)))) (acons (dtup (acons di (acons di (acons (dtup (acons ds (acons di anil))) anil)))) (acons (dtup (acons di (acons di (acons (dtup (acons ds (acons di anil))) anil)))) anil))))))) (scons (sapp 6 (dtup (acons di (acons di (acons (dtup (acons ds (acons ds (acons ds (acons di anil))))) anil))))) (ssforget [1] (scons (sforQ [7, 8] de_law_2 em_law_2 kk_law qb_law_2 hde_law_2 PassesOwn.never rfl (iseq (dtup (acons (dtup (acons di (acons di anil))) (acons (dtup (acons di (acons di anil))) (acons (dtup (acons di (acons (dpow di di) anil))) (acons (dtup (acons di (acons (dadd (dpow di di) di) anil))) (acons (dtup (acons (dneg di) (acons di anil))) anil))))))) (gtup (gl_cons gok_n (gl_cons gok_n gl_nil)) rfl (gcons (gn 7 sc_law.nd) (gcons (gn 8 sc_law.nd) gnil))) (sone (sapp 6 (dtup (acons (dpow di di) (acons (dpow di di) (acons (dtup (acons ds (acons ds (acons ds (acons (dv 7) (acons (dv 8) (acons (dpow di di) anil))))))) anil)))))) (fun R d i s nx bk h => Eq.mp (by kernel_rfl) h)) (scons (sforQ [9, 10] de_law_3 em_law_3 kk_law qb_law_3 hde_law_3 PassesOwn.never rfl (irange1 (m_range T) (acons di anil)) (gn 9 sc_law.nd) (scons (sset 10 sc_law.nd (dx (dixP (dv 4) (dmod (dadd (dv 3) (dmul di (dv 9))) (dlen (m_len T) (acons (dv 4) anil)))))) (scons (sapp 6 (dv 10)) (scons (sapp 6 (dfrz (dcnC 2 D_law_spoilt (hr.mono (by decide)) hA (acons (dv 10) (acons (dv 5) (acons di anil)))))) (sone (sapp 6 (dfrz (dcnC 2 D_law_spoilt (hr.mono (by decide)) hA (acons (dixC 6 (dneg di)) (acons (dv 5) (acons di anil)))))))))) (fun R d i s nx bk h => Eq.mp (by kernel_rfl) h)) (ssfreeze2 6 (scons (sforQ [6, 11, 12] de_law_4 em_law_4 kk_law qb_law_4 hde_law_4 PassesOwn.never rfl (iseq (dv 6)) (gn 11 sc_law.nd) (scons (sset 12 sc_law.nd (dcn D_is_page (hr.mono (by decide)) hA (acons (dv 11) anil))) (sone (sif (tor (tnot (dtest (disi "bool" "bool" (m_isinstance T) (m_bool T) (by decide +kernel) (by decide +kernel) (dv 12)))) (tor1 (dcmpT (op_neE hr.units) opd_ne (dv 12) (dfrz (dcn D_law_is_page (hr.mono (by decide)) hA (acons (dv 11) anil))) (nomark _)))).pt (sone (sret (m := 0) (dx db))) snil))) (fun R d i s nx bk h => Eq.mp (by kernel_rfl) h)) (scons (ssetLc (dec := de_law_5) (emb := em_law_5) (qb := qb_law_5) 13 [("_law_number", 16)] (.one 16) hde_law_5 rfl sc_law.nd (irange2 (m_range T) (acons di (acons di anil))) (blkOk_by (own := [("_law_number", 16)]) (N := N_law) (sc := defScope (top 71)) (by decide +kernel)) (fun _ _ _ _ _ => pg_name (i := 16) sc_law.nd rfl (Or.inl rfl)) (fun _ _ _ _ _ => tyes) (fun _ _ _ _ _ => (dtup (acons di (acons (dv 16) (acons (dtup (acons ds (acons di anil))) anil))))) (fun d i s sk yd h => Eq.mp (by kernel_rfl) h) (sw_true rfl rfl rfl (by decide +kernel))) (ssfreeze2 13 (scons (sset 14 sc_law.nd (dlst (acons (dv 4) (acons (dtup anil) (acons (dtupleOf (m_tuple T) (acons (dv 13) anil)) (acons (dtupleOf (m_tuple T) (acons (dadd (dv 13) (dfrz (dlst (acons (dtup (acons di (acons di (acons (dtup (acons ds (acons ds (acons ds (acons di anil))))) anil)))) anil)))) anil)) (acons (dfrz (dlistOf (m_list T) (acons (dv 4) anil))) (acons (dadd (dv 4) (dsl (dv 4) so_none (so_some di))) anil)))))))) (scons (sapp 14 (dadd (dv 4) (dtup (acons (dtup (acons (dpow di di) (acons (dixP (dixP (dv 4) (dmod (dv 3) (dlen (m_len T) (acons (dv 4) anil)))) di) (acons (dtup (acons ds (acons ds (acons ds (acons (dpow di di) anil))))) anil)))) anil)))) (ssforget [3, 13] (scons (sforQ [9] de_law_6 em_law_6 kk_law qb_law_6 hde_law_6 PassesOwn.never rfl (irange1 (m_range T) (acons di anil)) (gn 9 sc_law.nd) (sone (sapp 14 (dfrz (dcnC 2 D_law_spoilt (hr.mono (by decide)) hA (acons (dv 4) (acons (dv 5) (acons di anil))))))) (fun R d i s nx bk h => Eq.mp (by kernel_rfl) h)) (ssforget [2, 4] (ssfreeze2 14 (sone (sforQ [5, 12, 14, 15] de_law_7 em_law_7 kk_law qb_law_7 hde_law_7 PassesOwn.never rfl (iseq (dadd (dv 14) (dv 5))) (gn 15 sc_law.nd) (scons (sset 12 sc_law.nd (dcn D_are_pages (hr.mono (by decide)) hA (acons (dv 15) anil))) (sone (sif (tor (tnot (dtest (disi "bool" "bool" (m_isinstance T) (m_bool T) (by decide +kernel) (by decide +kernel) (dv 12)))) (tor1 (dcmpT (op_neE hr.units) opd_ne (dv 12) (dfrz (dcn D_law_are_pages (hr.mono (by decide)) hA (acons (dv 15) anil))) (nomark _)))).pt (sone (sret (m := 0) (dx db))) snil))) (fun R d i s nx bk h => Eq.mp (by kernel_rfl) h)))))))))))))))))))))) (fun R d i s nx bk h => Eq.mp (by kernel_rfl) h)) (sone (sret (m := 0) (dx db)))), fun as Q h => ?_⟩
  unfold S_law at h
  split at h
  · unfold q_law at h
    rename_i x0
    refine at_env (b := [.dat x0, .un, .un, .un, .un, .un, .un, .un, .un, .un, .un, .un, .un, .un, .un, .un, .un]) rfl ?_
    exact Eq.mp (by kernel_rfl) h
  · exact h.elim
theorem ok_law (T : Tp K mg) (D_law_are_pages : Dn P w K mg base Tb "_law_are_pages" 7 ["_law_thing"] S_law_are_pages) (D_law_book : Dn P w K mg base Tb "_law_book" 4 ["_law_pot", "_law_folk_here", "_law_most"] S_law_book) (D_law_draw : Dn P w K mg base Tb "_law_draw" 1 ["_law_pot", "_law_many"] S_law_draw) (D_law_folk : Dn P w K mg base Tb "_law_folk" 3 ["_law_pot"] S_law_folk) (D_law_is_page : Dn P w K mg base Tb "_law_is_page" 6 ["_law_thing"] S_law_is_page) (D_law_odds : Dn P w K mg base Tb "_law_odds" 2 ["_law_pot"] S_law_odds) (D_law_pot_of : Dn P w K mg base Tb "_law_pot_of" 1 ["_law_script", "_law_k"] S_law_pot_of) (D_law_spoilt : Dn P w K mg base Tb "_law_spoilt" 9 ["_law_pot", "_law_thing", "_law_odds_here", "_law_depth"] S_law_spoilt) (D_are_pages : Dn P w K mg base Tb "are_pages" 8 ["thing"] S_are_pages) (D_is_page : Dn P w K mg base Tb "is_page" 7 ["thing"] S_is_page) : Dn P w K mg base Tb "law" 10 ["_law_script"] S_law := by
  obtain ⟨kV, doc, pm, an, cdv, ct, Fn⟩ := T.fun_ "law" (top 71) 46 126
  exact ⟨⟨_, fg_law T D_law_are_pages D_law_book D_law_draw D_law_folk D_law_is_page D_law_odds D_law_pot_of D_law_spoilt D_are_pages D_is_page Fn, Fn.binds (ps := ["_law_script"]) fun _ _ _ _ _ _ us hl => match us, hl with | [_], _ => rfl⟩, T.glo "law" 79, T.keep "law" 126⟩
theorem law_imp (as : List SD) (Q : SD → List SD → Prop) (h : lawS 63 as Q) : S_law as Q := by
  unfold lawS at h
  split at h
  · obtain ⟨⟨ns, rfl, hn⟩, h⟩ := h
    exact the_law ns hn _ (h [])
  · exact h.elim

end
theorem facts {P : Program} {w : World} {K : PySem.W.Frag} {h : Heap} {mg : Str → Option Value} {f : Addr} (X : K.In h) (G : h.Ns mainGlobals mg) (hfa : mg ("law" : Str) = some (.ref f)) (c : He.SaysE fa fn K) (cx : FxSays fx K) :
    ∃ fd : FuncData, (∀ (s : Shared) (v : Value), BindsTo s fd ⟨[v], []⟩ [("_law_script", v)]) ∧ ∀ base : Heap, K.In base → base.Ns mainGlobals mg → SysD base → FnG P w K mg base [] 10 f fd ["_law_script"] (lawS 63) := by
  have T : Tp K mg := ⟨⟨c, h, X, G⟩, cx⟩
  have e := hfa.symm.trans (T.glo "law" 79)
  cases e
  obtain ⟨kV, doc, pm, an, cdv, ct, Fn⟩ := T.fun_ "law" (top 71) 46 126
  refine ⟨PySem.W.fnOf "law" "law" (defArgs (top 71)) (defBody (top 71)) (defScope (top 71)) .none kV doc pm an cdv ct, fun s v => .of_eq rfl, fun base _ _ BD => ?_⟩
  haveI : SysB base := ⟨BD⟩
  have D_is_whole : Dn P w K mg base [] "is_whole" 1 ["thing"] S_is_whole := ok_is_whole T 
  have D_is_within : Dn P w K mg base [] "is_within" 2 ["thing", "least", "most"] S_is_within := ok_is_within T D_is_whole
  have D_are_wholes : Dn P w K mg base [] "are_wholes" 2 ["thing", "many"] S_are_wholes := ok_are_wholes T D_is_whole
  have D_divisor_of : Dn P w K mg base [] "divisor_of" 1 ["one", "other"] S_divisor_of := ok_divisor_of T 
  have D_is_fraction : Dn P w K mg base [] "is_fraction" 3 ["thing"] S_is_fraction := ok_is_fraction T D_are_wholes D_divisor_of
  have D_is_hour_tracks : Dn P w K mg base [] "is_hour_tracks" 2 ["thing"] S_is_hour_tracks := ok_is_hour_tracks T D_is_whole
  have D_is_log_row : Dn P w K mg base [] "is_log_row" 3 ["thing"] S_is_log_row := ok_is_log_row T D_is_hour_tracks D_is_whole
  have D_is_log : Dn P w K mg base [] "is_log" 4 ["thing"] S_is_log := ok_is_log T D_is_log_row
  have D_is_name : Dn P w K mg base [] "is_name" 1 ["thing"] S_is_name := ok_is_name T 
  have D_are_heads : Dn P w K mg base [] "are_heads" 2 ["thing", "many"] S_are_heads := ok_are_heads T D_is_whole
  have D_are_eighths : Dn P w K mg base [] "are_eighths" 3 ["thing"] S_are_eighths := ok_are_eighths T D_are_heads
  have D_is_pair : Dn P w K mg base [] "is_pair" 2 ["thing", "classes"] S_is_pair := ok_is_pair T D_is_name D_is_whole
  have D_is_scheme : Dn P w K mg base [] "is_scheme" 4 ["thing"] S_is_scheme := ok_is_scheme T D_are_eighths D_is_pair
  have D_is_part : Dn P w K mg base [] "is_part" 4 ["thing"] S_is_part := ok_is_part T D_is_fraction
  have D_is_sale : Dn P w K mg base [] "is_sale" 5 ["thing"] S_is_sale := ok_is_sale T D_is_part D_is_within
  have D_is_hour : Dn P w K mg base [] "is_hour" 3 ["thing"] S_is_hour := ok_is_hour T D_is_within
  have D_is_hour_pages : Dn P w K mg base [] "is_hour_pages" 3 ["thing"] S_is_hour_pages := ok_is_hour_pages T D_is_within
  have D_is_day : Dn P w K mg base [] "is_day" 3 ["thing"] S_is_day := ok_is_day T D_is_within
  have D_is_muster : Dn P w K mg base [] "is_muster" 4 ["body"] S_is_muster := ok_is_muster T D_is_hour_pages D_is_name
  have D_is_taking : Dn P w K mg base [] "is_taking" 4 ["body"] S_is_taking := ok_is_taking T D_is_hour_pages D_is_name D_is_within
  have D_is_body : Dn P w K mg base [] "is_body" 6 ["number", "body"] S_is_body := ok_is_body T D_is_day D_is_hour_pages D_is_log D_is_muster D_is_name D_is_sale D_is_scheme D_is_taking D_is_within
  have D_is_page : Dn P w K mg base [] "is_page" 7 ["thing"] S_is_page := ok_is_page T D_is_body D_is_day
  have D_are_pages : Dn P w K mg base [] "are_pages" 8 ["thing"] S_are_pages := ok_are_pages T D_is_page
  have D_law_pot_of : Dn P w K mg base [] "_law_pot_of" 1 ["_law_script", "_law_k"] S_law_pot_of := ok_law_pot_of T 
  have D_law_draw : Dn P w K mg base [] "_law_draw" 1 ["_law_pot", "_law_many"] S_law_draw := ok_law_draw T 
  have D_law_whole : Dn P w K mg base [] "_law_whole" 1 ["_law_thing"] S_law_whole := ok_law_whole T 
  have D_law_name : Dn P w K mg base [] "_law_name" 2 ["_law_pot", "_law_last"] S_law_name := ok_law_name T D_law_draw
  have D_law_shuffled : Dn P w K mg base [] "_law_shuffled" 2 ["_law_pot", "_law_some"] S_law_shuffled := ok_law_shuffled T D_law_draw
  have D_law_log : Dn P w K mg base [] "_law_log" 2 ["_law_pot"] S_law_log := ok_law_log T D_law_draw
  have D_law_scheme : Dn P w K mg base [] "_law_scheme" 2 ["_law_pot", "_law_ranks"] S_law_scheme := ok_law_scheme T D_law_draw
  have D_law_sale : Dn P w K mg base [] "_law_sale" 2 ["_law_pot"] S_law_sale := ok_law_sale T D_law_draw
  have D_law_folk : Dn P w K mg base [] "_law_folk" 3 ["_law_pot"] S_law_folk := ok_law_folk T D_law_draw D_law_name
  have D_law_core : Dn P w K mg base [] "_law_core" 3 ["_law_pot", "_law_folk_here"] S_law_core := ok_law_core T D_law_draw D_law_log D_law_sale D_law_scheme
  have D_law_more : Dn P w K mg base [] "_law_more" 3 ["_law_pot", "_law_folk_here", "_law_numbers", "_law_own"] S_law_more := ok_law_more T D_law_draw D_law_log D_law_sale D_law_scheme
  have D_law_book : Dn P w K mg base [] "_law_book" 4 ["_law_pot", "_law_folk_here", "_law_most"] S_law_book := ok_law_book T D_law_core D_law_draw D_law_more D_law_shuffled
  have D_law_spoilt : Dn P w K mg base [] "_law_spoilt" 9 ["_law_pot", "_law_thing", "_law_odds_here", "_law_depth"] S_law_spoilt := ok_law_spoilt T D_law_draw
  have D_law_within : Dn P w K mg base [] "_law_within" 2 ["_law_thing", "_law_least", "_law_most"] S_law_within := ok_law_within T D_law_whole
  have D_law_is_name : Dn P w K mg base [] "_law_is_name" 1 ["_law_thing"] S_law_is_name := ok_law_is_name T 
  have D_law_is_log : Dn P w K mg base [] "_law_is_log" 3 ["_law_thing"] S_law_is_log := ok_law_is_log T D_law_within
  have D_law_is_scheme : Dn P w K mg base [] "_law_is_scheme" 3 ["_law_thing"] S_law_is_scheme := ok_law_is_scheme T D_law_is_name D_law_within
  have D_law_is_part : Dn P w K mg base [] "_law_is_part" 3 ["_law_thing"] S_law_is_part := ok_law_is_part T D_law_within
  have D_law_is_sale : Dn P w K mg base [] "_law_is_sale" 4 ["_law_thing"] S_law_is_sale := ok_law_is_sale T D_law_is_part D_law_within
  have D_law_is_body : Dn P w K mg base [] "_law_is_body" 5 ["_law_number", "_law_body"] S_law_is_body := ok_law_is_body T D_law_is_log D_law_is_name D_law_is_sale D_law_is_scheme D_law_within
  have D_law_is_page : Dn P w K mg base [] "_law_is_page" 6 ["_law_thing"] S_law_is_page := ok_law_is_page T D_law_is_body D_law_within
  have D_law_are_pages : Dn P w K mg base [] "_law_are_pages" 7 ["_law_thing"] S_law_are_pages := ok_law_are_pages T D_law_is_page
  have D_law_odds : Dn P w K mg base [] "_law_odds" 2 ["_law_pot"] S_law_odds := ok_law_odds T D_law_draw
  exact (fg_law T D_law_are_pages D_law_book D_law_draw D_law_folk D_law_is_page D_law_odds D_law_pot_of D_law_spoilt D_are_pages D_is_page Fn).imp law_imp
end K62
open PySem PySem.W PySem.Calls PyProof.Rows
set_option maxHeartbeats 0 in
theorem PySem.Challenge.cw_prizelog_k62_pages_known_holds : PySem.Challenge.rw_prizelog_k62_pages_known.Holds := by
  w_on; o_law
  refine HandSHeadRun.head_any (r := K62.R) (q := view K62.R.prog [71]) (H := K62.hk) (ob := K62.ob) (M := 20000) (loose := K62.loose) (d := HandSHeadRun.topDef K62.R.prog 71) (kwd := []) K62.ob_eq
    (by kernel_rfl) (fun s => by kernel_rfl) K62.run (by kernel_rfl) (by kernel_rfl) (by kernel_rfl) (by rfl) (by first | assumption | decide +kernel) (by decide +kernel) ⟨rfl, rfl, rfl, rfl, rfl, by decide +kernel⟩ ?hw ?hc
  case hw => w_witness2
  case hc =>
    refine DL.walk_dataE (l := PySem.Challenge.rw_prizelog_k62_pages_known) (n := 63) (k := 10) (x := "_law_script") rfl (by decide) (by kernel_rfl) ⟨rfl, by decide, by decide⟩ ?F
    intro w mg fa h Y G hmg0
    obtain ⟨⟨K, KX, c, cx⟩, hsys⟩ := Y
    have hmg : mg ("law" : PySem.Str) = some (.ref fa) := by
      have e : (HandSHeadRun.topDef K62.R.prog 71).name = ("law" : PySem.Str) := by kernel_rfl
      rw [← e]
      exact hmg0
    obtain ⟨fd, hb, hF⟩ := K62.facts (P := (PySem.Challenge.rw_prizelog_k62_pages_known).prog) (w := w) KX G hmg c cx
    exact ⟨K, fd, KX, hsys, hb, hF⟩
