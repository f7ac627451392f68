import PyProof.Rows.All
import Wide.All
import OpenK.AllK
import Wide.FinOn
import HandS.TupAny
import HandS.TupMul
import HandS.Conv
import HandS.Iter
import HandS.Deep
import HandS.ForMost
import HandS.Exc
import HandS.ExcOwn
import HandS.TryOnly
import HandS.WordsExc
import HandS.Wide
import HandS.IsInst
import HandS.Walk
import HandS.Zip
import HandS.Evl
import HandS.ExcIs
import HandS.HeadHook1
import HandS.Head0
import HandS.Head1
import HandS.Head2
import HandS.HeadEnd
import PyProof.ReprBulk
import KE.KTupSum
import HandS.Style
import HandS.Dict
import KE.GoesEnum
import HandS.Flt
import KE.DatumOrd
import PyProof.P3In
import HandS.SetFor
import HandS.Strs
import HandS.More
import HandS.HotCalls
import KE.SortData
import KE.DataAny
import KE.KDictSum
import PySem.Challenge.RW_prizelog_k28_sets_refused
set_option Elab.async false
set_option linter.all false
set_option maxRecDepth 100000
set_option maxHeartbeats 4000000
/-! The data layer, part 0: new tuples whose object is known: it has no dict of its own. -/
namespace DL
open PySem PySem.Spec PyProof.Rows L2
/-- a tuple's object that has no dict -/
def PlT (o : Obj) : Prop := o.cls = .type "tuple" ∧ o.dict = none
section
variable {X : Cx} {pins : List (Addr × Obj)} {σ : L2.St} {H : Hp} {s : Shared}
theorem layZ (I : Inv X pins σ H s) {xs : List V} {its : List Value} {arr : Array Value} {tk : Nat} (r : Vals xs its) (ha : arr = its.toArray) (hz : xs.length ≤ sizeLine) :
    ∃ o, PlT o ∧ Inv X pins σ (upd H s.heap.objs.size (.frz o (.tup xs))) { s with heap := s.heap.push { cls := .type "tuple", data := .seq arr }, toks := tk } := by
  subst ha
  refine ⟨{ cls := .type "tuple", data := .seq its.toArray }, ⟨rfl, rfl⟩, I.laid (fun b u e => Heap.get?_push_of_some _ e) (Nat.le_refl _) ?_⟩
  exact ⟨Heap.get?_push_size _ rfl, hz, its, r, ⟨_, Heap.get?_push_size _ rfl, rfl, _, rfl⟩⟩
/-- what a new tuple of the items xs is answered with -/
def NewZ (H : Hp) (xs : List V) (Q : VK) : Prop := ∀ p o, H p = none → PlT o → Q (.ref p) (upd H p (.frz o (.tup xs)))
theorem endZ (I : Inv X pins σ H s) {xs : List V} {its : List Value} {arr : Array Value} {tk : Nat} {Q : VK} (r : Vals xs its) (ha : arr = its.toArray) (hz : xs.length ≤ sizeLine) (q : NewZ H xs Q) :
    EP X pins σ Q (.ref s.heap.objs.size) { s with heap := s.heap.push { cls := .type "tuple", data := .seq arr }, toks := tk } := by
  obtain ⟨o, po, J⟩ := layZ (tk := tk) I r ha hz
  exact ⟨.ref s.heap.objs.size, _, J, rfl, q _ _ (I.hok.fresh (Nat.le_refl _)) po⟩
end
section
variable {X : Cx} {a b e : Expr} {es : List Expr} {t : TA} {ta : TE} {pos : Pos}
def tTupZ (t : TA) : TE := fun σ H Q => t σ H fun xs H1 => xs.length ≤ sizeLine ∧ NewZ H1 xs Q
theorem pe_tupZ {x1} (h : PA X es t) : PE X (.Tuple es x1 pos) (tTupZ t) := ⟨fun pins s σ H Q I hq => by
  refine wpAny_Tuple_spliced (thn (h.run pos pins s σ H _ I hq) ?_)
  intro us s1 ⟨xs, H1, I1, r, z, q⟩
  exact ⟨r.length ▸ z, endZ (tk := s1.toks) I1 r rfl z q⟩⟩
def rCatZ (K : PySem.W.Frag) : R2 := fun x y H Q => ∃ a b xs ys, x = .ref a ∧ y = .ref b ∧ SqT K H a xs ∧ SqT K H b ys ∧ xs.length + ys.length ≤ sizeLine ∧
  (xs = [] → Q (.ref b) H) ∧ (xs ≠ [] → ys = [] → Q (.ref a) H) ∧ (xs ≠ [] → ys ≠ [] → NewZ H (xs ++ ys) Q)
theorem op_catZ : OpR X (binaryOp .Add) (rCatZ X.K) := by
  rintro pins s σ H _ _ v u Q I rx ry ⟨l, m, xs, ys, rfl, rfl, hl, hm, hz, q0, q1, q2⟩
  cases rx
  cases ry
  obtain ⟨us, r1, p1, _⟩ := I.tuple hl
  obtain ⟨ws, r2, p2, _⟩ := I.tuple hm
  by_cases hx : xs = []
  · subst hx
    cases r1
    exact cat_tup0 p1 p2 ⟨.ref m, H, I, rfl, q0 rfl⟩
  · refine HT.cat_tup p1 p2 (mt r1.nil_iff.mp hx) (fun z => ⟨.ref l, H, I, rfl, q1 hx (r2.nil_iff.mp z)⟩) (fun z => ?_) (by rw [← r1.length, ← r2.length]; exact hz)
    exact endZ (tk := s.toks) I (r1.append r2) rfl (by simpa using hz) (q2 hx (mt r2.nil_iff.mpr z))
def rSlZ (K : PySem.W.Frag) : V → Option Int → Option Int → Hp → VK → Prop := fun x lo hi H Q => ∃ a xs, x = .ref a ∧ SqT K H a xs ∧
  (HT.sIx xs.length 0 lo = 0 ∧ HT.sIx xs.length xs.length hi = xs.length → Q (.ref a) H) ∧ (¬ (HT.sIx xs.length 0 lo = 0 ∧ HT.sIx xs.length xs.length hi = xs.length) → NewZ H (cutV xs lo hi) Q)
theorem sl_tupZ : SlR X (rSlZ X.K) := by
  rintro pins s σ H _ v vl vu lo hi sl Q I rx hs pl pu ⟨l, xs, rfl, hl, q1, q2⟩
  cases rx
  obtain ⟨us, r, ht, hz⟩ := I.tuple hl
  have hn : us.toArray.size = xs.length := by rw [List.size_toArray, ← r.length]
  refine ⟨"tuple", _, PyProof.Rows.slot_tuple_getitem.lookup, ht.typeIs, ?_⟩
  by_cases hw : HT.sIx xs.length 0 lo = 0 ∧ HT.sIx xs.length xs.length hi = xs.length
  · exact getItem_tuple_whole ht hs pl pu (hn ▸ hw) ⟨.ref l, H, I, rfl, q1 hw⟩
  · refine HT.getItem_tuple_cut ht hs pl pu (hn ▸ hw) ?_ (hn ▸ hz)
    rw [hn]
    exact endZ (tk := s.toks) I ((r.drop _).take _) rfl (Nat.le_trans (cutV_length xs lo hi) hz) (q2 hw)
/-- tuple(..) of a list or a tuple -/
def kTupZ (K : PySem.W.Frag) (x : V) (H : Hp) (Q : VK) : Prop := (∃ p xs, x = .ref p ∧ SqL K H p xs ∧ NewZ H xs Q) ∨ (∃ p xs, x = .ref p ∧ SqT K H p xs ∧ Q (.ref p) H)
theorem rl_tupleZ (pins : List (Addr × Obj)) (s : Shared) (σ : L2.St) (H : Hp) (x : V) (v : Value) (Q : VK) (I : Inv X pins σ H s) (r : RelV x v) (h : kTupZ X.K x H Q) :
    wpAny (model X.prog X.w) X.A (call (.type "tuple") [v]) (EP X pins σ Q) X.xe s := by
  rcases h with ⟨l, xs, rfl, hs, q⟩ | ⟨l, xs, rfl, hs, q⟩
  · cases r
    obtain ⟨us, rv, pl, hz⟩ := I.list hs
    refine call_tuple_list pl.isList (fun h' hk => ?_) (by rw [List.size_toArray, ← rv.length]; exact hz)
    exact endZ (tk := s.toks) (s := { s with heap := h' }) (I.kept (t' := s.toks) hk) rv rfl hz q
  · cases r
    obtain ⟨us, rv, pl, hz⟩ := I.tuple hs
    exact call_tuple_tup pl ⟨.ref l, H, I, rfl, q⟩
theorem pe_tupleZ {p : Pos} (hg : Gl X "tuple") (hm : X.mg "tuple" = none) (ha : PE X a ta) (na : starEach [a] X.env = (false, eval a X.env) :: starEach [] X.env := by rfl) :
    PE X (.Call (.Name "tuple" p) [a] [] pos) (tThen ta (kTupZ X.K)) := ⟨fun pins s σ H Q I h =>
  Call_ (ld_blt I hg hm boot_tuple (PyProof.Rows.callWith_type1 (one_arg ha I h (fun v s2 x H2 I2 r q => rl_tupleZ pins s2 σ H2 x v Q I2 r q) na) na))⟩
def tTupRgZ (te : L2.St → Hp → (Int → Int → Hp → Prop) → Prop) : TE := fun σ H Q => te σ H fun a b H1 => RgOk a b ∧ NewZ H1 (rgV a b) Q
theorem pe_tupRgZ {te : L2.St → Hp → (Int → Int → Hp → Prop) → Prop} {p : Pos} (hc : X.calm = true) (hg : Gl X "tuple") (hm : X.mg "tuple" = none) (he : PRg X e te) (na : starEach [e] X.env = (false, eval e X.env) :: starEach [] X.env := by rfl) :
    PE X (.Call (.Name "tuple" p) [e] [] pos) (tTupRgZ te) := ⟨fun pins s σ H Q I h => by
  refine Call_ (ld_blt I hg hm boot_tuple (PyProof.Rows.callWith_type1 (args_cons (thn (he pins s σ H _ I h) ?_) na) na))
  rintro x s1 ⟨r, a, b, t, u, v, H1, rfl, hr, I1, ⟨b1, b2, b3, b4, b5⟩, q⟩
  refine args_nil (call_tuple_range (n := (b - a).toNat) (I1.ok.hd hc) hr (small_one b1 b2 b3 b4) (rangeSize_nat a b) b5 ?_)
  intro h' tk acc hk hi
  exact endZ (tk := tk) (s := { s1 with heap := h', toks := tk }) (I1.kept hk) (vals_rg hi) (by simp) (by rw [rgV_length, sizeLine_eq]; omega) q⟩
/-- xs * k, k from 2 on -/
def rRepZ (K : PySem.W.Frag) : R2 := fun x y H Q => ∃ l k xs, x = .ref l ∧ y = .int k ∧ SqT K H l xs ∧ xs ≠ [] ∧ 2 ≤ k ∧ k ≤ 1000 ∧ xs.length ≤ 1000 ∧ NewZ H (List.replicate k.toNat xs).flatten Q
theorem op_repZ : OpR X (binaryOp .Mult) (rRepZ X.K) := by
  rintro pins s σ H _ _ v u Q I rx ry ⟨l, k, xs, rfl, rfl, hT, hne, h1, h2, hz, q⟩
  cases rx
  obtain ⟨t, rfl⟩ := ry
  obtain ⟨us, r, ⟨⟨cls, dd, data, sl⟩, ho, hc, n, hd⟩, _⟩ := I.tuple hT
  simp only at hc hd
  subst hc hd
  have hl : us.toArray.size = xs.length := by rw [List.size_toArray, ← r.length]
  have e0 : us.toArray.isEmpty = false := by
    cases us with
    | nil => exact absurd (r.nil_iff.mp rfl) hne
    | cons _ _ => rfl
  have big : k.toNat * xs.length ≤ 1000 * 1000 := Nat.mul_le_mul (by omega) hz
  have bigI : ((us.toArray.size : Nat) : Int) * k ≤ 1000000 := by
    have z : ((xs.length * k.toNat : Nat) : Int) ≤ 1000000 := by rw [Nat.mul_comm]; omega
    rw [hl]
    rw [Int.natCast_mul, Int.toNat_of_nonneg (by omega)] at z
    exact z
  have fl : (List.replicate k.toNat us).flatten.length ≤ sizeLine := by
    rw [PyProof.Rows.lm_len_rep_flat, ← r.length, sizeLine_eq]
    omega
  have c0 : (decide (k < -(2 ^ 63)) || decide (k ≥ 2 ^ 63)) = false := by
    rw [Bool.or_eq_false_iff]
    exact ⟨decide_eq_false (by omega), decide_eq_false (by omega)⟩
  have c1 : (us.toArray.isEmpty || k == 1) = false := by rw [e0, Bool.false_or, beq_eq_false_iff_ne]; omega
  have c2 : (decide (k ≤ 0) || us.toArray.isEmpty) = false := by rw [e0, Bool.or_false]; exact decide_eq_false (by omega)
  have c4 : Builtin.Tuple.tupleTooMany (((us.toArray.size : Nat) : Int) * k) = false := decide_eq_false (by rw [sizeLine_eq]; omega)
  refine wpAny_binaryOp_repeat_ref (T := "tuple") (U := "int") (by decide) ⟨_, ho, rfl⟩ (fun _ => typeIs_int _ k t) noFill_tuple_mul F.fills_int_mul F.slot_int_rmul repeat_tuple F.slot_int_index.lookup ?_
  refine call_meets F.slot_int_rmul (typeIs_int s k t) F.entry_int_rmul (F.args_int_rmul_2 _ _) (int_rmul_tuple k t l us.toArray n dd sl) ⟨ho, rfl, ⟨_, ho, rfl⟩, ?_⟩
  refine call_meets F.slot_tuple_mul ⟨_, ho, rfl⟩ F.entry_tuple_mul (F.args_tuple_mul_2 _ _) (tuple_mulW l us.toArray n dd sl k t c0 c1 c2 (by omega) c4 ?_) ⟨ho, ?_⟩
  · rw [size_rep, List.size_toArray]
    exact fl
  · rw [size_rep]
    exact endZ (tk := s.toks) I (r.rep k.toNat) rfl (by rw [PyProof.Rows.lm_len_rep_flat, sizeLine_eq]; omega) q
end
/-- a dict whose keys are tuples of whole numbers and texts: the keys, where they stand, the values -/
abbrev DicE (P : Program) (w : World) (a : Addr) (xs : List (List Key × Addr × Value)) : HO := .ext fun h => ((a == sysModules) = false ∧ xs.length ≤ sizeLine) ∧
  ∃ o es ep, h.get? a = some o ∧ o.ExactDict ∧ o.data = .dict es ep ∧ es.toList = xs.map (entryOfKey (tupleKind (mixKind P w))) ∧ (xs.map (·.1)).Nodup
end DL

/-! The data layer: programs read as functions of plain data. A name holds nothing, a datum, or a list cell of its own. -/
namespace DL
open PySem PySem.Spec PyProof.Rows L2
open Evl (Ex)

/-- a list that stays as it is: tracked, known, or written at the top -/
def RdL (K : PySem.W.Frag) (F : Hp) (a : Addr) (xs : List V) : Prop :=
  Rd F a (.lst xs) ∨ ∃ (its : List Value) (n : Nat), K.lookup a = some { cls := .type "list", data := .seq its.toArray n } ∧ Vals xs its ∧ its.length ≤ sizeLine
theorem RdL.mono {K : PySem.W.Frag} {F F' : Hp} {a : Addr} {xs : List V} (e : Ex F F') (h : RdL K F a xs) : RdL K F' a xs := h.imp (Evl.ex_rd e) id
theorem RdL.of {K : PySem.W.Frag} {F : Hp} {a : Addr} {xs : List V} (h : F a = some (.lst xs)) : RdL K F a xs := .inl (.inl h)
theorem RdL.sq {K : PySem.W.Frag} {F : Hp} {a : Addr} {xs : List V} (h : RdL K F a xs) : SqL K F a xs := by
  rcases h with h | ⟨its, n, h1, h2, h3⟩
  · exact .inl h
  · exact .inr ⟨_, its.toArray, n, h1, rfl, rfl, rfl, by simpa using h3, by simpa using h2⟩
theorem RdL.obj {X : Cx} {pins : List (Addr × Obj)} {σ : L2.St} {H : Hp} {s : Shared} {a : Addr} {xs : List V} (h : RdL X.K H a xs) (I : Inv X pins σ H s) : xs.length ≤ sizeLine ∧ ∃ (its : List Value) (n : Nat), Vals xs its ∧ s.heap.get? a = some { cls := .type "list", data := .seq its.toArray n } := by
  rcases h with h | ⟨its, n, h1, h2, h3⟩
  · exact h.ok I.hok
  · exact ⟨by rw [h2.length]; exact h3, its, n, h2, I.kIn a _ h1⟩
/-- the classes of refusals -/
def exNames : List Str := "PrizeError" :: "NoWeights" :: "NoPart" :: "NoNumber" :: "NoLog" :: "NoChase" :: "NoMiles" :: "NoLogs" :: "NoTable" :: "NoSights" :: "NoSet" :: "NoRoll" :: "NoName" :: "NoHour" :: "NoScheme" :: "NoCrew" :: "NoMan" :: "NoSale" :: "NoCrews" :: "NoPages" :: "NoPage" :: "NoPrize" :: "NoBalances" :: "NoMoney" :: "NoChange" :: "TooMany" :: "NoText" :: "NoRow" :: []
def exBases : List Value := [.type "ValueError", .type "Exception", .type "BaseException", .type "object"]
def exTypes : List String := ["int", "bool", "str", "tuple", "dict"]
/-- whether the one is the other or of it -/
def exSub (c d : Str) : Bool := decide (c = d) || decide (d = "PrizeError")
/-- what a class of refusals must say -/
def xcB (K : PySem.W.Frag) (c : Str) : Bool :=
  decide (PySem.W.findIn K (.ref (He.ga K c)) "__getattribute__" = some (some (.builtin "BaseException.__getattribute__"))) &&
  (decide (PySem.W.findIn K (.ref (He.ga K c)) "__getattr__" = some none) &&
  (decide (PySem.W.subIn K (.ref (He.ga K c)) (.type "BaseException") = some true) &&
  (PySem.W.hasDictIn K (He.ga K c) &&
  (decide (PySem.W.findIn K (.ref (He.ga K c)) "__class__" = some (some (.builtin "object.__class__"))) &&
  (decide (PySem.W.specialIn K (.builtin "object.__class__") "__get__" = some (some (.builtin "getset_descriptor.__get__"))) &&
  (decide (PySem.W.takesIn K (.builtin "object.__class__") = some true) &&
  (decide (PySem.W.mroIn K (He.ga K c) (.type "object") = some true) &&
  (PySem.W.excIn K (He.ga K c) exBases "ValueError.__new__" &&
  (PySem.W.keepIn K (.ref (He.ga K c)) &&
  (decide (PySem.W.typeIn K (.ref (He.ga K c)) = some (.type "type")) &&
  (decide (PySem.W.exmOne K (.ref (He.ga K c)) (.ref (He.ga K "PrizeError")) = some true) &&
  (decide (PySem.W.kitOne K (.ref (He.ga K c)) (.type "ValueError") = some true) &&
  (exTypes.all (fun T => decide (PySem.W.kitOne K (.ref (He.ga K c)) (.type T) = some false)) &&
  exNames.all (fun d => decide (PySem.W.kitOne K (.ref (He.ga K c)) (.ref (He.ga K d)) = some (exSub c d))))))))))))))))
structure XcF (K : PySem.W.Frag) (c : Str) : Prop where
  cls : ExcC K (He.ga K c)
  made : PySem.W.excIn K (He.ga K c) exBases "ValueError.__new__" = true
  kp : PySem.W.keepIn K (.ref (He.ga K c)) = true
  ty : PySem.W.typeIn K (.ref (He.ga K c)) = some (.type "type")
  exm : PySem.W.exmOne K (.ref (He.ga K c)) (.ref (He.ga K "PrizeError")) = some true
  ve : PySem.W.kitOne K (.ref (He.ga K c)) (.type "ValueError") = some true
  six : ∀ T ∈ exTypes, PySem.W.kitOne K (.ref (He.ga K c)) (.type T) = some false
  own : ∀ d ∈ exNames, PySem.W.kitOne K (.ref (He.ga K c)) (.ref (He.ga K d)) = some (exSub c d)
theorem xcB_ok {K : PySem.W.Frag} {c : Str} (h : xcB K c = true) : XcF K c := by
  unfold xcB at h
  simp only [Bool.and_eq_true, decide_eq_true_eq, List.all_eq_true] at h
  obtain ⟨a1, a2, a3, a4, a5, a6, a7, a8, a9, b1, b2, b3, b4, b5, b6⟩ := h
  exact ⟨⟨a1, a2, a3, a4, a5, a6, a7, a8⟩, a9, b1, b2, b3, b4, b5, b6⟩
/-- an exception's object -/
def ExcAt (C a : Addr) : Heap → Prop := fun h => ∃ oe vs, h.get? a = some oe ∧ oe.cls = .ref C ∧ oe.dict = none ∧ oe.data = .fields vs
/-- a tuple that stays, whose object has no dict -/
def TqT (K : PySem.W.Frag) (F : Hp) (a : Addr) (xs : List V) : Prop := (∃ o, F a = some (.frz o (.tup xs)) ∧ PlT o) ∨
  ∃ (o : Obj) (its : Array Value) (n : Nat), K.lookup a = some o ∧ PlT o ∧ o.data = .seq its n ∧ its.size ≤ sizeLine ∧ Vals xs its.toList
theorem TqT.sq {K : PySem.W.Frag} {F : Hp} {a : Addr} {xs : List V} (h : TqT K F a xs) : SqT K F a xs := by
  rcases h with ⟨o, h, _⟩ | ⟨o, its, n, h1, h2, h3, h4, h5⟩
  · exact .inl (.inr ⟨o, h⟩)
  · exact .inr ⟨o, its, n, h1, h2.1, h3, h4, h5⟩
theorem TqT.mono {K : PySem.W.Frag} {F F' : Hp} {a : Addr} {xs : List V} (e : Ex F F') (h : TqT K F a xs) : TqT K F' a xs := h.imp (fun ⟨o, h, p⟩ => ⟨o, e _ _ h, p⟩) id
mutual
inductive DR (K : PySem.W.Frag) (F : Hp) : V → PyData → Prop
  | non : DR K F .non .none
  | bl (b : Bool) : DR K F (.bl b) (.bool b)
  | int (i : Int) : DR K F (.int i) (.int i)
  | str (x : Str) : DR K F (.str x) (.str x)
  | lst {a : Addr} {xs : List V} {ds : List PyData} : RdL K F a xs → DRs K F xs ds → DR K F (.ref a) (.list ds)
  | tup {a : Addr} {xs : List V} {ds : List PyData} : TqT K F a xs → DRs K F xs ds → DR K F (.ref a) (.tuple ds)
  | dct {a : Addr} : F a = some (.dK []) → DR K F (.ref a) (.dict [])
  /-- a list that a def made and may still change -/
  | row {a : Addr} {xs : List V} {ds : List PyData} : F a = some (.lst xs) → DRs K F xs ds → DR K F (.ref a) (.dict [(.none, .list ds)])
  /-- a caught refusal of the class c -/
  | exc {a : Addr} {c : Str} : F a = some (.ext (ExcAt (He.ga K c) a)) → XcF K c → DR K F (.ref a) (.dict [(.none, .str c)])
inductive DRs (K : PySem.W.Frag) (F : Hp) : List V → List PyData → Prop
  | nil : DRs K F [] []
  | cons {v : V} {vs : List V} {d : PyData} {ds : List PyData} : DR K F v d → DRs K F vs ds → DRs K F (v :: vs) (d :: ds)
end

section
variable {K : PySem.W.Frag} {F F' H H' : Hp}
mutual
theorem DR.mono (e : Ex F F') : ∀ {v : V} {d : PyData}, DR K F v d → DR K F' v d
  | _, _, .non => .non
  | _, _, .bl b => .bl b
  | _, _, .int i => .int i
  | _, _, .str x => .str x
  | _, _, .lst h r => .lst (h.mono e) (DRs.mono e r)
  | _, _, .tup h r => .tup (h.mono e) (DRs.mono e r)
  | _, _, .dct h => .dct (e _ _ h)
  | _, _, .row h r => .row (e _ _ h) (DRs.mono e r)
  | _, _, .exc h x => .exc (e _ _ h) x
theorem DRs.mono (e : Ex F F') : ∀ {v : List V} {d : List PyData}, DRs K F v d → DRs K F' v d
  | _, _, .nil => .nil
  | _, _, .cons a b => .cons (DR.mono e a) (DRs.mono e b)
end
theorem DRs.length : ∀ {vs : List V} {ds : List PyData}, DRs K F vs ds → vs.length = ds.length
  | _, _, .nil => rfl
  | _, _, .cons _ b => congrArg (· + 1) b.length
theorem DRs.get : ∀ {vs : List V} {ds : List PyData} {i : Nat} {d : PyData}, DRs K F vs ds → ds[i]? = some d → ∃ v, vs[i]? = some v ∧ DR K F v d
  | _, _, _, _, .nil, h => by simp at h
  | _, _, 0, _, .cons a b, h => by simp at h; subst h; exact ⟨_, rfl, a⟩
  | _, _, i + 1, d, .cons a b, h => by
    obtain ⟨v, h1, h2⟩ := b.get (i := i) (d := d) (by simpa using h)
    exact ⟨v, by simpa using h1, h2⟩
theorem DRs.append : ∀ {vs ws : List V} {ds es : List PyData}, DRs K F vs ds → DRs K F ws es → DRs K F (vs ++ ws) (ds ++ es)
  | _, _, _, _, .nil, h => h
  | _, _, _, _, .cons a b, h => .cons a (b.append h)
theorem DRs.take : ∀ {vs : List V} {ds : List PyData} (n : Nat), DRs K F vs ds → DRs K F (vs.take n) (ds.take n)
  | _, _, 0, _ => .nil
  | _, _, _ + 1, .nil => .nil
  | _, _, n + 1, .cons a b => .cons a (b.take n)
theorem DRs.drop : ∀ {vs : List V} {ds : List PyData} (n : Nat), DRs K F vs ds → DRs K F (vs.drop n) (ds.drop n)
  | _, _, 0, h => h
  | _, _, _ + 1, .nil => .nil
  | _, _, n + 1, .cons a b => b.drop n
theorem DRs.set : ∀ {vs : List V} {ds : List PyData} (n : Nat) {v : V} {d : PyData}, DR K F v d → DRs K F vs ds → DRs K F (vs.set n v) (ds.set n d)
  | _, _, _, _, _, _, .nil => .nil
  | _, _, 0, _, _, h, .cons a b => .cons h b
  | _, _, n + 1, _, _, h, .cons a b => .cons a (b.set n h)
theorem DRs.one {v : V} {d : PyData} (h : DR K F v d) : DRs K F [v] [d] := .cons h .nil
theorem DRs.inv_nil {vs : List V} (h : DRs K F vs []) : vs = [] := by cases h; rfl
theorem DRs.inv1 {vs : List V} {d : PyData} (h : DRs K F vs [d]) : ∃ v, vs = [v] ∧ DR K F v d := by
  cases h with
  | cons a b => cases b; exact ⟨_, rfl, a⟩
theorem DRs.inv2 {vs : List V} {d e : PyData} (h : DRs K F vs [d, e]) : ∃ v w, vs = [v, w] ∧ DR K F v d ∧ DR K F w e := by
  cases h with
  | cons a b =>
    obtain ⟨w, rfl, r⟩ := b.inv1
    exact ⟨_, w, rfl, a, r⟩
theorem DR.inv_int {v : V} {i : Int} (h : DR K F v (.int i)) : v = .int i := by cases h; rfl
theorem DR.inv_bool {v : V} {i : Bool} (h : DR K F v (.bool i)) : v = .bl i := by cases h; rfl
theorem DR.inv_str {v : V} {i : Str} (h : DR K F v (.str i)) : v = .str i := by cases h; rfl
theorem DR.inv_none {v : V} (h : DR K F v .none) : v = .non := by cases h; rfl
theorem DR.inv_tupZ {v : V} {ds : List PyData} (h : DR K F v (.tuple ds)) : ∃ a xs, v = .ref a ∧ TqT K F a xs ∧ DRs K F xs ds := by cases h with | tup a b => exact ⟨_, _, rfl, a, b⟩
theorem DR.inv_tup {v : V} {ds : List PyData} (h : DR K F v (.tuple ds)) : ∃ a xs, v = .ref a ∧ SqT K F a xs ∧ DRs K F xs ds := by cases h with | tup a b => exact ⟨_, _, rfl, a.sq, b⟩
theorem DR.inv_lst {v : V} {ds : List PyData} (h : DR K F v (.list ds)) : ∃ a xs, v = .ref a ∧ RdL K F a xs ∧ DRs K F xs ds := by cases h with | lst a b => exact ⟨_, _, rfl, a, b⟩
end

/-! ### what a name holds -/
inductive SD where
  | un
  | dat (d : PyData)
  | cel (p : Bool) (xs : List PyData)
  /-- a dict of one's own, its keys tuples of whole numbers and texts -/
  | dic (kvs : List (List Key × PyData))

/-- what is fixed for a def's whole run -/
structure Zx where
  F0 : Hp
  H0 : Hp
  A0 : Nat → Option Addr
  Pr0 : Hp
  P : Program
  w : World
structure Gx (Z : Zx) where
  Pr : Hp
  px : Ex Z.Pr0 Pr
variable {Z : Zx}
def Gx.hid (g : Gx Z) (D : Addr) (vs : List V) (h : g.Pr D = none) : Gx Z := ⟨upd g.Pr D (.lst vs), fun a o e => by
  have q := g.px a o e
  have ne : a ≠ D := fun z => by rw [z, h] at q; cases q
  rw [upd_ne ne]
  exact q⟩
abbrev Gx.F0 (_ : Gx Z) : Hp := Z.F0
abbrev Gx.H0 (_ : Gx Z) : Hp := Z.H0
abbrev Gx.A0 (_ : Gx Z) : Nat → Option Addr := Z.A0

/-- the dict's keys and values as they stand -/
def DicR (K : PySem.W.Frag) (F : Hp) (kvs : List (List Key × PyData)) (xs : List (List Key × Addr × Value)) : Prop :=
  Paired (fun p x => p.1 = x.1 ∧ TqT K F x.2.1 (p.1.map kV) ∧ ∃ v, DR K F v p.2 ∧ RelV v x.2.2) kvs xs
theorem DicR.mono {K : PySem.W.Frag} {F F' : Hp} (e : Ex F F') {kvs : List (List Key × PyData)} {xs : List (List Key × Addr × Value)} (h : DicR K F kvs xs) : DicR K F' kvs xs :=
  Paired.mapP h fun _ _ ⟨h1, h2, v, h3, h4⟩ => ⟨h1, h2.mono e, v, h3.mono e, h4⟩
def DicsOk (K : PySem.W.Frag) (g : Gx Z) (F : Hp) (env : List SD) (σ : L2.St) (H : Hp) : Prop := ∀ (i : Nat) (kvs : List (List Key × PyData)), env[i]? = some (.dic kvs) →
  ∃ a xs, σ[i]? = some (some (.ref a)) ∧ F a = none ∧ H a = some (DicE Z.P Z.w a xs) ∧ DicR K F kvs xs ∧ g.H0 a = none ∧ g.Pr a = none ∧ ∀ j ys, env[j]? = some (.dic ys) → σ[j]? = some (some (.ref a)) → j = i
section
variable {K : PySem.W.Frag} {g g' : Gx Z} {F F' : Hp} {env : List SD} {σ : L2.St} {H H' : Hp}
theorem DicsOk.keep (d : DicsOk K g F env σ H) (e : Ex F F') (hp : ∀ a xs, H a = some (DicE Z.P Z.w a xs) → g.Pr a = none → g'.Pr a = none) (hk : ∀ a xs, H a = some (DicE Z.P Z.w a xs) → F a = none → F' a = none ∧ H' a = H a) : DicsOk K g' F' env σ H' := fun i kvs h => by
  obtain ⟨a, xs, h1, h2, h3, h4, h5, h6, h7⟩ := d i kvs h
  obtain ⟨z1, z2⟩ := hk a xs h3 h2
  exact ⟨a, xs, h1, z1, z2.trans h3, h4.mono e, h5, hp a xs h3 h6, h7⟩
theorem DicsOk.setE (d : DicsOk K g F env σ H) {i : Nat} {x : SD} (hx : ∀ kvs, x ≠ .dic kvs) : DicsOk K g F (env.set i x) σ H := fun j kvs h => by
  have old : ∀ {j : Nat} {kvs : List (List Key × PyData)}, (env.set i x)[j]? = some (.dic kvs) → env[j]? = some (.dic kvs) := fun {j kvs} h => by
    rw [List.getElem?_set] at h
    by_cases e : i = j
    · rw [if_pos e] at h
      split at h
      · exact absurd (Option.some.inj h) (hx kvs)
      · cases h
    · rwa [if_neg e] at h
  obtain ⟨a, xs, h1, h2, h3, h4, h5, h6, h7⟩ := d j kvs (old h)
  exact ⟨a, xs, h1, h2, h3, h4, h5, h6, fun l ys e => h7 l ys (old e)⟩
theorem DicsOk.set (d : DicsOk K g F env σ H) {i : Nat} {x : SD} {v : Option V} (hx : ∀ kvs, x ≠ .dic kvs) : DicsOk K g F (env.set i x) (σ.set i v) H := fun j kvs h => by
  have ne : ∀ {j : Nat} {kvs : List (List Key × PyData)}, (env.set i x)[j]? = some (.dic kvs) → i ≠ j := fun {j kvs} h e => by
    rw [List.getElem?_set, if_pos e] at h
    split at h
    · exact absurd (Option.some.inj h) (hx kvs)
    · cases h
  have st : ∀ {j : Nat}, i ≠ j → (σ.set i v)[j]? = σ[j]? := fun n => List.getElem?_set_ne n
  obtain ⟨a, xs, h1, h2, h3, h4, h5, h6, h7⟩ := d.setE hx j kvs h
  exact ⟨a, xs, by rw [st (ne h)]; exact h1, h2, h3, h4, h5, h6, fun l ys e z => h7 l ys e (by rw [← st (ne e)]; exact z)⟩
end
structure Ok (K : PySem.W.Frag) (g : Gx Z) (F : Hp) (env : List SD) (σ : L2.St) (H : Hp) : Prop where
  len : env.length = σ.length
  fh : Ex F H
  dat : ∀ (i : Nat) (d : PyData), env[i]? = some (.dat d) → ∃ v, σ[i]? = some (some v) ∧ DR K F v d
  cel : ∀ (i : Nat) (p : Bool) (xs : List PyData), env[i]? = some (.cel p xs) → ∃ a vs, σ[i]? = some (some (.ref a)) ∧ F a = none ∧ H a = some (.lst vs) ∧ DRs K F vs xs ∧ (p = true → g.A0 i = some a) ∧ (p = false → g.H0 a = none)
  sep : ∀ (i j : Nat) (p q : Bool) (xs ys : List PyData) (a : Addr), env[i]? = some (.cel p xs) → env[j]? = some (.cel q ys) → σ[i]? = some (some (.ref a)) → σ[j]? = some (some (.ref a)) → i = j
  pin : ∀ (i : Nat) (a : Addr), g.A0 i = some a → ∃ xs, env[i]? = some (.cel true xs)
  frame : ∀ (a : Addr) (o : HO), g.H0 a = some o → (∀ i, g.A0 i ≠ some a) → H a = some o
  newF : ∀ (a : Addr) (o : HO), F a = some o → g.F0 a = some o ∨ g.H0 a = none
  oldF : Ex g.F0 F
  prot : ∀ (a : Addr) (o : HO), g.Pr a = some o → H a = some o ∧ F a = none ∧ ∀ (j : Nat) (p : Bool) (ys : List PyData), env[j]? = some (.cel p ys) → σ[j]? ≠ some (some (.ref a))
  dic : DicsOk K g F env σ H

section
variable {K : PySem.W.Frag} {g : Gx Z} {F F' : Hp} {env : List SD} {σ : L2.St} {H : Hp}

theorem Ok.fresh0 (k : Ok K g F env σ H) {p : Addr} (h : H p = none) : g.H0 p = none := by
  cases e : g.H0 p with
  | none => rfl
  | some o =>
    by_cases q : ∃ i, g.A0 i = some p
    · obtain ⟨i, hi⟩ := q
      obtain ⟨xs, hx⟩ := k.pin i p hi
      obtain ⟨a, vs, _, _, h2, _, h3, _⟩ := k.cel i true xs hx
      have h3 := h3 rfl
      rw [hi] at h3
      cases h3
      rw [h] at h2
      cases h2
    · have z := k.frame p o e fun i hi => q ⟨i, hi⟩
      rw [h] at z
      cases z
theorem fnone (e : Ex F H) {p : Addr} (h : H p = none) : F p = none := by
  cases q : F p with
  | none => rfl
  | some o =>
    rw [e p o q] at h
    cases h
theorem ex_both (e : Ex F H) {p : Addr} {o : HO} (h : H p = none) : Ex (upd F p o) (upd H p o) := fun b u q => by
  by_cases hb : b = p
  · subst hb
    rw [upd_same] at q ⊢
    exact q
  · rw [upd_ne hb] at q ⊢
    exact e b u q
/-- a new thing that never changes -/
theorem Ok.alloc (k : Ok K g F env σ H) {p : Addr} {o : HO} (h : H p = none) : Ok K g (upd F p o) env σ (upd H p o) where
  len := k.len
  fh := ex_both k.fh h
  dat := fun i d e => by
    obtain ⟨v, h1, h2⟩ := k.dat i d e
    exact ⟨v, h1, h2.mono (Ex.new (fnone k.fh h))⟩
  cel := fun i q xs e => by
    obtain ⟨a, vs, h1, h2, h3, h4, h5⟩ := k.cel i q xs e
    have ne : a ≠ p := ne_of_none h3 h
    exact ⟨a, vs, h1, by rw [upd_ne ne]; exact h2, by rw [upd_ne ne]; exact h3, h4.mono (Ex.new (fnone k.fh h)), h5⟩
  sep := k.sep
  pin := k.pin
  frame := fun a u e n => by
    have q := k.frame a u e n
    rw [upd_ne (ne_of_none q h)]
    exact q
  newF := fun a u e => by
    by_cases hb : a = p
    · subst hb
      exact .inr (k.fresh0 h)
    · rw [upd_ne hb] at e
      exact k.newF a u e
  oldF := fun a u e => (Ex.new (fnone k.fh h)) a u (k.oldF a u e)
  prot := fun a u e => by
    obtain ⟨z1, z2, z3⟩ := k.prot a u e
    have ne : a ≠ p := ne_of_none z1 h
    exact ⟨by rw [upd_ne ne]; exact z1, by rw [upd_ne ne]; exact z2, z3⟩
  dic := k.dic.keep (Ex.new (fnone k.fh h)) (fun _ _ _ z => z) fun a xs h1 h2 => by
    have ne : a ≠ p := ne_of_none h1 h
    exact ⟨by rw [upd_ne ne]; exact h2, upd_ne ne⟩
/-- a new thing of no name yet -/
theorem Ok.extra (k : Ok K g F env σ H) {p : Addr} {o : HO} (h : H p = none) : Ok K g F env σ (upd H p o) where
  len := k.len
  fh := fun a u e => by
    have q := k.fh a u e
    rw [upd_ne (ne_of_none q h)]
    exact q
  dat := k.dat
  cel := fun i q xs e => by
    obtain ⟨a, vs, h1, h2, h3, h4, h5⟩ := k.cel i q xs e
    have ne : a ≠ p := ne_of_none h3 h
    exact ⟨a, vs, h1, h2, by rw [upd_ne ne]; exact h3, h4, h5⟩
  sep := k.sep
  pin := k.pin
  frame := fun a u e n => by
    have q := k.frame a u e n
    rw [upd_ne (ne_of_none q h)]
    exact q
  newF := k.newF
  oldF := k.oldF
  prot := fun a u e => by
    obtain ⟨z1, z2, z3⟩ := k.prot a u e
    have ne : a ≠ p := ne_of_none z1 h
    exact ⟨by rw [upd_ne ne]; exact z1, z2, z3⟩
  dic := k.dic.keep (Ex.refl F) (fun _ _ _ z => z) fun a xs h1 h2 => ⟨h2, upd_ne (ne_of_none h1 h)⟩
theorem get_set {α : Type} {l : List α} {i j : Nat} {x y : α} (h : (l.set i x)[j]? = some y) : (i = j ∧ y = x) ∨ (i ≠ j ∧ l[j]? = some y) := by
  rw [List.getElem?_set] at h
  by_cases e : i = j
  · rw [if_pos e] at h
    split at h
    · exact .inl ⟨e, (Option.some.inj h).symm⟩
    · cases h
  · rw [if_neg e] at h
    exact .inr ⟨e, h⟩
theorem set_ne {α : Type} {l : List α} {i j : Nat} {x : α} (h : i ≠ j) : (l.set i x)[j]? = l[j]? := List.getElem?_set_ne h
theorem set_eq {α : Type} {l : List α} {i : Nat} {x y : α} (h : l[i]? = some y) : (l.set i x)[i]? = some x := by
  obtain ⟨h1, _⟩ := List.getElem?_eq_some_iff.mp h
  exact List.getElem?_set_self h1
/-- a slot that is no parameter's cell -/
def NoPar (env : List SD) (i : Nat) : Prop := ∀ xs, env[i]? ≠ some (.cel true xs)
/-- a name gets a datum -/
theorem Ok.setD (k : Ok K g F env σ H) {i : Nat} {d : PyData} {v : V} (hp : NoPar env i) (h : DR K F v d) : Ok K g F (env.set i (.dat d)) (σ.set i (some v)) H where
  len := by simp [k.len]
  fh := k.fh
  dat := fun j e hj => by
    rcases get_set hj with ⟨rfl, q⟩ | ⟨n, q⟩
    · cases q
      have hl : i < σ.length := by
        obtain ⟨h1, _⟩ := List.getElem?_eq_some_iff.mp hj
        rw [List.length_set, k.len] at h1
        exact h1
      exact ⟨v, List.getElem?_set_self hl, h⟩
    · rw [set_ne n]
      exact k.dat j e q
  cel := fun j q xs hj => by
    rcases get_set hj with ⟨_, q⟩ | ⟨n, q⟩
    · cases q
    · rw [set_ne n]
      exact k.cel j _ xs q
  sep := fun a b p q xs ys c h1 h2 h3 h4 => by
    rcases get_set h1 with ⟨_, e⟩ | ⟨n1, e1⟩
    · cases e
    rcases get_set h2 with ⟨_, e⟩ | ⟨n2, e2⟩
    · cases e
    rw [set_ne n1] at h3
    rw [set_ne n2] at h4
    exact k.sep a b p q xs ys c e1 e2 h3 h4
  pin := fun j a e => by
    obtain ⟨xs, q⟩ := k.pin j a e
    have n : i ≠ j := fun z => by subst z; exact hp xs q
    exact ⟨xs, by rw [set_ne n]; exact q⟩
  frame := k.frame
  newF := k.newF
  oldF := k.oldF
  prot := fun a u e => by
    obtain ⟨z1, z2, z3⟩ := k.prot a u e
    refine ⟨z1, z2, fun j p ys hj => ?_⟩
    rcases get_set hj with ⟨_, q⟩ | ⟨n, q⟩
    · cases q
    · rw [set_ne n]
      exact z3 j p ys q
  dic := k.dic.set fun _ z => by cases z
/-- a name gets a new cell of its own -/
theorem Ok.setC (k : Ok K g F env σ H) {i : Nat} {xs : List PyData} {a : Addr} {vs : List V} (hp : NoPar env i) (hF : F a = none) (hH : H a = some (.lst vs)) (h : DRs K F vs xs) (h0 : g.H0 a = none) (hpr : g.Pr a = none)
    (nw : ∀ (j : Nat) (p : Bool) (ys : List PyData), env[j]? = some (.cel p ys) → σ[j]? ≠ some (some (.ref a))) : Ok K g F (env.set i (.cel false xs)) (σ.set i (some (.ref a))) H where
  len := by simp [k.len]
  fh := k.fh
  dat := fun j e hj => by
    rcases get_set hj with ⟨_, q⟩ | ⟨n, q⟩
    · cases q
    · rw [set_ne n]
      exact k.dat j e q
  cel := fun j q ys hj => by
    rcases get_set hj with ⟨rfl, q⟩ | ⟨n, q⟩
    · cases q
      have hl : i < σ.length := by
        obtain ⟨h1, _⟩ := List.getElem?_eq_some_iff.mp hj
        rw [List.length_set, k.len] at h1
        exact h1
      exact ⟨a, vs, List.getElem?_set_self hl, hF, hH, h, (fun z => by cases z), fun _ => h0⟩
    · rw [set_ne n]
      exact k.cel j _ ys q
  sep := fun j l p q us ys c h1 h2 h3 h4 => by
    rcases get_set h1 with ⟨e1, _⟩ | ⟨n1, e1⟩
    · rcases get_set h2 with ⟨e2, _⟩ | ⟨n2, e2⟩
      · exact e1.symm.trans e2
      · rcases get_set h3 with ⟨_, e3⟩ | ⟨n3, _⟩
        · cases e3
          rw [set_ne n2] at h4
          exact absurd h4 (nw l q ys e2)
        · exact absurd e1 n3
    · rcases get_set h2 with ⟨e2, _⟩ | ⟨n2, e2⟩
      · rcases get_set h4 with ⟨_, e3⟩ | ⟨n3, _⟩
        · cases e3
          rw [set_ne n1] at h3
          exact absurd h3 (nw j p us e1)
        · exact absurd e2 n3
      · rw [set_ne n1] at h3
        rw [set_ne n2] at h4
        exact k.sep j l p q us ys c e1 e2 h3 h4
  pin := fun j b e => by
    obtain ⟨ys, q⟩ := k.pin j b e
    have n : i ≠ j := fun z => by subst z; exact hp ys q
    exact ⟨ys, by rw [set_ne n]; exact q⟩
  frame := k.frame
  newF := k.newF
  oldF := k.oldF
  prot := fun b u e => by
    obtain ⟨z1, z2, z3⟩ := k.prot b u e
    refine ⟨z1, z2, fun j p ys hj => ?_⟩
    rcases get_set hj with ⟨rfl, q⟩ | ⟨n, q⟩
    · intro z
      rcases get_set z with ⟨_, y⟩ | ⟨n, _⟩
      · cases y
        rw [hpr] at e
        cases e
      · exact n rfl
    · rw [set_ne n]
      exact z3 j p ys q
  dic := k.dic.set fun _ z => by cases z
/-- a name is forgotten (its slot may hold anything) -/
theorem Ok.setU (k : Ok K g F env σ H) {i : Nat} {o : Option V} (hp : NoPar env i) : Ok K g F (env.set i .un) (σ.set i o) H where
  len := by simp [k.len]
  fh := k.fh
  dat := fun j e hj => by
    rcases get_set hj with ⟨_, q⟩ | ⟨n, q⟩
    · cases q
    · rw [set_ne n]
      exact k.dat j e q
  cel := fun j q ys hj => by
    rcases get_set hj with ⟨_, q⟩ | ⟨n, q⟩
    · cases q
    · rw [set_ne n]
      exact k.cel j _ ys q
  sep := fun a b p q xs ys c h1 h2 h3 h4 => by
    rcases get_set h1 with ⟨_, e⟩ | ⟨n1, e1⟩
    · cases e
    rcases get_set h2 with ⟨_, e⟩ | ⟨n2, e2⟩
    · cases e
    rw [set_ne n1] at h3
    rw [set_ne n2] at h4
    exact k.sep a b p q xs ys c e1 e2 h3 h4
  pin := fun j b e => by
    obtain ⟨ys, q⟩ := k.pin j b e
    have n : i ≠ j := fun z => by subst z; exact hp ys q
    exact ⟨ys, by rw [set_ne n]; exact q⟩
  frame := k.frame
  newF := k.newF
  oldF := k.oldF
  prot := fun a u e => by
    obtain ⟨z1, z2, z3⟩ := k.prot a u e
    refine ⟨z1, z2, fun j p ys hj => ?_⟩
    rcases get_set hj with ⟨_, q⟩ | ⟨n, q⟩
    · cases q
    · rw [set_ne n]
      exact z3 j p ys q
  dic := k.dic.set fun _ z => by cases z
/-- a name gets a new dict of its own -/
theorem Ok.setK (k : Ok K g F env σ H) {i : Nat} {kvs : List (List Key × PyData)} {a : Addr} {xs : List (List Key × Addr × Value)} (hp : NoPar env i) (hF : F a = none) (hH : H a = some (DicE Z.P Z.w a xs)) (h : DicR K F kvs xs) (h0 : g.H0 a = none) (hpr : g.Pr a = none)
    (nw : ∀ (j : Nat) (ys : List (List Key × PyData)), env[j]? = some (.dic ys) → σ[j]? ≠ some (some (.ref a))) : Ok K g F (env.set i (.dic kvs)) (σ.set i (some (.ref a))) H := by
  have k2 := k.setU (o := some (.ref a)) hp
  have hl : ∀ {r : SD}, (env.set i (SD.dic kvs))[i]? = some r → (σ.set i (some (V.ref a)))[i]? = some (some (.ref a)) := fun hj => by
    obtain ⟨h1, _⟩ := List.getElem?_eq_some_iff.mp hj
    rw [List.length_set, k.len] at h1
    exact List.getElem?_set_self h1
  have oth : ∀ {j : Nat} {r : SD}, i ≠ j → (env.set i (SD.dic kvs))[j]? = some r → (env.set i SD.un)[j]? = some r := fun {j r} n e => by rw [set_ne n] at e ⊢; exact e
  refine ⟨by simp [k.len], k.fh, fun j d e => ?_, fun j p ys e => ?_, fun j l p q us ys c h1 h2 h3 h4 => ?_, fun j b e => ?_, k.frame, k.newF, k.oldF, fun b u e => ?_, fun j ys e => ?_⟩
  · rcases get_set e with ⟨_, z⟩ | ⟨n, z⟩
    · cases z
    · exact k2.dat j d (oth n e)
  · rcases get_set e with ⟨_, z⟩ | ⟨n, z⟩
    · cases z
    · exact k2.cel j p ys (oth n e)
  · rcases get_set h1 with ⟨_, z⟩ | ⟨n1, z⟩
    · cases z
    rcases get_set h2 with ⟨_, z⟩ | ⟨n2, z⟩
    · cases z
    exact k2.sep j l p q us ys c (oth n1 h1) (oth n2 h2) h3 h4
  · obtain ⟨ys, z⟩ := k.pin j b e
    have n : i ≠ j := fun y => by subst y; exact hp ys z
    exact ⟨ys, by rw [set_ne n]; exact z⟩
  · obtain ⟨z1, z2, z3⟩ := k2.prot b u e
    refine ⟨z1, z2, fun j p ys hj => ?_⟩
    rcases get_set hj with ⟨_, z⟩ | ⟨n, z⟩
    · cases z
    · exact z3 j p ys (oth n hj)
  · rcases get_set e with ⟨rfl, z⟩ | ⟨n, z⟩
    · cases z
      refine ⟨a, xs, hl e, hF, hH, h, h0, hpr, fun l zs e2 z2 => ?_⟩
      rcases get_set e2 with ⟨rfl, _⟩ | ⟨n, z⟩
      · rfl
      · rw [set_ne n] at z2
        exact absurd z2 (nw l zs z)
    · obtain ⟨b, ws, z1, z2, z3, z4, z5, z6, z7⟩ := k.dic j ys z
      refine ⟨b, ws, by rw [set_ne n]; exact z1, z2, z3, z4, z5, z6, fun l zs e2 y => ?_⟩
      rcases get_set e2 with ⟨rfl, _⟩ | ⟨n2, y2⟩
      · rw [hl e2] at y
        cases y
        exact absurd z1 (nw j ys z)
      · rw [set_ne n2] at y
        exact z7 l zs y2 y
/-- a cell's content is changed -/
theorem Ok.write (k : Ok K g F env σ H) {i : Nat} {p : Bool} {xs ys : List PyData} {a : Addr} {vs : List V} (he : env[i]? = some (.cel p xs)) (hs : σ[i]? = some (some (.ref a))) (h : DRs K F vs ys) :
    Ok K g F (env.set i (.cel p ys)) σ (upd H a (.lst vs)) := by
  obtain ⟨a', vs0, h1, h2, h3, h4, h5, h6⟩ := k.cel i p xs he
  rw [hs] at h1
  cases h1
  refine ⟨by simp [k.len], fun b u q => ?_, fun j e hj => ?_, fun j q us hj => ?_, fun j l q r us ws c h1 h2 h3 h4 => ?_, fun j b e => ?_, fun b o e n => ?_, k.newF, k.oldF, fun b u e => ?_, ((k.dic.setE (i := i) (x := .cel p ys) fun _ z => by cases z).keep (Ex.refl F) (fun _ _ _ z => z) fun b xs e n => ⟨n, upd_ne fun z => by rw [z, h3] at e; cases e⟩)⟩
  · have ne : b ≠ a := fun z => by rw [z, h2] at q; cases q
    rw [upd_ne ne]
    exact k.fh b u q
  · rcases get_set hj with ⟨_, q⟩ | ⟨n, q⟩
    · cases q
    · exact k.dat j e q
  · rcases get_set hj with ⟨rfl, q⟩ | ⟨n, q⟩
    · cases q
      exact ⟨a, vs, hs, h2, upd_same, h, h5, h6⟩
    · obtain ⟨b, ws, z1, z2, z3, z4, z5⟩ := k.cel j _ us q
      have ne : b ≠ a := fun z => by
        subst z
        exact n (k.sep i j _ _ _ _ b he q hs z1)
      exact ⟨b, ws, z1, z2, by rw [upd_ne ne]; exact z3, z4, z5⟩
  · have f : ∀ {j : Nat} {q : Bool} {us : List PyData}, (env.set i (SD.cel p ys))[j]? = some (.cel q us) → ∃ q' us', env[j]? = some (.cel q' us') := fun {j q us} z => by
      rcases get_set z with ⟨rfl, _⟩ | ⟨_, z⟩
      · exact ⟨_, _, he⟩
      · exact ⟨_, _, z⟩
    obtain ⟨_, _, f1⟩ := f h1
    obtain ⟨_, _, f2⟩ := f h2
    exact k.sep j l _ _ _ _ c f1 f2 h3 h4
  · obtain ⟨us, q⟩ := k.pin j b e
    by_cases n : i = j
    · subst n
      rw [he] at q
      cases q
      exact ⟨ys, set_eq he⟩
    · exact ⟨us, by rw [set_ne n]; exact q⟩
  · have ne : b ≠ a := fun z => by
      subst z
      cases p with
      | true => exact n i (h5 rfl)
      | false =>
        rw [h6 rfl] at e
        cases e
    rw [upd_ne ne]
    exact k.frame b o e n
  · obtain ⟨z1, z2, z3⟩ := k.prot b u e
    have ne : b ≠ a := fun z => by
      subst z
      exact z3 i p xs he hs
    refine ⟨by rw [upd_ne ne]; exact z1, z2, fun j q us hj => ?_⟩
    rcases get_set hj with ⟨rfl, _⟩ | ⟨_, z⟩
    · exact z3 _ p xs he
    · exact z3 j q us z
/-- an own cell becomes a datum -/
theorem Ok.freeze (k : Ok K g F env σ H) {i : Nat} {xs : List PyData} (he : env[i]? = some (.cel false xs)) : ∃ F', Ex F F' ∧ Ok K g F' (env.set i (.dat (.list xs))) σ H := by
  obtain ⟨a, vs, h1, h2, h3, h4, h5, h6⟩ := k.cel i false xs he
  have h6 := h6 rfl
  have ex : Ex F (upd F a (.lst vs)) := Ex.new h2
  refine ⟨upd F a (.lst vs), ex, by simp [k.len], fun b u q => ?_, fun j e hj => ?_, fun j q us hj => ?_, fun j l q r us ws c z1 z2 z3 z4 => ?_, fun j b e => ?_, k.frame, fun b u q => ?_, fun b u q => ex b u (k.oldF b u q), fun b u e => ?_, ((k.dic.setE (i := i) (x := .dat (.list xs)) fun _ z => by cases z).keep ex (fun _ _ _ z => z) fun b ys e n => ⟨by rw [upd_ne fun z => by rw [z, h3] at e; cases e]; exact n, rfl⟩)⟩
  · by_cases z : b = a
    · subst z
      rw [upd_same] at q
      exact h3.trans q
    · rw [upd_ne z] at q
      exact k.fh b u q
  · rcases get_set hj with ⟨rfl, q⟩ | ⟨n, q⟩
    · cases q
      exact ⟨_, h1, .lst (RdL.of upd_same) (h4.mono ex)⟩
    · obtain ⟨v, z1, z2⟩ := k.dat j e q
      exact ⟨v, z1, z2.mono ex⟩
  · rcases get_set hj with ⟨_, q⟩ | ⟨n, q⟩
    · cases q
    · obtain ⟨b, ws, z1, z2, z3, z4, z5⟩ := k.cel j _ us q
      have ne : b ≠ a := fun z => by
        subst z
        exact n (k.sep i j _ _ _ _ b he q h1 z1)
      exact ⟨b, ws, z1, by rw [upd_ne ne]; exact z2, z3, z4.mono ex, z5⟩
  · rcases get_set z1 with ⟨_, e⟩ | ⟨n1, e1⟩
    · cases e
    rcases get_set z2 with ⟨_, e⟩ | ⟨n2, e2⟩
    · cases e
    exact k.sep j l q r us ws c e1 e2 z3 z4
  · obtain ⟨ys, q⟩ := k.pin j b e
    have n : i ≠ j := fun z => by subst z; rw [he] at q; cases q
    exact ⟨ys, by rw [set_ne n]; exact q⟩
  · by_cases z : b = a
    · subst z
      exact .inr h6
    · rw [upd_ne z] at q
      exact k.newF b u q
  · obtain ⟨z1, z2, z3⟩ := k.prot b u e
    have ne : b ≠ a := fun z => by
      subst z
      exact z3 i false xs he h1
    refine ⟨z1, by rw [upd_ne ne]; exact z2, fun j q us hj => ?_⟩
    rcases get_set hj with ⟨_, z⟩ | ⟨_, z⟩
    · cases z
    · exact z3 j q us z
end
end DL

/-! The data layer, part 2: expressions. -/
namespace DL
variable {Z : Zx}
open PySem PySem.Spec PyProof.Rows L2
open Evl (Ex)

/-- by a truth -/
def bIf (b : Bool) (p q : Prop) : Prop := match b with
  | true => p
  | false => q
theorem bIf_t {p q : Prop} : bIf true p q = p := rfl
theorem bIf_f {p q : Prop} : bIf false p q = q := rfl
/-- a datum that is a truth -/
def bT (d : PyData) (K : Bool → Prop) : Prop := match d with
  | .bool b => K b
  | _ => False
theorem bT_inv {d : PyData} {K : Bool → Prop} (h : bT d K) : ∃ b, d = .bool b ∧ K b := by
  cases d <;> first | exact ⟨_, rfl, h⟩ | exact h.elim
theorem bIf_and {b : Bool} {q : Prop} (h : bIf b q False) : b = true ∧ q := by
  cases b
  · exact h.elim
  · exact ⟨rfl, h⟩
abbrev DE := List SD → (PyData → List SD → Prop) → Prop
abbrev DX := List SD → (SD → List SD → Prop) → Prop
abbrev DT := List SD → (Bool → List SD → Prop) → Prop
abbrev DA := List SD → (List PyData → List SD → Prop) → Prop
/-- a result: a datum, or a new cell that no name holds yet -/
def ResOk (K : PySem.W.Frag) (g : Gx Z) (F : Hp) (env : List SD) (σ : L2.St) (H : Hp) (v : V) : SD → Prop
  | .un => False
  | .dat d => DR K F v d
  | .cel _ xs => ∃ a vs, v = .ref a ∧ F a = none ∧ H a = some (.lst vs) ∧ DRs K F vs xs ∧ g.H0 a = none ∧ g.Pr a = none ∧ ∀ (j : Nat) (p : Bool) (ys : List PyData), env[j]? = some (.cel p ys) → σ[j]? ≠ some (some (.ref a))
  | .dic _ => False
def liftE (K : PySem.W.Frag) (Z : Zx) (w : DE) : TE := fun σ H Q => ∃ (g : Gx Z) (F : Hp) (env : List SD) (P : PyData → List SD → Prop), Ok K g F env σ H ∧ w env P ∧
  ∀ d env' v F' H', P d env' → Ex F F' → Ok K g F' env' σ H' → DR K F' v d → Q v H'
def liftX (K : PySem.W.Frag) (Z : Zx) (w : DX) : TE := fun σ H Q => ∃ (g : Gx Z) (F : Hp) (env : List SD) (P : SD → List SD → Prop), Ok K g F env σ H ∧ w env P ∧
  ∀ r env' v F' H', P r env' → Ex F F' → Ok K g F' env' σ H' → ResOk K g F' env' σ H' v r → Q v H'
def liftT (K : PySem.W.Frag) (Z : Zx) (w : DT) : TT := fun σ H Q => ∃ (g : Gx Z) (F : Hp) (env : List SD) (P : Bool → List SD → Prop), Ok K g F env σ H ∧ w env P ∧
  ∀ b env' F' H', P b env' → Ex F F' → Ok K g F' env' σ H' → Q b H'
def liftA (K : PySem.W.Frag) (Z : Zx) (w : DA) : TA := fun σ H Q => ∃ (g : Gx Z) (F : Hp) (env : List SD) (P : List PyData → List SD → Prop), Ok K g F env σ H ∧ w env P ∧
  ∀ ds env' vs F' H', P ds env' → Ex F F' → Ok K g F' env' σ H' → DRs K F' vs ds → Q vs H'
theorem PE.of {X : Cx} {e : Expr} {t t' : TE} (h : PE X e t) (w : ∀ σ H Q, t' σ H Q → t σ H Q) : PE X e t' := ⟨fun pins s σ H Q I q => h.run pins s σ H Q I (w σ H Q q)⟩
theorem PT.of {X : Cx} {e : Expr} {t t' : TT} (h : PT X e t) (w : ∀ σ H Q, t' σ H Q → t σ H Q) : PT X e t' := ⟨fun pins s σ H Q I q => h.run pins s σ H Q I (w σ H Q q)⟩
theorem PW.of {X : Cx} {e : Expr} {t t' : TT} (h : PW X e t) (w : ∀ σ H Q, t' σ H Q → t σ H Q) : PW X e t' := ⟨fun wh pins s σ H Q I q => h.run wh pins s σ H Q I (w σ H Q q)⟩
theorem PA.of {X : Cx} {e : List Expr} {t t' : TA} (h : PA X e t) (w : ∀ σ H Q, t' σ H Q → t σ H Q) : PA X e t' := ⟨fun p pins s σ H Q I q => h.run p pins s σ H Q I (w σ H Q q)⟩
theorem PS.of {X : Cx} {e : Stmt} {t t' : TS} (h : PS X e t) (w : ∀ D σ H, t' D σ H → t D σ H) : PS X e t' := ⟨fun pins s σ H D I q => h.run pins s σ H D I (w D σ H q)⟩
theorem PSs.of {X : Cx} {e : List Stmt} {t t' : TS} (h : PSs X e t) (w : ∀ D σ H, t' D σ H → t D σ H) : PSs X e t' := ⟨fun pins s σ H D I q => h.run pins s σ H D I (w D σ H q)⟩

section
variable {K : PySem.W.Frag} {g : Gx Z} {F F' : Hp} {env : List SD} {σ : L2.St} {H : Hp}
/-- a new cell that no name holds -/
theorem Ok.newCell (k : Ok K g F env σ H) {p : Addr} (h : H p = none) {vs : List V} {xs : List PyData} (r : DRs K F vs xs) :
    Ok K g F env σ (upd H p (.lst vs)) ∧ ResOk K g F env σ (upd H p (.lst vs)) (.ref p) (.cel false xs) := by
  refine ⟨k.extra h, p, vs, rfl, fnone k.fh h, upd_same, r, k.fresh0 h, ?_, fun j q ys e z => ?_⟩
  · cases e : g.Pr p with
    | none => rfl
    | some u =>
      have z := (k.prot p u e).1
      rw [h] at z
      cases z
  obtain ⟨a, ws, h1, _, h3, _⟩ := k.cel j q ys e
  rw [z] at h1
  cases h1
  rw [h] at h3
  cases h3
/-- such a cell becomes a datum -/
theorem Ok.freezeR (k : Ok K g F env σ H) {v : V} {p : Bool} {xs : List PyData} (h : ResOk K g F env σ H v (.cel p xs)) : ∃ F', Ex F F' ∧ Ok K g F' env σ H ∧ DR K F' v (.list xs) ∧ DR K F' v (.dict [(.none, .list xs)]) := by
  obtain ⟨a, vs, rfl, hF, hH, r, h0, hpr, nw⟩ := h
  have ex : Ex F (upd F a (.lst vs)) := Ex.new hF
  refine ⟨upd F a (.lst vs), ex, ⟨k.len, fun b u q => ?_, fun i d e => ?_, fun i q ys e => ?_, k.sep, k.pin, k.frame, fun b u q => ?_, fun b u q => ex b u (k.oldF b u q), fun b u e => ?_, (k.dic.keep ex (fun _ _ _ z => z) fun b ys e n => ⟨by rw [upd_ne fun z => by rw [z, hH] at e; cases e]; exact n, rfl⟩)⟩, .lst (RdL.of upd_same) (r.mono ex), .row upd_same (r.mono ex)⟩
  · by_cases z : b = a
    · subst z
      rw [upd_same] at q
      exact hH.trans q
    · rw [upd_ne z] at q
      exact k.fh b u q
  · obtain ⟨v, z1, z2⟩ := k.dat i d e
    exact ⟨v, z1, z2.mono ex⟩
  · obtain ⟨b, ws, z1, z2, z3, z4, z5⟩ := k.cel i q ys e
    have ne : b ≠ a := fun z => by
      subst z
      exact nw i q ys e z1
    exact ⟨b, ws, z1, by rw [upd_ne ne]; exact z2, z3, z4.mono ex, z5⟩
  · by_cases z : b = a
    · subst z
      exact .inr h0
    · rw [upd_ne z] at q
      exact k.newF b u q
  · obtain ⟨z1, z2, z3⟩ := k.prot b u e
    have ne : b ≠ a := fun z => by
      subst z
      rw [hpr] at e
      cases e
    exact ⟨z1, by rw [upd_ne ne]; exact z2, z3⟩
theorem Ok.freezeP (k : Ok K g F env σ H) {v : V} {p : Bool} {xs : List PyData} (h : ResOk K g F env σ H v (.cel p xs)) : ∃ F', Ex F F' ∧ Ok K g F' env σ H ∧ DR K F' v (.list xs) := by
  obtain ⟨F', h1, h2, h3, _⟩ := k.freezeR h
  exact ⟨F', h1, h2, h3⟩
/-- a new tuple, a new list that never changes -/
theorem Ok.newTup (k : Ok K g F env σ H) {p : Addr} {o : Obj} (h : H p = none) (ho : PlT o) {vs : List V} {xs : List PyData} (r : DRs K F vs xs) :
    Ex F (upd F p (.frz o (.tup vs))) ∧ Ok K g (upd F p (.frz o (.tup vs))) env σ (upd H p (.frz o (.tup vs))) ∧ DR K (upd F p (.frz o (.tup vs))) (.ref p) (.tuple xs) := by
  have ex : Ex F (upd F p (.frz o (.tup vs))) := Ex.new (fnone k.fh h)
  exact ⟨ex, k.alloc h, .tup (.inl ⟨o, upd_same, ho⟩) (r.mono ex)⟩
theorem Ok.newLst (k : Ok K g F env σ H) {p : Addr} (h : H p = none) {vs : List V} {xs : List PyData} (r : DRs K F vs xs) :
    Ex F (upd F p (.lst vs)) ∧ Ok K g (upd F p (.lst vs)) env σ (upd H p (.lst vs)) ∧ DR K (upd F p (.lst vs)) (.ref p) (.list xs) := by
  have ex : Ex F (upd F p (.lst vs)) := Ex.new (fnone k.fh h)
  exact ⟨ex, k.alloc h, .lst (RdL.of upd_same) (r.mono ex)⟩
theorem drH (k : Ok K g F env σ H) {v : V} {d : PyData} (h : DR K F v d) : DR K H v d := h.mono k.fh
theorem drsH (k : Ok K g F env σ H) {v : List V} {d : List PyData} (h : DRs K F v d) : DRs K H v d := h.mono k.fh
end

section
variable {X : Cx} {a b c e : Expr} {es : List Expr} {pos : Pos} {wa wb wc w : DE} {K : PySem.W.Frag}
/-! ### names, constants -/
def dVar (i : Nat) (env : List SD) (P : PyData → List SD → Prop) : Prop := match env[i]? with
  | some (.dat d) => P d env
  | _ => False
theorem lift_var {i : Nat} {σ : L2.St} {H : Hp} {Q : VK} (h : liftE K Z (dVar i) σ H Q) : tVar i σ H Q := by
  obtain ⟨g, F, env, P, k, w, q⟩ := h
  unfold dVar at w
  split at w
  · rename_i d e
    obtain ⟨v, h1, h2⟩ := k.dat i d e
    exact ⟨v, h1, q d env v F H w (Ex.refl F) k h2⟩
  · exact w.elim
theorem dv (i : Nat) {x : Str} {pos : Pos} (hN : X.N[i]? = some x := by rfl) (hv : Vis X.env.scope x := by first | exact Or.inl rfl | exact Or.inr (Or.inl rfl) | exact Or.inr (Or.inr rfl)) (hd : (x == ("__debug__" : Str)) = false := by decide)
    (hcd : (x == ("__classdict__" : Str)) = false := by decide) : PE X (.Name x pos) (liftE X.K Z (dVar i)) := PE.of (pe_var hN hv hd hcd) fun _ _ _ h => lift_var h
def dC (d : PyData) (env : List SD) (P : PyData → List SD → Prop) : Prop := P d env
theorem lift_c {v : V} {d : PyData} (hv : ∀ F : Hp, DR K F v d) {σ : L2.St} {H : Hp} {Q : VK} (h : liftE K Z (dC d) σ H Q) : tC v σ H Q := by
  obtain ⟨g, F, env, P, k, w, q⟩ := h
  exact q d env v F H w (Ex.refl F) k (hv F)
theorem di {i : Int} {j pos} : PE X (.Constant (.int i) j pos) (liftE X.K Z (dC (.int i))) := PE.of pe_int fun _ _ _ h => lift_c (fun _ => .int i) h
theorem db {i : Bool} {j pos} : PE X (.Constant (.bool i) j pos) (liftE X.K Z (dC (.bool i))) := PE.of pe_bl fun _ _ _ h => lift_c (fun _ => .bl i) h
theorem dn {j pos} : PE X (.Constant .none j pos) (liftE X.K Z (dC .none)) := PE.of pe_non fun _ _ _ h => lift_c (fun _ => .non) h
theorem ds {i : Str} {j pos} : PE X (.Constant (.str i) j pos) (liftE X.K Z (dC (.str i))) := PE.of pe_str fun _ _ _ h => lift_c (fun _ => .str i) h
/-- a module's constant -/
theorem dglob {x : Str} {u : Value} {d : PyData} {pos : Pos} {v : V} (hm : X.mg x = some u) (r : RelV v u) (hd : ∀ F : Hp, DR X.K F v d) (hg : Gl X x := by rfl) (hdb : (x == ("__debug__" : Str)) = false := by decide) : PE X (.Name x pos) (liftE X.K Z (dC d)) :=
  PE.of (pe_glob hg hm r hdb) fun _ _ _ h => lift_c hd h

/-! ### operators -/
abbrev D2 := PyData → PyData → (PyData → Prop) → Prop
def dOp (f : D2) (wa wb : DE) (env : List SD) (P : PyData → List SD → Prop) : Prop := wa env fun x env1 => wb env1 fun y env2 => f x y fun z => P z env2
def OpD (K : PySem.W.Frag) (r : R2) (f : D2) : Prop :=
  ∀ (Z : Zx) (g : Gx Z) (F : Hp) (env : List SD) (σ : L2.St) (H : Hp) (vx vy : V) (dx dy : PyData) (P : PyData → Prop) (Q : VK), Ok K g F env σ H → DR K F vx dx → DR K F vy dy → f dx dy P →
    (∀ d v F' H', P d → Ex F F' → Ok K g F' env σ H' → DR K F' v d → Q v H') → r vx vy H Q
theorem lift_op {r : R2} {f : D2} (hd : OpD K r f) {σ : L2.St} {H : Hp} {Q : VK} (h : liftE K Z (dOp f wa wb) σ H Q) : tOp r (liftE K Z wa) (liftE K Z wb) σ H Q := by
  obtain ⟨g, F, env, P, k, w, q⟩ := h
  refine ⟨g, F, env, _, k, w, fun d env1 v F1 H1 p e1 k1 r1 => ⟨g, F1, env1, _, k1, p, fun d2 env2 v2 F2 H2 p2 e2 k2 r2 => ?_⟩⟩
  exact hd _ g F2 env2 σ H2 v v2 d d2 _ Q k2 (r1.mono e2) r2 p2 fun d3 v3 F3 H3 p3 e3 k3 r3 => q d3 env2 v3 F3 H3 p3 (e1.trans (e2.trans e3)) k3 r3
theorem dop {op : Operator} {r : R2} {f : D2} (ho : OpR X (binaryOp op) r) (hd : OpD X.K r f) (ha : PE X a (liftE X.K Z wa)) (hb : PE X b (liftE X.K Z wb)) : PE X (.BinOp a op b pos) (liftE X.K Z (dOp f wa wb)) :=
  PE.of (pe_op ho ha hb) fun _ _ _ h => lift_op hd h
theorem dcmp {op : CmpOp} {r : R2} {f : D2} (ho : OpR X (compareOp op) r) (hd : OpD X.K r f) (ha : PE X a (liftE X.K Z wa)) (hb : PE X b (liftE X.K Z wb)) (hm : behindInMarks op b = false) : PE X (.Compare a [op] [b] pos) (liftE X.K Z (dOp f wa wb)) :=
  PE.of (pe_cmpR ho ha hb hm) fun _ _ _ h => lift_op hd h
def dTest (w : DE) (env : List SD) (P : Bool → List SD → Prop) : Prop := w env fun d env' => bT d fun b => P b env'
theorem lift_test {t : TE} (ht : ∀ σ H Q, liftE K Z w σ H Q → t σ H Q) {σ : L2.St} {H : Hp} {Q : Bool → Hp → Prop} (h : liftT K Z (dTest w) σ H Q) : tTest t σ H Q := by
  obtain ⟨g, F, env, P, k, w, q⟩ := h
  refine ht _ _ _ ⟨g, F, env, _, k, w, fun d env1 v F1 H1 p e1 k1 r1 => ?_⟩
  obtain ⟨b, rfl, p⟩ := bT_inv p
  cases r1.inv_bool
  exact ⟨_, rfl, q _ env1 F1 H1 p e1 k1⟩
theorem dcmpT {op : CmpOp} {r : R2} {f : D2} (ho : OpR X (compareOp op) r) (hd : OpD X.K r f) (ha : PE X a (liftE X.K Z wa)) (hb : PE X b (liftE X.K Z wb)) (hm : behindInMarks op b = false) : PT X (.Compare a [op] [b] pos) (liftT X.K Z (dTest (dOp f wa wb))) :=
  PT.of (pt_cmpR ho ha hb hm) fun _ _ _ h => lift_test (fun _ _ _ h => lift_op hd h) h
/-- any other expression as a test -/
theorem dtest (h : PE X e (liftE X.K Z w)) (he : ∀ whole, isTrue e X.env whole = (do let v ← whole; standAt e.pos; holding [v] (truthy v)) := by intro _; rfl) : PT X e (liftT X.K Z (dTest w)) :=
  PT.of (pt_val h he) fun _ _ _ q => lift_test (fun _ _ _ h => h) q
/-- a < b < c -/
def dChain (f f' : D2) (wa wb wc : DE) (env : List SD) (P : PyData → List SD → Prop) : Prop := wa env fun x env1 => wb env1 fun y env2 => f x y fun z => bT z fun b => bIf b (wc env2 fun u env3 => f' y u fun z2 => P z2 env3) (P (.bool false) env2)
theorem lift_chain {r r' : R2} {f f' : D2} (hd : OpD K r f) (hd' : OpD K r' f') {σ : L2.St} {H : Hp} {Q : VK} (h : liftE K Z (dChain f f' wa wb wc) σ H Q) : tChain r r' (liftE K Z wa) (liftE K Z wb) (liftE K Z wc) σ H Q := by
  obtain ⟨g, F, env, P, k, w, q⟩ := h
  refine ⟨g, F, env, _, k, w, fun d env1 v F1 H1 p e1 k1 r1 => ⟨g, F1, env1, _, k1, p, fun d2 env2 v2 F2 H2 p2 e2 k2 r2 => ?_⟩⟩
  refine hd _ g F2 env2 σ H2 v v2 d d2 _ _ k2 (r1.mono e2) r2 p2 fun d3 v3 F3 H3 p3 e3 k3 r3 => ?_
  obtain ⟨b, rfl, p3⟩ := bT_inv p3
  cases r3.inv_bool
  cases b with
  | true =>
    refine ⟨true, rfl, iteT ⟨g, F3, env2, _, k3, p3, fun d4 env4 v4 F4 H4 p4 e4 k4 r4 => ?_⟩⟩
    exact hd' _ g F4 env4 σ H4 v2 v4 d2 d4 _ Q k4 ((r2.mono e3).mono e4) r4 p4 fun d5 v5 F5 H5 p5 e5 k5 r5 => q d5 env4 v5 F5 H5 p5 (e1.trans (e2.trans (e3.trans (e4.trans e5)))) k5 r5
  | false =>
    exact ⟨false, rfl, iteF (q _ env2 _ F3 H3 p3 (e1.trans (e2.trans e3)) k3 (.bl false))⟩
theorem dchain {op op' : CmpOp} {r r' : R2} {f f' : D2} (ho : OpR X (compareOp op) r) (ho' : OpR X (compareOp op') r') (hd : OpD X.K r f) (hd' : OpD X.K r' f') (ha : PE X a (liftE X.K Z wa)) (hb : PE X b (liftE X.K Z wb)) (hc : PE X c (liftE X.K Z wc))
    (hm : lastMarks [op, op'] [b, c] = false := by with_unfolding_all rfl) : PE X (.Compare a [op, op'] [b, c] pos) (liftE X.K Z (dChain f f' wa wb wc)) :=
  PE.of (pe_chain ho ho' ha hb hc hm) fun _ _ _ h => lift_chain hd hd' h
theorem dchainT {op op' : CmpOp} {r r' : R2} {f f' : D2} (ho : OpR X (compareOp op) r) (ho' : OpR X (compareOp op') r') (hd : OpD X.K r f) (hd' : OpD X.K r' f') (ha : PE X a (liftE X.K Z wa)) (hb : PE X b (liftE X.K Z wb)) (hc : PE X c (liftE X.K Z wc))
    (hm : lastMarks [op, op'] [b, c] = false := by with_unfolding_all rfl) : PT X (.Compare a [op, op'] [b, c] pos) (liftT X.K Z (dTest (dChain f f' wa wb wc))) :=
  PT.of (pt_chain ho ho' ha hb hc hm) fun _ _ _ h => lift_test (fun _ _ _ h => lift_chain hd hd' h) h
/-- one place -/
abbrev D1 := PyData → (PyData → Prop) → Prop
def dUn (f : D1) (wa : DE) (env : List SD) (P : PyData → List SD → Prop) : Prop := wa env fun x env1 => f x fun z => P z env1
def UnD (K : PySem.W.Frag) (r : V → Hp → VK → Prop) (f : D1) : Prop :=
  ∀ (Z : Zx) (g : Gx Z) (F : Hp) (env : List SD) (σ : L2.St) (H : Hp) (vx : V) (dx : PyData) (P : PyData → Prop) (Q : VK), Ok K g F env σ H → DR K F vx dx → f dx P →
    (∀ d v F' H', P d → Ex F F' → Ok K g F' env σ H' → DR K F' v d → Q v H') → r vx H Q
theorem dun {op : UnaryOp} {r : V → Hp → VK → Prop} {f : D1} (ho : UnR X (unaryOp op) r) (hd : UnD X.K r f) (ha : PE X a (liftE X.K Z wa)) : PE X (.UnaryOp op a pos) (liftE X.K Z (dUn f wa)) :=
  PE.of (pe_un ho ha) fun σ H Q h => by
    obtain ⟨g, F, env, P, k, w, q⟩ := h
    refine ⟨g, F, env, _, k, w, fun d env1 v F1 H1 p e1 k1 r1 => ?_⟩
    exact hd _ g F1 env1 σ H1 v d _ Q k1 r1 p fun d3 v3 F3 H3 p3 e3 k3 r3 => q d3 env1 v3 F3 H3 p3 (e1.trans e3) k3 r3

/-! ### and, or, not, if -/
def dAndV (wa wb : DE) (env : List SD) (P : PyData → List SD → Prop) : Prop := wa env fun x env1 => bT x fun b => bIf b (wb env1 P) (P (.bool false) env1)
def dOrV (wa wb : DE) (env : List SD) (P : PyData → List SD → Prop) : Prop := wa env fun x env1 => bT x fun b => bIf b (P (.bool true) env1) (wb env1 P)
def dNotV (wa : DE) (env : List SD) (P : PyData → List SD → Prop) : Prop := wa env fun x env1 => bT x fun b => P (.bool (!b)) env1
variable {rest : List Expr}
theorem done {op : BoolOp} (h : PE X a (liftE X.K Z wa)) : PE X (.BoolOp op [a] pos) (liftE X.K Z wa) := pe_one h
theorem dandV (ha : PE X a (liftE X.K Z wa)) (hb : PE X (.BoolOp .And (b :: rest) pos) (liftE X.K Z wb)) : PE X (.BoolOp .And (a :: b :: rest) pos) (liftE X.K Z (dAndV wa wb)) :=
  PE.of (pe_and ha hb) fun σ H Q h => by
    obtain ⟨g, F, env, P, k, w, q⟩ := h
    refine ⟨g, F, env, _, k, w, fun d env1 v F1 H1 p e1 k1 r1 => ?_⟩
    obtain ⟨b, rfl, p⟩ := bT_inv p
    cases r1.inv_bool
    cases b with
    | true => exact ⟨true, rfl, iteT ⟨g, F1, env1, _, k1, p, fun d2 env2 v2 F2 H2 p2 e2 k2 r2 => q d2 env2 v2 F2 H2 p2 (e1.trans e2) k2 r2⟩⟩
    | false => exact ⟨false, rfl, iteF (q _ env1 _ F1 H1 p e1 k1 (.bl false))⟩
theorem dorV (ha : PE X a (liftE X.K Z wa)) (hb : PE X (.BoolOp .Or (b :: rest) pos) (liftE X.K Z wb)) : PE X (.BoolOp .Or (a :: b :: rest) pos) (liftE X.K Z (dOrV wa wb)) :=
  PE.of (pe_or ha hb) fun σ H Q h => by
    obtain ⟨g, F, env, P, k, w, q⟩ := h
    refine ⟨g, F, env, _, k, w, fun d env1 v F1 H1 p e1 k1 r1 => ?_⟩
    obtain ⟨b, rfl, p⟩ := bT_inv p
    cases r1.inv_bool
    cases b with
    | true => exact ⟨true, rfl, iteT (q _ env1 _ F1 H1 p e1 k1 (.bl true))⟩
    | false => exact ⟨false, rfl, iteF ⟨g, F1, env1, _, k1, p, fun d2 env2 v2 F2 H2 p2 e2 k2 r2 => q d2 env2 v2 F2 H2 p2 (e1.trans e2) k2 r2⟩⟩
theorem dnotV (ha : PE X a (liftE X.K Z wa)) : PE X (.UnaryOp .Not a pos) (liftE X.K Z (dNotV wa)) :=
  PE.of (pe_not ha) fun σ H Q h => by
    obtain ⟨g, F, env, P, k, w, q⟩ := h
    refine ⟨g, F, env, _, k, w, fun d env1 v F1 H1 p e1 k1 r1 => ?_⟩
    obtain ⟨b, rfl, p⟩ := bT_inv p
    cases r1.inv_bool
    exact ⟨_, rfl, q _ env1 _ F1 H1 p e1 k1 (.bl _)⟩
def dAnd (t u : DT) (env : List SD) (P : Bool → List SD → Prop) : Prop := t env fun b env1 => bIf b (u env1 P) (P false env1)
def dOr (t u : DT) (env : List SD) (P : Bool → List SD → Prop) : Prop := t env fun b env1 => bIf b (P true env1) (u env1 P)
def dNot (t : DT) (env : List SD) (P : Bool → List SD → Prop) : Prop := t env fun b env1 => P (!b) env1
variable {t u : DT}
theorem tand1 (ha : PT X a (liftT X.K Z t)) : PW X (.BoolOp .And [a] pos) (liftT X.K Z t) := pw_and1 ha
theorem tor1 (ha : PT X a (liftT X.K Z t)) : PW X (.BoolOp .Or [a] pos) (liftT X.K Z t) := pw_or1 ha
theorem tand (ha : PT X a (liftT X.K Z t)) (hb : PW X (.BoolOp .And (b :: rest) pos) (liftT X.K Z u)) : PW X (.BoolOp .And (a :: b :: rest) pos) (liftT X.K Z (dAnd t u)) :=
  PW.of (pw_and ha hb) fun σ H Q h => by
    obtain ⟨g, F, env, P, k, w, q⟩ := h
    refine ⟨g, F, env, _, k, w, fun d env1 F1 H1 p e1 k1 => ?_⟩
    cases d with
    | true => exact iteT ⟨g, F1, env1, _, k1, p, fun d2 env2 F2 H2 p2 e2 k2 => q d2 env2 F2 H2 p2 (e1.trans e2) k2⟩
    | false => exact iteF (q _ env1 F1 H1 p e1 k1)
theorem tor (ha : PT X a (liftT X.K Z t)) (hb : PW X (.BoolOp .Or (b :: rest) pos) (liftT X.K Z u)) : PW X (.BoolOp .Or (a :: b :: rest) pos) (liftT X.K Z (dOr t u)) :=
  PW.of (pw_or ha hb) fun σ H Q h => by
    obtain ⟨g, F, env, P, k, w, q⟩ := h
    refine ⟨g, F, env, _, k, w, fun d env1 F1 H1 p e1 k1 => ?_⟩
    cases d with
    | false => exact iteF ⟨g, F1, env1, _, k1, p, fun d2 env2 F2 H2 p2 e2 k2 => q d2 env2 F2 H2 p2 (e1.trans e2) k2⟩
    | true => exact iteT (q _ env1 F1 H1 p e1 k1)
theorem tnot (ha : PT X a (liftT X.K Z t)) : PT X (.UnaryOp .Not a pos) (liftT X.K Z (dNot t)) :=
  PT.of (pt_not ha) fun σ H Q h => by
    obtain ⟨g, F, env, P, k, w, q⟩ := h
    exact ⟨g, F, env, _, k, w, fun d env1 F1 H1 p e1 k1 => q _ env1 F1 H1 p e1 k1⟩
def dIf (t : DT) (wa wb : DE) (env : List SD) (P : PyData → List SD → Prop) : Prop := t env fun b env1 => bIf b (wa env1 P) (wb env1 P)
theorem dif {c : Expr} (hc : PT X c (liftT X.K Z t)) (ha : PE X a (liftE X.K Z wa)) (hb : PE X b (liftE X.K Z wb)) : PE X (.IfExp c a b pos) (liftE X.K Z (dIf t wa wb)) :=
  PE.of (pe_ifExp hc ha hb) fun σ H Q h => by
    obtain ⟨g, F, env, P, k, w, q⟩ := h
    refine ⟨g, F, env, _, k, w, fun d env1 F1 H1 p e1 k1 => ?_⟩
    cases d with
    | true => exact iteT ⟨g, F1, env1, _, k1, p, fun d2 env2 v2 F2 H2 p2 e2 k2 r2 => q d2 env2 v2 F2 H2 p2 (e1.trans e2) k2 r2⟩
    | false => exact iteF ⟨g, F1, env1, _, k1, p, fun d2 env2 v2 F2 H2 p2 e2 k2 r2 => q d2 env2 v2 F2 H2 p2 (e1.trans e2) k2 r2⟩

/-! ### arguments, displays -/
variable {was : DA}
def dNil (env : List SD) (P : List PyData → List SD → Prop) : Prop := P [] env
def dCons (wa : DE) (wr : DA) (env : List SD) (P : List PyData → List SD → Prop) : Prop := wa env fun x env1 => wr env1 fun xs env2 => P (x :: xs) env2
theorem anil : PA X [] (liftA X.K Z dNil) := PA.of pa_nil fun σ H Q h => by
  obtain ⟨g, F, env, P, k, w, q⟩ := h
  exact q [] env [] F H w (Ex.refl F) k .nil
theorem acons (ha : PE X e (liftE X.K Z wa)) (hr : PA X es (liftA X.K Z was)) (hs : starEach (e :: es) X.env = (false, eval e X.env) :: starEach es X.env := by rfl) : PA X (e :: es) (liftA X.K Z (dCons wa was)) :=
  PA.of (pa_cons ha hr hs) fun σ H Q h => by
    obtain ⟨g, F, env, P, k, w, q⟩ := h
    exact ⟨g, F, env, _, k, w, fun d env1 v F1 H1 p e1 k1 r1 => ⟨g, F1, env1, _, k1, p, fun ds env2 vs F2 H2 p2 e2 k2 r2 => q (d :: ds) env2 (v :: vs) F2 H2 p2 (e1.trans e2) k2 (.cons (r1.mono e2) r2)⟩⟩
def dTup (wa : DA) (env : List SD) (P : PyData → List SD → Prop) : Prop := wa env fun xs env' => bIf (Nat.ble xs.length 100000) (P (.tuple xs) env') False
def dLst (wa : DA) (env : List SD) (P : SD → List SD → Prop) : Prop := wa env fun xs env' => bIf (Nat.ble xs.length 100000) (P (.cel false xs) env') False
theorem dtup {k : _} (h : PA X es (liftA X.K Z was)) : PE X (.Tuple es k pos) (liftE X.K Z (dTup was)) :=
  PE.of (pe_tupZ h) fun σ H Q h => by
    obtain ⟨g, F, env, P, k, w, q⟩ := h
    refine ⟨g, F, env, _, k, w, fun ds env1 vs F1 H1 p e1 k1 r1 => ⟨by rw [r1.length]; exact Evl.sz_of (Nat.le_of_ble_eq_true (bIf_and p).1), fun x o hx ho => ?_⟩⟩
    obtain ⟨e2, k2, r2⟩ := k1.newTup hx ho r1
    exact q _ env1 _ _ _ (bIf_and p).2 (e1.trans e2) k2 r2
theorem dlst (h : PA X es (liftA X.K Z was)) : PE X (.List es pos) (liftX X.K Z (dLst was)) :=
  PE.of (pe_lst h) fun σ H Q h => by
    obtain ⟨g, F, env, P, k, w, q⟩ := h
    refine ⟨g, F, env, _, k, w, fun ds env1 vs F1 H1 p e1 k1 r1 => ⟨by rw [r1.length]; exact Evl.sz_of (Nat.le_of_ble_eq_true (bIf_and p).1), fun x hx => ?_⟩⟩
    obtain ⟨k2, r2⟩ := k1.newCell hx r1
    exact q _ env1 _ _ _ (bIf_and p).2 e1 k2 r2
/-- a new list that is to stay as it is -/
def dFrz (w : DX) (env : List SD) (P : PyData → List SD → Prop) : Prop := w env fun r env' => match r with
  | .dat d => P d env'
  | .cel _ xs => P (.list xs) env'
  | _ => False
theorem dfrz {w : DX} (h : PE X e (liftX X.K Z w)) : PE X e (liftE X.K Z (dFrz w)) := PE.of h fun σ H Q h => by
  obtain ⟨g, F, env, P, k, w, q⟩ := h
  refine ⟨g, F, env, _, k, w, fun r env1 v F1 H1 p e1 k1 r1 => ?_⟩
  cases r with
  | un => exact p.elim
  | dic _ => exact p.elim
  | dat d => exact q d env1 v F1 H1 p e1 k1 r1
  | cel b xs =>
    obtain ⟨F2, e2, k2, r2⟩ := k1.freezeP r1
    exact q _ env1 v F2 H1 p (e1.trans e2) k2 r2
def dX (w : DE) (env : List SD) (P : SD → List SD → Prop) : Prop := w env fun d env' => P (.dat d) env'
theorem dx {w : DE} (h : PE X e (liftE X.K Z w)) : PE X e (liftX X.K Z (dX w)) := PE.of h fun σ H Q h => by
  obtain ⟨g, F, env, P, k, w, q⟩ := h
  exact ⟨g, F, env, _, k, w, fun d env1 v F1 H1 p e1 k1 r1 => q (.dat d) env1 v F1 H1 p e1 k1 r1⟩

/-! ### subscripts -/
theorem dix {r : R2} {f : D2} (ho : IxR X r) (hd : OpD X.K r f) (ha : PE X a (liftE X.K Z wa)) (hb : PE X b (liftE X.K Z wb)) (hs : PlainIx b := by intro _ _; rfl) : PE X (.Subscript a b pos) (liftE X.K Z (dOp f wa wb)) :=
  PE.of (pe_ix ho ha hb hs) fun _ _ _ h => lift_op hd h
theorem ixr_or {r r' : R2} (h : IxR X r) (h' : IxR X r') : IxR X (fun x y H Q => r x y H Q ∨ r' x y H Q) := by
  intro value slice pins s σ H x y v u Q I rx ry q hs
  rcases q with q | q
  · exact h value slice pins s σ H x y v u Q I rx ry q hs
  · exact h' value slice pins s σ H x y v u Q I rx ry q hs
/-- the item at a place -/
@[irreducible] def pick (xs : List PyData) (k : Int) (P : PyData → Prop) : Prop := match atI xs k with
  | some d => P d
  | none => False
theorem pick_inv {xs : List PyData} {k : Int} {P : PyData → Prop} (h : pick xs k P) : ∃ d, atI xs k = some d ∧ P d := by
  unfold pick at h
  cases e : atI xs k with
  | none => rw [e] at h; exact h.elim
  | some d => rw [e] at h; exact ⟨d, rfl, h⟩
def ixQ (xs : List PyData) (y : PyData) (K : PyData → Prop) : Prop := match y with
  | .int k => pick xs k K
  | _ => False
/-- the sign at a place of a text -/
@[irreducible] def pickS (z : Str) (k : Int) (P : PyData → Prop) : Prop := match atI z.cps.toList k with
  | some c => z.length ≤ 100000 ∧ P (.str ⟨#[c]⟩)
  | none => False
theorem pickS_inv {z : Str} {k : Int} {P : PyData → Prop} (h : pickS z k P) : ∃ c, atI z.cps.toList k = some c ∧ z.length ≤ 100000 ∧ P (.str ⟨#[c]⟩) := by
  unfold pickS at h
  cases e : atI z.cps.toList k with
  | none => rw [e] at h; exact h.elim
  | some c => rw [e] at h; exact ⟨c, rfl, h⟩
def oIx (x y : PyData) (P : PyData → Prop) : Prop := match x, y with
  | .tuple xs, .int k => pick xs k P
  | .list xs, .int k => pick xs k P
  | .str z, .int k => pickS z k P
  | _, _ => False
theorem atI_rel {F : Hp} {vs : List V} {ds : List PyData} {k : Int} {d : PyData} (r : DRs K F vs ds) (h : atI ds k = some d) : ∃ v, atI vs k = some v ∧ DR K F v d := by
  unfold atI at h ⊢
  rw [r.length]
  cases e : ixN ds.length k with
  | none => rw [e] at h; cases h
  | some j =>
    rw [e] at h
    exact r.get h
def rIx (K : PySem.W.Frag) : R2 := fun x y H Q => rIxT K x y H Q ∨ (rIxL K x y H Q ∨ rIxS x y H Q)
theorem ixr : IxR X (rIx X.K) := ixr_or ix_tup (ixr_or ix_list ix_str)
theorem opd_ix : OpD K (rIx K) oIx := by
  intro _ g F env σ H vx vy dx dy P Q k rx ry p q
  unfold oIx at p
  split at p
  · rename_i xs i
    cases ry.inv_int
    obtain ⟨d, e, p⟩ := pick_inv p
    obtain ⟨a, us, rfl, h1, h2⟩ := rx.inv_tup
    obtain ⟨v, e1, e2⟩ := atI_rel h2 e
    exact .inl ⟨a, us, i, v, rfl, rfl, Evl.ex_t k.fh h1, e1, q d v F H p (Ex.refl F) k e2⟩
  · rename_i xs i
    cases ry.inv_int
    obtain ⟨d, e, p⟩ := pick_inv p
    obtain ⟨a, us, rfl, h1, h2⟩ := rx.inv_lst
    obtain ⟨v, e1, e2⟩ := atI_rel h2 e
    exact .inr (.inl ⟨a, us, i, v, rfl, rfl, (h1.mono k.fh).sq, e1, q d v F H p (Ex.refl F) k e2⟩)
  · rename_i z i
    cases ry.inv_int
    cases rx.inv_str
    obtain ⟨c, e, hz, p⟩ := pickS_inv p
    exact .inr (.inr ⟨z, i, c, rfl, rfl, by rw [sizeLine_eq]; omega, e, q _ _ F H p (Ex.refl F) k (.str _)⟩)
  · exact p.elim
theorem dixP (ha : PE X a (liftE X.K Z wa)) (hb : PE X b (liftE X.K Z wb)) (hs : PlainIx b := by intro _ _; rfl) : PE X (.Subscript a b pos) (liftE X.K Z (dOp oIx wa wb)) := dix ixr opd_ix ha hb hs
/-- an item of a name's own cell -/
def dIxC (i : Nat) (wb : DE) (env : List SD) (P : PyData → List SD → Prop) : Prop := match env[i]? with
  | some (.cel _ _) => wb env fun y env1 => match env1[i]? with
    | some (.cel _ xs) => ixQ xs y fun d => P d env1
    | _ => False
  | _ => False
theorem dixC (i : Nat) {x : Str} {p0 : Pos} (hb : PE X b (liftE X.K Z wb)) (hN : X.N[i]? = some x := by rfl) (hv : Vis X.env.scope x := by first | exact Or.inl rfl | exact Or.inr (Or.inl rfl) | exact Or.inr (Or.inr rfl)) (hd : (x == ("__debug__" : Str)) = false := by decide)
    (hcd : (x == ("__classdict__" : Str)) = false := by decide) (hs : PlainIx b := by intro _ _; rfl) : PE X (.Subscript (.Name x p0) b pos) (liftE X.K Z (dIxC i wb)) :=
  PE.of (pe_ix ix_list (pe_var hN hv hd hcd) hb hs) fun σ H Q h => by
    obtain ⟨g, F, env, P, k, w, q⟩ := h
    unfold dIxC at w
    split at w
    · rename_i p xs e
      obtain ⟨a0, vs, h1, _⟩ := k.cel i p xs e
      refine ⟨_, h1, g, F, env, _, k, w, fun d env1 v F1 H1 p1 e1 k1 r1 => ?_⟩
      split at p1
      · rename_i p' ys e'
        obtain ⟨n, rfl, p1⟩ : ∃ n, d = .int n ∧ pick ys n _ := by
          cases d <;> first | exact ⟨_, rfl, p1⟩ | exact p1.elim
        cases r1.inv_int
        obtain ⟨d', ed, p1⟩ := pick_inv p1
        obtain ⟨a1, ws, z1, z2, z3, z4, z5⟩ := k1.cel i _ _ e'
        rw [h1] at z1
        cases z1
        obtain ⟨u, u1, u2⟩ := atI_rel z4 ed
        exact ⟨a0, ws, n, u, rfl, rfl, SqL.of z3, u1, q d' env1 u F1 H1 p1 e1 k1 u2⟩
      · exact p1.elim
    · exact w.elim
end
end DL

/-! The data layer, part 3: operators and built-ins. -/
namespace DL
variable {Z : Zx}
open PySem PySem.Spec PyProof.Rows L2
open Evl (Ex)

/-- a whole number of at most thousand figures -/
def Sz (i : Int) : Prop := i.natAbs < 10 ^ 1000
theorem Sz.log {i : Int} (h : Sz i) : i.natAbs.log2 < 3322 := by
  have h1 : i.natAbs < 2 ^ 3322 := Nat.lt_trans h (by decide +kernel)
  exact PySem.Flt.log2_lt_of (by decide) h1
theorem Sz.bits {i : Int} (h : Sz i) : Builtin.Int.intBits i ≤ 3322 := by
  have h1 := h.log
  unfold Builtin.Int.intBits
  split <;> omega
theorem sz_of {i : Int} (h1 : -(10 ^ 100) ≤ i) (h2 : i ≤ 10 ^ 100) : Sz i := by
  unfold Sz
  have : i.natAbs ≤ 10 ^ 100 := by omega
  exact Nat.lt_of_le_of_lt this (by decide +kernel)
theorem sz_lt {i : Int} (h : i.natAbs < 10 ^ 250) : Sz i := Nat.lt_trans h (by decide +kernel)
theorem log250 {i : Int} (h : i.natAbs < 10 ^ 250) : i.natAbs.log2 < 840 := by
  have h1 : i.natAbs < 2 ^ 840 := Nat.lt_trans h (by decide +kernel)
  exact PySem.Flt.log2_lt_of (by decide) h1
theorem lt_of {i : Int} (h1 : -(10 ^ 100) ≤ i) (h2 : i ≤ 10 ^ 100) : i.natAbs < 10 ^ 250 := by
  have : i.natAbs ≤ 10 ^ 100 := by omega
  exact Nat.lt_of_le_of_lt this (by decide +kernel)
theorem sz_mul {i j : Int} (h1 : i.natAbs ≤ 10 ^ 120) (h2 : j.natAbs ≤ 10 ^ 120) : Sz (i * j) := by
  unfold Sz
  rw [Int.natAbs_mul]
  exact Nat.lt_of_le_of_lt (Nat.mul_le_mul h1 h2) (by decide +kernel)

section
variable {X : Cx} {K : PySem.W.Frag}
/-! ### numbers -/
def oI (g : Int → Int → PyData) (x y : PyData) (P : PyData → Prop) : Prop := match x, y with
  | .int i, .int j => P (g i j)
  | _, _ => False
theorem opd_I0 {gv : Int → Int → V} {gd : Int → Int → PyData} (hg : ∀ (F : Hp) i j, DR K F (gv i j) (gd i j)) : OpD K (rI0 gv) (oI gd) := by
  intro _ g F env σ H vx vy dx dy P Q k rx ry p q
  unfold oI at p
  split at p
  · cases rx.inv_int
    cases ry.inv_int
    exact ⟨_, _, rfl, rfl, q _ _ F H p (Ex.refl F) k (hg F _ _)⟩
  · exact p.elim
def oIc (C : Int → Int → Prop) (g : Int → Int → PyData) (x y : PyData) (P : PyData → Prop) : Prop := match x, y with
  | .int i, .int j => C i j ∧ P (g i j)
  | _, _ => False
theorem opd_I {C C' : Int → Int → Prop} {gv : Int → Int → V} {gd : Int → Int → PyData} (hc : ∀ i j, C i j → C' i j) (hg : ∀ (F : Hp) i j, DR K F (gv i j) (gd i j)) : OpD K (rI C' gv) (oIc C gd) := by
  intro _ g F env σ H vx vy dx dy P Q k rx ry p q
  unfold oIc at p
  split at p
  · cases rx.inv_int
    cases ry.inv_int
    exact ⟨_, _, rfl, rfl, hc _ _ p.1, q _ _ F H p.2 (Ex.refl F) k (hg F _ _)⟩
  · exact p.elim
abbrev oSub : D2 := oI fun i j => .int (i - j)
/-- the one text ahead of the other -/
@[irreducible] def strLt (a b : Str) : Bool := decide (a.cps.toList < b.cps.toList)
def oLt (x y : PyData) (P : PyData → Prop) : Prop := match x, y with
  | .int i, .int j => P (.bool (decide (i < j)))
  | .str a, .str b => P (.bool (strLt a b))
  | _, _ => False
def rLtA : R2 := fun x y H Q => (rI0 fun i j => .bl (decide (i < j))) x y H Q ∨ ∃ i j, x = .str i ∧ y = .str j ∧ Q (.bl (decide (i.cps.toList < j.cps.toList))) H
theorem op_ltA {X : Cx} : OpR X (compareOp .Lt) rLtA := OpR.or op_lt op_lt_str
abbrev oLe : D2 := oI fun i j => .bool (decide (i ≤ j))
abbrev oGt : D2 := oI fun i j => .bool (decide (j < i))
abbrev oGe : D2 := oI fun i j => .bool (decide (j ≤ i))
abbrev oMod : D2 := oIc (fun _ j => 0 < j) fun i j => .int (i % j)
abbrev oDiv : D2 := oIc (fun _ j => 0 < j ∧ Sz j) fun i j => .int (i / j)
abbrev oMulI : D2 := oIc (fun i j => Sz i ∧ Sz j) fun i j => .int (i * j)
abbrev oPow : D2 := oIc (fun i j => Sz i ∧ 0 ≤ j ∧ j ≤ 10000) fun i j => .int (i ^ j.toNat)
variable {a b c e : Expr} {es : List Expr} {pos : Pos} {wa wb wc w : DE}
theorem op_powW : OpR X (binaryOp .Pow) (rI (fun i j => Sz i ∧ 0 ≤ j ∧ j ≤ 10000) fun i j => .int (i ^ j.toNat)) := by
  intro pins s σ H x y v u Q I rx ry h
  obtain ⟨i, j, rfl, rfl, ⟨h1, h2, h3⟩, q⟩ := h
  obtain ⟨t, rfl⟩ := rx
  obtain ⟨t', rfl⟩ := ry
  refine PyProof.Rows.pow_int h2 ?_ ⟨.int _, H, I.tok _, ⟨_, rfl⟩, q⟩
  have b := h1.bits
  have z : (Builtin.Int.intBits i : Int) * j ≤ 3322 * 10000 := Int.mul_le_mul (by omega) h3 h2 (by decide)
  exact Int.le_trans z (by decide)
theorem dsub (ha : PE X a (liftE X.K Z wa)) (hb : PE X b (liftE X.K Z wb)) : PE X (.BinOp a .Sub b pos) (liftE X.K Z (dOp oSub wa wb)) := dop op_sub (opd_I0 fun _ _ _ => .int _) ha hb
theorem dmod (ha : PE X a (liftE X.K Z wa)) (hb : PE X b (liftE X.K Z wb)) : PE X (.BinOp a .Mod b pos) (liftE X.K Z (dOp oMod wa wb)) := dop op_mod (opd_I (fun _ _ h => h) fun _ _ _ => .int _) ha hb
theorem ddiv (ha : PE X a (liftE X.K Z wa)) (hb : PE X b (liftE X.K Z wb)) : PE X (.BinOp a .FloorDiv b pos) (liftE X.K Z (dOp oDiv wa wb)) :=
  dop op_fdivW (opd_I (fun _ _ h => ⟨h.1, Nat.lt_trans h.2.log (by decide)⟩) fun _ _ _ => .int _) ha hb
theorem dmulI (ha : PE X a (liftE X.K Z wa)) (hb : PE X b (liftE X.K Z wb)) : PE X (.BinOp a .Mult b pos) (liftE X.K Z (dOp oMulI wa wb)) :=
  dop op_mulW (opd_I (fun _ _ h => by have h1 := h.1.log; have h2 := h.2.log; unfold CMulW; omega) fun _ _ _ => .int _) ha hb
theorem dpow (ha : PE X a (liftE X.K Z wa)) (hb : PE X b (liftE X.K Z wb)) : PE X (.BinOp a .Pow b pos) (liftE X.K Z (dOp oPow wa wb)) := dop op_powW (opd_I (fun _ _ h => h) fun _ _ _ => .int _) ha hb
theorem opr_ltA : OpD K rLtA oLt := by
  intro _ g F env σ H vx vy dx dy P Q k rx ry p q
  unfold oLt at p
  split at p
  · cases rx.inv_int
    cases ry.inv_int
    exact .inl ⟨_, _, rfl, rfl, q _ _ F H p (Ex.refl F) k (.bl _)⟩
  · cases rx.inv_str
    cases ry.inv_str
    unfold strLt at p
    exact .inr ⟨_, _, rfl, rfl, q _ _ F H p (Ex.refl F) k (.bl _)⟩
  · exact p.elim
theorem opr_le : OpD K (rI0 fun i j => V.bl (decide (i ≤ j))) oLe := opd_I0 fun _ _ _ => .bl _
theorem opr_gt : OpD K (rI0 fun i j => V.bl (decide (j < i))) oGt := opd_I0 fun _ _ _ => .bl _
theorem opr_ge : OpD K (rI0 fun i j => V.bl (decide (j ≤ i))) oGe := opd_I0 fun _ _ _ => .bl _
def oNeg (x : PyData) (P : PyData → Prop) : Prop := match x with
  | .int i => P (.int (-i))
  | _ => False
theorem dneg (ha : PE X a (liftE X.K Z wa)) : PE X (.UnaryOp .USub a pos) (liftE X.K Z (dUn oNeg wa)) := dun un_neg (by
  intro _ g F env σ H vx dx P Q k rx p q
  unfold oNeg at p
  split at p
  · cases rx.inv_int
    exact ⟨_, rfl, q _ _ F H p (Ex.refl F) k (.int _)⟩
  · exact p.elim) ha

/-! ### +, of numbers, texts, tuples, lists -/
def oAdd (x y : PyData) (P : PyData → Prop) : Prop := match x, y with
  | .int i, .int j => P (.int (i + j))
  | .tuple xs, .tuple ys => xs.length + ys.length ≤ 100000 ∧ P (.tuple (xs ++ ys))
  | .list xs, .list ys => xs.length + ys.length ≤ 100000 ∧ P (.list (xs ++ ys))
  | .str i, .str j => i.length + j.length ≤ 100000 ∧ P (.str (i ++ j))
  | _, _ => False
theorem sz2 {n : Nat} (h : n ≤ 100000) : n ≤ sizeLine := Evl.sz_of h
/-- two lists that stand, known to the object or not -/
def rCatL (K : PySem.W.Frag) : R2 := fun x y H Q => ∃ l b xs zs, x = .ref l ∧ y = .ref b ∧ RdL K H l xs ∧ RdL K H b zs ∧ xs.length + zs.length ≤ sizeLine ∧ ∀ p, H p = none → Q (.ref p) (upd H p (.lst (xs ++ zs)))
theorem op_catL : OpR X (binaryOp .Add) (rCatL X.K) := by
  intro pins s σ H x y v u Q I rx ry h
  obtain ⟨l, b, xs, zs, rfl, rfl, hl, hb, hz, q⟩ := h
  cases rx
  cases ry
  obtain ⟨z1, its, n, r1, e1⟩ := hl.obj I
  obtain ⟨z2, its2, n2, r2, e2⟩ := hb.obj I
  have l1 := r1.length
  have l2 := r2.length
  refine PySem.P.add_list e1 e2 ?_ (by rw [List.size_toArray, List.size_toArray]; omega)
  rw [show its.toArray ++ its2.toArray = (its ++ its2).toArray by simp]
  exact ⟨.ref _, _, I.lnew (t' := s.toks) (r1.append r2) (by rw [List.length_append]; omega), rfl, q _ I.fresh⟩
def rAddD (K : PySem.W.Frag) : R2 := fun x y H Q => ((rI0 fun i j => .int (i + j)) x y H Q ∨ rCatZ K x y H Q) ∨ (rCatL K x y H Q ∨ (∃ i j, x = .str i ∧ y = .str j ∧ i.length + j.length ≤ sizeLine ∧ Q (.str (i ++ j)) H))
theorem op_addD : OpR X (binaryOp .Add) (rAddD X.K) := OpR.or (OpR.or op_add op_catZ) (OpR.or op_catL op_add_str)
theorem opd_add : OpD K (rAddD K) oAdd := by
  intro _ g F env σ H vx vy dx dy P Q k rx ry p q
  unfold oAdd at p
  split at p
  · cases rx.inv_int
    cases ry.inv_int
    exact .inl (.inl ⟨_, _, rfl, rfl, q _ _ F H p (Ex.refl F) k (.int _)⟩)
  · rename_i xs ys
    obtain ⟨a, us, rfl, h1, h2⟩ := rx.inv_tup
    obtain ⟨b, ws, rfl, h3, h4⟩ := ry.inv_tup
    have l1 := h2.length
    have l2 := h4.length
    refine .inl (.inr ⟨a, b, us, ws, rfl, rfl, Evl.ex_t k.fh h1, Evl.ex_t k.fh h3, by rw [l1, l2]; exact sz2 p.1, fun e => ?_, fun _ e => ?_, fun _ _ x o hx ho => ?_⟩)
    · subst e
      have : xs = [] := by cases h2; rfl
      subst this
      exact q _ _ F H p.2 (Ex.refl F) k ry
    · subst e
      have : ys = [] := by cases h4; rfl
      subst this
      rw [List.append_nil] at p
      exact q _ _ F H p.2 (Ex.refl F) k rx
    · obtain ⟨e2, k2, r2⟩ := k.newTup hx ho (h2.append h4)
      exact q _ _ _ _ p.2 e2 k2 r2
  · rename_i xs ys
    obtain ⟨a, us, rfl, h1, h2⟩ := rx.inv_lst
    obtain ⟨b, ws, rfl, h3, h4⟩ := ry.inv_lst
    have l1 := h2.length
    have l2 := h4.length
    refine .inr (.inl ⟨a, b, us, ws, rfl, rfl, h1.mono k.fh, h3.mono k.fh, by rw [l1, l2]; exact sz2 p.1, fun x hx => ?_⟩)
    obtain ⟨e2, k2, r2⟩ := k.newLst hx (h2.append h4)
    exact q _ _ _ _ p.2 e2 k2 r2
  · cases rx.inv_str
    cases ry.inv_str
    exact .inr (.inr ⟨_, _, rfl, rfl, sz2 p.1, q _ _ F H p.2 (Ex.refl F) k (.str _)⟩)
  · exact p.elim
theorem dadd (ha : PE X a (liftE X.K Z wa)) (hb : PE X b (liftE X.K Z wb)) : PE X (.BinOp a .Add b pos) (liftE X.K Z (dOp oAdd wa wb)) := dop op_addD opd_add ha hb

/-! ### ==, is None -/
mutual
theorem DR.dp {K : PySem.W.Frag} {H : Hp} : ∀ {d : PyData} {v : V}, DR K H v d → PyData.hasDict d = false → Dp K H v d
  | .none, _, h, _ => by cases h; exact .non
  | .bool b, _, h, _ => by cases h; exact .bl b
  | .int i, _, h, _ => by cases h; exact .int i
  | .str x, _, h, _ => by cases h; exact .str x
  | .list ds, _, h, hd => by
    cases h with
    | lst a b => exact .lst a.sq (DRs.dp b (by simpa [PyData.hasDict] using hd))
  | .tuple ds, _, h, hd => by
    cases h with
    | tup a b => exact .tup a.sq (DRs.dp b (by simpa [PyData.hasDict] using hd))
  | .dict kvs, _, _, hd => by simp [PyData.hasDict] at hd
theorem DRs.dp {K : PySem.W.Frag} {H : Hp} : ∀ {ds : List PyData} {vs : List V}, DRs K H vs ds → PyData.hasDictAll ds = false → DpAll K H vs ds
  | [], _, h, _ => by cases h; exact .nil
  | d :: ds, _, h, hd => by
    simp only [PyData.hasDictAll, Bool.or_eq_false_iff] at hd
    cases h with
    | cons a b => exact .cons (DR.dp a hd.1) (DRs.dp b hd.2)
end
/-- == of two data, not to be looked into -/
@[irreducible] def eqD (x y : PyData) : Bool := PyData.eqv x y
theorem eqD_eq {x y : PyData} : eqD x y = PyData.eqv x y := by
  unfold eqD
  rfl
theorem eqD_int {i j : Int} : eqD (.int i) (.int j) = decide (i = j) := by
  rw [eqD_eq]
  show (i == j) = _
  rw [Bool.beq_eq_decide_eq]
def oEq (x y : PyData) (P : PyData → Prop) : Prop := match x, y with
  | .str a, .str b => P (.bool (decide (a = b)))
  | x, y => (SeqAt.shaped x = true ∧ SeqAt.shaped y = true) ∧ P (.bool (eqD x y))
def oNe (x y : PyData) (P : PyData → Prop) : Prop := match x, y with
  | .str a, .str b => P (.bool (!decide (a = b)))
  | x, y => (SeqAt.shaped x = true ∧ SeqAt.shaped y = true) ∧ P (.bool (!eqD x y))
theorem dict_of_shaped {d : PyData} (h : SeqAt.shaped d = true) : PyData.hasDict d = false := PyData.hasDict_of_canLay d (SeqAt.canLay_of_shaped h)
def rEqE (K : PySem.W.Frag) : R2 := fun x y H Q => rEq x y H Q ∨ rEqD K x y H Q
def rNeE (K : PySem.W.Frag) : R2 := fun x y H Q => rNe x y H Q ∨ rNeD K x y H Q
theorem op_eqE (hu : X.A.units + 64 < cLine) : OpR X (compareOp .Eq) (rEqE X.K) := OpR.or op_eq (op_eqD hu)
theorem op_neE (hu : X.A.units + 64 < cLine) : OpR X (compareOp .NotEq) (rNeE X.K) := OpR.or op_ne (op_neD hu)
theorem str_dec {a b : Str} : decide (V.str a = V.str b) = decide (a = b) := by
  by_cases h : a = b
  · subst h
    rw [decide_eq_true rfl, decide_eq_true rfl]
  · rw [decide_eq_false h, decide_eq_false (fun z => h (V.str.inj z))]
theorem opd_eq : OpD K (rEqE K) oEq := by
  intro _ g F env σ H vx vy dx dy P Q k rx ry p q
  unfold oEq at p
  split at p
  · cases rx.inv_str
    cases ry.inv_str
    refine .inl ⟨rfl, ?_⟩
    rw [str_dec]
    exact q _ _ F H p (Ex.refl F) k (.bl _)
  · obtain ⟨⟨h1, h2⟩, p⟩ := p
    rw [eqD_eq] at p
    exact .inr ⟨_, _, DR.dp (drH k rx) (dict_of_shaped h1), DR.dp (drH k ry) (dict_of_shaped h2), h1, h2, q _ _ F H p (Ex.refl F) k (.bl _)⟩
theorem opd_ne : OpD K (rNeE K) oNe := by
  intro _ g F env σ H vx vy dx dy P Q k rx ry p q
  unfold oNe at p
  split at p
  · cases rx.inv_str
    cases ry.inv_str
    refine .inl ⟨rfl, ?_⟩
    rw [str_dec]
    exact q _ _ F H p (Ex.refl F) k (.bl _)
  · obtain ⟨⟨h1, h2⟩, p⟩ := p
    rw [eqD_eq] at p
    exact .inr ⟨_, _, DR.dp (drH k rx) (dict_of_shaped h1), DR.dp (drH k ry) (dict_of_shaped h2), h1, h2, q _ _ F H p (Ex.refl F) k (.bl _)⟩
def oIsN (x : PyData) (P : PyData → Prop) : Prop := match x with
  | .none => P (.bool true)
  | _ => P (.bool false)
def oNotN (x : PyData) (P : PyData → Prop) : Prop := match x with
  | .none => P (.bool false)
  | _ => P (.bool true)
theorem non_iff {F : Hp} {v : V} {d : PyData} (r : DR K F v d) : decide (v = .non) = match d with | .none => true | _ => false := by
  cases r <;> first | rfl | (apply decide_eq_false; intro h; cases h)
theorem disN {j pos'} (ha : PE X a (liftE X.K Z wa)) : PE X (.Compare a [.Is] [.Constant .none j pos'] pos) (liftE X.K Z (dUn oIsN wa)) :=
  PE.of (pe_cmp (pc_isN ha) rfl) fun σ H Q h => by
    obtain ⟨g, F, env, P, k, w, q⟩ := h
    refine ⟨g, F, env, _, k, w, fun d env1 v F1 H1 p e1 k1 r1 => ?_⟩
    show Q (.bl (decide (v = V.non))) H1
    rw [non_iff r1]
    cases d <;> exact q _ env1 _ F1 H1 p e1 k1 (.bl _)
theorem dnotN {j pos'} (ha : PE X a (liftE X.K Z wa)) : PE X (.Compare a [.IsNot] [.Constant .none j pos'] pos) (liftE X.K Z (dUn oNotN wa)) :=
  PE.of (pe_cmp (pc_notN ha) rfl) fun σ H Q h => by
    obtain ⟨g, F, env, P, k, w, q⟩ := h
    refine ⟨g, F, env, _, k, w, fun d env1 v F1 H1 p e1 k1 r1 => ?_⟩
    show Q (.bl (!decide (v = V.non))) H1
    rw [non_iff r1]
    cases d <;> exact q _ env1 _ F1 H1 p e1 k1 (.bl _)
theorem tisN {j pos'} (ha : PE X a (liftE X.K Z wa)) : PT X (.Compare a [.Is] [.Constant .none j pos'] pos) (liftT X.K Z (dTest (dUn oIsN wa))) :=
  PT.of (pt_cmp (pc_isN ha) rfl) fun σ H Q h => by
    obtain ⟨g, F, env, P, k, w, q⟩ := h
    refine ⟨g, F, env, _, k, w, fun d env1 v F1 H1 p e1 k1 r1 => ?_⟩
    refine ⟨_, rfl, ?_⟩
    rw [non_iff r1]
    cases d <;> exact q _ env1 F1 H1 p e1 k1
theorem tnotN {j pos'} (ha : PE X a (liftE X.K Z wa)) : PT X (.Compare a [.IsNot] [.Constant .none j pos'] pos) (liftT X.K Z (dTest (dUn oNotN wa))) :=
  PT.of (pt_cmp (pc_notN ha) rfl) fun σ H Q h => by
    obtain ⟨g, F, env, P, k, w, q⟩ := h
    refine ⟨g, F, env, _, k, w, fun d env1 v F1 H1 p e1 k1 r1 => ?_⟩
    refine ⟨_, rfl, ?_⟩
    rw [non_iff r1]
    cases d <;> exact q _ env1 F1 H1 p e1 k1

/-! ### built-ins by name -/
abbrev DN := List PyData → (PyData → Prop) → Prop
def dB (f : DN) (wa : DA) (env : List SD) (P : PyData → List SD → Prop) : Prop := wa env fun xs env' => f xs fun z => P z env'
def CallD (K : PySem.W.Frag) (r : List V → Hp → VK → Prop) (f : DN) : Prop :=
  ∀ (Z : Zx) (g : Gx Z) (F : Hp) (env : List SD) (σ : L2.St) (H : Hp) (vs : List V) (ds : List PyData) (P : PyData → Prop) (Q : VK), Ok K g F env σ H → DRs K F vs ds → f ds P →
    (∀ d v F' H', P d → Ex F F' → Ok K g F' env σ H' → DR K F' v d → Q v H') → r vs H Q
theorem lift_call {r : List V → Hp → VK → Prop} {f : DN} {was : DA} (hd : CallD K r f) {σ : L2.St} {H : Hp} {Q : VK} (h : liftE K Z (dB f was) σ H Q) : tCB r (liftA K Z was) σ H Q := by
  obtain ⟨g, F, env, P, k, w, q⟩ := h
  refine ⟨g, F, env, _, k, w, fun ds env1 vs F1 H1 p e1 k1 r1 => ?_⟩
  exact hd _ g F1 env1 σ H1 vs ds _ Q k1 r1 p fun d2 v2 F2 H2 p2 e2 k2 r2 => q d2 env1 v2 F2 H2 p2 (e1.trans e2) k2 r2
theorem dcb {x : Str} {id : String} {p : Pos} {r : List V → Hp → VK → Prop} {f : DN} {was : DA} (hc : CallR X (.builtin id) r) (hd : CallD X.K r f) (hm : X.mg x = none) (hv : bootBuiltins x = some (.builtin id)) (ha : PA X (e :: es) (liftA X.K Z was))
    (hg : Gl X x := by rfl) (hn : x ≠ "__name__" := by decide) (hdb : (x == ("__debug__" : Str)) = false := by decide)
    (he : starEach (e :: es) X.env = (false, eval e X.env) :: starEach es X.env := by rfl) (hpl : (backTo pos (starEach es X.env)).any (·.1) = false := by rfl) : PE X (.Call (.Name x p) (e :: es) [] pos) (liftE X.K Z (dB f was)) :=
  PE.of (pe_callB hc hg hm hv ha hn hdb he hpl) fun _ _ _ h => lift_call hd h
theorem dct {x : Str} {T : String} {p : Pos} {r : List V → Hp → VK → Prop} {f : DN} {was : DA} (hc : CallR X (.type T) r) (hd : CallD X.K r f) (hm : X.mg x = none) (hv : bootBuiltins x = some (.type T)) (ha : PA X (e :: es) (liftA X.K Z was))
    (hg : Gl X x := by rfl) (hn : x ≠ "__name__" := by decide) (hdb : (x == ("__debug__" : Str)) = false := by decide)
    (he : starEach (e :: es) X.env = (false, eval e X.env) :: starEach es X.env := by rfl) (hpl : (backTo pos (starEach es X.env)).any (·.1) = false := by rfl) : PE X (.Call (.Name x p) (e :: es) [] pos) (liftE X.K Z (dB f was)) :=
  PE.of (pe_callTy hc hg hm hv ha hn hdb he hpl) fun _ _ _ h => lift_call hd h
variable {was : DA} {p : Pos}
/-- all whole numbers -/
def intsD : List PyData → Option (List Int)
  | [] => some []
  | .int i :: r => (intsD r).map (i :: ·)
  | _ :: _ => none
def boolsD : List PyData → Option (List Bool)
  | [] => some []
  | .bool i :: r => (boolsD r).map (i :: ·)
  | _ :: _ => none
theorem ints_rel {F : Hp} : ∀ {ds : List PyData} {vs : List V} {ns : List Int}, DRs K F vs ds → intsD ds = some ns → vs = ns.map V.int
  | [], _, _, h, e => by cases h; cases e; rfl
  | .int i :: r, _, ns, h, e => by
    cases h with
    | cons a b =>
      cases q : intsD r with
      | none => simp [intsD, q] at e
      | some ms =>
        simp only [intsD, q, Option.map_some, Option.some.injEq] at e
        subst e
        cases a.inv_int
        rw [ints_rel b q]
        rfl
  | .none :: _, _, _, _, e => by simp [intsD] at e
  | .bool _ :: _, _, _, _, e => by simp [intsD] at e
  | .str _ :: _, _, _, _, e => by simp [intsD] at e
  | .list _ :: _, _, _, _, e => by simp [intsD] at e
  | .tuple _ :: _, _, _, _, e => by simp [intsD] at e
  | .dict _ :: _, _, _, _, e => by simp [intsD] at e
theorem bools_rel {F : Hp} : ∀ {ds : List PyData} {vs : List V} {ns : List Bool}, DRs K F vs ds → boolsD ds = some ns → vs = ns.map V.bl
  | [], _, _, h, e => by cases h; cases e; rfl
  | .bool i :: r, _, ns, h, e => by
    cases h with
    | cons a b =>
      cases q : boolsD r with
      | none => simp [boolsD, q] at e
      | some ms =>
        simp only [boolsD, q, Option.map_some, Option.some.injEq] at e
        subst e
        cases a.inv_bool
        rw [bools_rel b q]
        rfl
  | .none :: _, _, _, _, e => by simp [boolsD] at e
  | .int _ :: _, _, _, _, e => by simp [boolsD] at e
  | .str _ :: _, _, _, _, e => by simp [boolsD] at e
  | .list _ :: _, _, _, _, e => by simp [boolsD] at e
  | .tuple _ :: _, _, _, _, e => by simp [boolsD] at e
  | .dict _ :: _, _, _, _, e => by simp [boolsD] at e
def nLen (xs : List PyData) (P : PyData → Prop) : Prop := match xs with
  | [.list ds] => P (.int (ds.length : Nat))
  | [.tuple ds] => P (.int (ds.length : Nat))
  | [.str x] => x.length ≤ 100000 ∧ P (.int (x.length : Nat))
  | _ => False
theorem dlen (hm : X.mg "len" = none) (ha : PA X (e :: es) (liftA X.K Z was)) (hg : Gl X "len" := by rfl)
    (he : starEach (e :: es) X.env = (false, eval e X.env) :: starEach es X.env := by rfl) (hpl : (backTo pos (starEach es X.env)).any (·.1) = false := by rfl) : PE X (.Call (.Name "len" p) (e :: es) [] pos) (liftE X.K Z (dB nLen was)) :=
  dcb call_len (fun _ g F env σ H vs ds P Q k r f q => by
    unfold nLen at f
    split at f
    · obtain ⟨v, rfl, r0⟩ := r.inv1
      obtain ⟨a, us, rfl, h1, h2⟩ := r0.inv_lst
      exact ⟨_, us.length, rfl, .inl ⟨us, (h1.mono k.fh).sq, rfl⟩, by rw [h2.length]; exact q _ _ F H f (Ex.refl F) k (.int _)⟩
    · obtain ⟨v, rfl, r0⟩ := r.inv1
      obtain ⟨a, us, rfl, h1, h2⟩ := r0.inv_tup
      exact ⟨_, us.length, rfl, .inr ⟨us, Evl.ex_t k.fh h1, rfl⟩, by rw [h2.length]; exact q _ _ F H f (Ex.refl F) k (.int _)⟩
    · obtain ⟨v, rfl, r0⟩ := r.inv1
      cases r0.inv_str
      exact ⟨_, _, rfl, ⟨sz2 f.1, rfl⟩, q _ _ F H f.2 (Ex.refl F) k (.int _)⟩
    · exact f.elim) hm PySem.boot_len ha hg (by decide) (by decide) he hpl
def nAbs (xs : List PyData) (P : PyData → Prop) : Prop := match xs with
  | [.int i] => P (.int (if i < 0 then -i else i))
  | _ => False
theorem dabs (hm : X.mg "abs" = none) (ha : PA X (e :: es) (liftA X.K Z was)) (hg : Gl X "abs" := by rfl)
    (he : starEach (e :: es) X.env = (false, eval e X.env) :: starEach es X.env := by rfl) (hpl : (backTo pos (starEach es X.env)).any (·.1) = false := by rfl) : PE X (.Call (.Name "abs" p) (e :: es) [] pos) (liftE X.K Z (dB nAbs was)) :=
  dcb call_abs (fun _ g F env σ H vs ds P Q k r f q => by
    unfold nAbs at f
    split at f
    · obtain ⟨v, rfl, r0⟩ := r.inv1
      cases r0.inv_int
      exact ⟨_, rfl, q _ _ F H f (Ex.refl F) k (.int _)⟩
    · exact f.elim) hm (by decide +kernel) ha hg (by decide) (by decide) he hpl
def nMin2 (xs : List PyData) (P : PyData → Prop) : Prop := match xs with
  | [.int i, .int j] => P (.int (if j < i then j else i))
  | _ => False
def nMax2 (xs : List PyData) (P : PyData → Prop) : Prop := match xs with
  | [.int i, .int j] => P (.int (if j > i then j else i))
  | _ => False
theorem dmin2 (hm : X.mg "min" = none) (hc : X.calm = true) (ha : PA X (e :: es) (liftA X.K Z was)) (hg : Gl X "min" := by rfl)
    (he : starEach (e :: es) X.env = (false, eval e X.env) :: starEach es X.env := by rfl) (hpl : (backTo pos (starEach es X.env)).any (·.1) = false := by rfl) : PE X (.Call (.Name "min" p) (e :: es) [] pos) (liftE X.K Z (dB nMin2 was)) :=
  dcb (call_min2 hc) (fun _ g F env σ H vs ds P Q k r f q => by
    unfold nMin2 at f
    split at f
    · obtain ⟨v, w, rfl, r1, r2⟩ := r.inv2
      cases r1.inv_int
      cases r2.inv_int
      exact ⟨_, _, rfl, q _ _ F H f (Ex.refl F) k (.int _)⟩
    · exact f.elim) hm (by decide +kernel) ha hg (by decide) (by decide) he hpl
theorem dmax2 (hm : X.mg "max" = none) (hc : X.calm = true) (ha : PA X (e :: es) (liftA X.K Z was)) (hg : Gl X "max" := by rfl)
    (he : starEach (e :: es) X.env = (false, eval e X.env) :: starEach es X.env := by rfl) (hpl : (backTo pos (starEach es X.env)).any (·.1) = false := by rfl) : PE X (.Call (.Name "max" p) (e :: es) [] pos) (liftE X.K Z (dB nMax2 was)) :=
  dcb (call_max2 hc) (fun _ g F env σ H vs ds P Q k r f q => by
    unfold nMax2 at f
    split at f
    · obtain ⟨v, w, rfl, r1, r2⟩ := r.inv2
      cases r1.inv_int
      cases r2.inv_int
      exact ⟨_, _, rfl, q _ _ F H f (Ex.refl F) k (.int _)⟩
    · exact f.elim) hm (by decide +kernel) ha hg (by decide) (by decide) he hpl
def nAll (xs : List PyData) (P : PyData → Prop) : Prop := match xs with
  | [.list ds] => (match boolsD ds with | some bs => P (.bool (bs.all id)) | none => False)
  | _ => False
def nAny (xs : List PyData) (P : PyData → Prop) : Prop := match xs with
  | [.list ds] => (match boolsD ds with | some bs => P (.bool (bs.any id)) | none => False)
  | _ => False
def nSumL (xs : List PyData) (P : PyData → Prop) : Prop := match xs with
  | [.list ds] => (match intsD ds with | some bs => P (.int bs.sum) | none => False)
  | _ => False
theorem dall (hm : X.mg "all" = none) (hc : X.calm = true) (ha : PA X (e :: es) (liftA X.K Z was)) (hg : Gl X "all" := by rfl)
    (he : starEach (e :: es) X.env = (false, eval e X.env) :: starEach es X.env := by rfl) (hpl : (backTo pos (starEach es X.env)).any (·.1) = false := by rfl) : PE X (.Call (.Name "all" p) (e :: es) [] pos) (liftE X.K Z (dB nAll was)) :=
  dcb (cr_all hc) (fun _ g F env σ H vs ds P Q k r f q => by
    unfold nAll at f
    split at f
    · split at f
      · rename_i bs e
        obtain ⟨v, rfl, r0⟩ := r.inv1
        obtain ⟨a, us, rfl, h1, h2⟩ := r0.inv_lst
        cases bools_rel h2 e
        exact ⟨a, bs, rfl, (h1.mono k.fh).sq, q _ _ F H f (Ex.refl F) k (.bl _)⟩
      · exact f.elim
    · exact f.elim) hm (by decide +kernel) ha hg (by decide) (by decide) he hpl
theorem dany (hm : X.mg "any" = none) (hc : X.calm = true) (ha : PA X (e :: es) (liftA X.K Z was)) (hg : Gl X "any" := by rfl)
    (he : starEach (e :: es) X.env = (false, eval e X.env) :: starEach es X.env := by rfl) (hpl : (backTo pos (starEach es X.env)).any (·.1) = false := by rfl) : PE X (.Call (.Name "any" p) (e :: es) [] pos) (liftE X.K Z (dB nAny was)) :=
  dcb (cr_any hc) (fun _ g F env σ H vs ds P Q k r f q => by
    unfold nAny at f
    split at f
    · split at f
      · rename_i bs e
        obtain ⟨v, rfl, r0⟩ := r.inv1
        obtain ⟨a, us, rfl, h1, h2⟩ := r0.inv_lst
        cases bools_rel h2 e
        exact ⟨a, bs, rfl, (h1.mono k.fh).sq, q _ _ F H f (Ex.refl F) k (.bl _)⟩
      · exact f.elim
    · exact f.elim) hm (by decide +kernel) ha hg (by decide) (by decide) he hpl
/-- isinstance(x, T), T a built-in type -/
def tyName : PyData → String
  | .none => "NoneType"
  | .bool _ => "bool"
  | .int _ => "int"
  | .str _ => "str"
  | .list _ => "list"
  | .tuple _ => "tuple"
  | .dict [] => "dict"
  | .dict _ => "list"
def isiB (d : PyData) (T : String) : Bool := (T == tyName d) || (T == "int" && tyName d == "bool")
theorem tyX_of0 {F : Hp} {v : V} {d : PyData} (r : DR K F v d) (hno : ∀ c, d ≠ .dict [(.none, .str c)]) : TyX K F v (.type (tyName d)) := by
  cases r with
  | exc _ _ => exact absurd rfl (hno _)

  | non => exact .base .non
  | bl b => exact .base (.bl b)
  | int i => exact .base (.int i)
  | str x => exact .base (.str x)
  | lst h _ =>
    rcases h with (h | ⟨o, h⟩) | ⟨its, n, h, _⟩
    · exact .base (.lst h)
    · exact .base (.frz h)
    · exact .kList h rfl
  | tup h _ =>
    rcases h.sq with (h | ⟨o, h⟩) | ⟨o, its, n, h, hc, _⟩
    · exact .base (.tup h)
    · exact .fTuple h
    · exact .kTuple h hc
  | dct h => exact .base (.dK h)
  | row h _ => exact .base (.lst h)
theorem tyX_of {F : Hp} {v : V} {d : PyData} (r : DR K F v d) : TyX K F v (.type (tyName d)) ∨ ∃ a c, v = .ref a ∧ d = .dict [(.none, .str c)] ∧ F a = some (.ext (ExcAt (He.ga K c) a)) ∧ XcF K c := by
  by_cases h : ∃ c, d = .dict [(.none, .str c)]
  · obtain ⟨c, rfl⟩ := h
    cases r with
    | exc h x => exact .inr ⟨_, _, rfl, rfl, h, x⟩
  · exact .inl (tyX_of0 r fun c z => h ⟨c, z⟩)
theorem kit_isi (d : PyData) : ∀ T ∈ exTypes, PySem.W.kitOne K (.type (tyName d)) (.type T) = some (isiB d T) := by
  have h : ∀ N ∈ ["NoneType", "bool", "int", "str", "list", "tuple", "dict"], ∀ T ∈ exTypes, kitB N T = some ((T == N) || (T == "int" && N == "bool")) := by decide +kernel
  intro T hT
  exact kit_ty (h (tyName d) (by unfold tyName; split <;> simp) T hT)
/-- isinstance(e, c), e a caught refusal -/
def rIsE1 (K : PySem.W.Frag) : List V → Hp → VK → Prop := fun xs H Q => ∃ (a C : Addr) (c : V) (u : Value) (b : Bool), xs = [.ref a, c] ∧ ClsV c u ∧ H a = some (.ext (ExcAt C a)) ∧ ExcC K C ∧ PySem.W.kitOne K (.ref C) u = some b ∧ Q (.bl b) H
theorem exc_inst {H : Hp} {s : Shared} {σ : L2.St} {pins : List (Addr × Obj)} {a C : Addr} (I : Inv X pins σ H s) (h : H a = some (.ext (ExcAt C a))) : ∃ oe, PySem.W.InstAt s.heap a oe C none := by
  obtain ⟨⟨oe, vs, h1, h2, h3, h4⟩, _⟩ := (show ObjOk X.prog X.w H s.heap a (.ext (ExcAt C a)) from I.hok a _ h)
  obtain ⟨oc, od, oda, osl⟩ := oe
  dsimp only at h2 h3 h4
  subst h2 h3 h4
  exact ⟨_, h1, rfl, rfl, trivial⟩
theorem call_isE1 : CallR X (.builtin "isinstance") (rIsE1 X.K) := by
  intro pins s σ H xs us Q I r h
  obtain ⟨a, C, c, u, b, rfl, k, hH, x, e, q⟩ := h
  obtain ⟨u1, u2, rfl, r1, r2⟩ := vals2 r
  have e2 := k.eq r2
  subst e2
  cases (show u1 = Value.ref a from r1)
  obtain ⟨oe, J⟩ := exc_inst I hH
  exact PySem.W.kia_one (PySem.W.handS_kitx_exc x.hg x.hk x.hs x.hd x.ha x.hn x.ht x.hm) I.kIn J e (fun z => nomatch z) fun tk => ⟨.bl b, H, I.tok tk, rfl, q⟩
theorem CallR.or {f : Value} {r r' : List V → Hp → VK → Prop} (h : CallR X f r) (h' : CallR X f r') : CallR X f (fun xs H Q => r xs H Q ∨ r' xs H Q) := by
  intro pins s σ H xs us Q I rv q
  rcases q with q | q
  · exact h pins s σ H xs us Q I rv q
  · exact h' pins s σ H xs us Q I rv q
def dIsi (T : String) (wa : DE) (env : List SD) (P : PyData → List SD → Prop) : Prop := wa env fun d env' => P (.bool (isiB d T)) env'
theorem disi (T : String) (xT : Str) {p q2 : Pos} (hm : X.mg "isinstance" = none) (hmT : X.mg xT = none) (hvT : bootBuiltins xT = some (.type T)) (hT : T ∈ exTypes) (ha : PE X a (liftE X.K Z wa)) (hg : Gl X "isinstance" := by rfl) (hgT : Gl X xT := by rfl)
    (hnT : xT ≠ "__name__" := by decide) (hdT : (xT == ("__debug__" : Str)) = false := by decide)
    (hs1 : starEach [a, .Name xT q2] X.env = (false, eval a X.env) :: starEach [.Name xT q2] X.env := by rfl) (hs2 : starEach [.Name xT q2] X.env = (false, eval (.Name xT q2) X.env) :: starEach [] X.env := by rfl)
    (hpl : (backTo pos (starEach [Expr.Name xT q2] X.env)).any (·.1) = false := by rfl) : PE X (.Call (.Name "isinstance" p) [a, .Name xT q2] [] pos) (liftE X.K Z (dIsi T wa)) :=
  PE.of (pe_callB (call_isi.or call_isE1) hg hm (by decide +kernel) (pa_cons ha (pa_cons (pe_bltn (v := .ty T) hgT hmT hvT rfl hnT hdT) pa_nil hs2) hs1) (by decide) (by decide) hs1 hpl) fun σ H Q h => by
    obtain ⟨g, F, env, P, k, w, q⟩ := h
    refine ⟨g, F, env, _, k, w, fun d env1 v F1 H1 p e1 k1 r1 => ?_⟩
    rcases tyX_of (drH k1 r1) with ty | ⟨a, c, rfl, rfl, hx, x⟩
    · exact .inl ⟨v, .ty T, _, _, _, rfl, .ty T, ty, kit_isi d T hT, q _ env1 _ F1 H1 p e1 k1 (.bl _)⟩
    · refine .inr ⟨a, _, .ty T, _, false, rfl, .ty T, hx, x.cls, x.six T hT, ?_⟩
      have e : isiB (.dict [(.none, .str c)]) T = false := by
        have : ∀ T ∈ exTypes, isiB (.dict [(.none, .str c)]) T = false := by
          intro T hT
          simp only [exTypes, List.mem_cons, List.not_mem_nil, or_false] at hT
          rcases hT with rfl | rfl | rfl | rfl | rfl <;> rfl
        exact this T hT
      rw [e] at p
      exact q _ env1 _ F1 H1 p e1 k1 (.bl _)
end
end DL

/-! The data layer, part 4: what a def does with data; calls. -/
namespace DL
variable {Z : Zx}
open PySem PySem.Spec PyProof.Rows L2
open Evl (Ex)

abbrev DSp := List SD → (SD → List SD → Prop) → Prop
structure ArgsOk (K : PySem.W.Frag) (F H : Hp) (vs : List V) (as : List SD) : Prop where
  len : as.length = vs.length
  fh : Ex F H
  dat : ∀ (i : Nat) (d : PyData), as[i]? = some (.dat d) → ∃ v, vs[i]? = some v ∧ DR K F v d
  cel : ∀ (i : Nat) (p : Bool) (xs : List PyData), as[i]? = some (.cel p xs) → p = true ∧ ∃ a us, vs[i]? = some (.ref a) ∧ F a = none ∧ H a = some (.lst us) ∧ DRs K F us xs
  sep : ∀ (i j : Nat) (p q : Bool) (xs ys : List PyData) (a : Addr), as[i]? = some (.cel p xs) → as[j]? = some (.cel q ys) → vs[i]? = some (.ref a) → vs[j]? = some (.ref a) → i = j
  nod : ∀ (i : Nat) (kvs : List (List Key × PyData)), as[i]? ≠ some (.dic kvs)
structure PostOk (K : PySem.W.Frag) (F H : Hp) (vs : List V) (as : List SD) (F' H' : Hp) (as' : List SD) (v : V) (r : SD) : Prop where
  ex : Ex F F'
  fh : Ex F' H'
  newF : ∀ (a : Addr) (o : HO), F' a = some o → F a = some o ∨ H a = none
  frame : ∀ (a : Addr) (o : HO), H a = some o → (∀ (i : Nat) (p : Bool) (xs : List PyData), as[i]? = some (.cel p xs) → vs[i]? ≠ some (.ref a)) → H' a = some o
  cel : ∀ (i : Nat) (p : Bool) (xs : List PyData) (a : Addr), as[i]? = some (.cel p xs) → vs[i]? = some (.ref a) → ∃ ys us, as'[i]? = some (.cel true ys) ∧ F' a = none ∧ H' a = some (.lst us) ∧ DRs K F' us ys
  res : match r with
    | .un => False
    | .dat d => DR K F' v d
    | .cel _ xs => ∃ a us, v = .ref a ∧ F' a = none ∧ H' a = some (.lst us) ∧ DRs K F' us xs ∧ H a = none
    | .dic _ => False
def spD (K : PySem.W.Frag) (S : DSp) (vs : List V) (H : Hp) (Q : VK) : Prop := ∃ (F : Hp) (as : List SD) (P : SD → List SD → Prop), ArgsOk K F H vs as ∧ S as P ∧
  ∀ r as' v F' H', P r as' → PostOk K F H vs as F' H' as' v r → Q v H'
/-- the def at f keeps its promise of data; n: its parameters; it raises nothing -/
structure FnG (P : Program) (w : World) (K : PySem.W.Frag) (mg : Str → Option Value) (base : Heap) (k : Nat) (f : Addr) (fd : FuncData) (ps : List Str) (S : DSp) : Prop where
  len : ∀ as Q, S as Q → as.length = ps.length
  go : ∀ (A : Around) (outer : List Env) (s : Shared) (H : Hp) (args : Args) (us : List Value) (vs : List V) (Q : VK), Room k A → A.guards = some [] → Env0 P w K mg base A outer s H →
    BindsTo s fd args (ps.zip us) → Vals vs us → spD K S vs H Q → codeAny (model P w) A (.call (.ref f) args) (CR CX0 outer P w H s Q E0) s
theorem FnG.mono {P : Program} {w : World} {K : PySem.W.Frag} {mg : Str → Option Value} {base : Heap} {j k : Nat} {f : Addr} {fd : FuncData} {ps : List Str} {S : DSp} (F : FnG P w K mg base j f fd ps S) (h : j ≤ k) : FnG P w K mg base k f fd ps S :=
  ⟨F.len, fun A outer s H args us vs Q hr => F.go A outer s H args us vs Q (hr.mono h)⟩
/-- another promise, that follows -/
theorem FnG.imp {P : Program} {w : World} {K : PySem.W.Frag} {mg : Str → Option Value} {base : Heap} {k : Nat} {f : Addr} {fd : FuncData} {ps : List Str} {S S' : DSp} (F : FnG P w K mg base k f fd ps S) (h : ∀ as Q, S' as Q → S as Q) : FnG P w K mg base k f fd ps S' :=
  ⟨fun as Q q => F.len as Q (h _ _ q), fun A outer s H args us vs Q hr hg e hb r ⟨F0, as, P, a1, a2, a3⟩ => F.go A outer s H args us vs Q hr hg e hb r ⟨F0, as, P, a1, h _ _ a2, a3⟩⟩

section
variable {K : PySem.W.Frag} {g : Gx Z} {F F' : Hp} {env : List SD} {σ : L2.St} {H H' : Hp}
/-- behind a call without cells -/
theorem Ok.after (k : Ok K g F env σ H) {vs : List V} {as as' : List SD} {v : V} {r : SD} (hc : ∀ (i : Nat) (p : Bool) (xs : List PyData), as[i]? ≠ some (.cel p xs)) (p : PostOk K F H vs as F' H' as' v r) : Ok K g F' env σ H' ∧ ResOk K g F' env σ H' v r := by
  have fr : ∀ (a : Addr) (o : HO), H a = some o → H' a = some o := fun a o e => p.frame a o e fun i q xs z => absurd z (hc i q xs)
  have keepN : ∀ (a : Addr) (o : HO), H a = some o → F a = none → F' a = none := fun a o e n => by
    cases q : F' a with
    | none => rfl
    | some u =>
      rcases p.newF a u q with z | z
      · rw [n] at z; cases z
      · rw [e] at z; cases z
  refine ⟨⟨k.len, p.fh, fun i d e => ?_, fun i q xs e => ?_, k.sep, k.pin, fun a o e n => fr a o (k.frame a o e n), fun a o e => ?_, fun a o e => p.ex a o (k.oldF a o e), fun a o e => ?_, (k.dic.keep p.ex (fun _ _ _ z => z) fun a ys e n => ⟨keepN a _ e n, (fr a _ e).trans e.symm⟩)⟩, ?_⟩
  · obtain ⟨u, h1, h2⟩ := k.dat i d e
    exact ⟨u, h1, h2.mono p.ex⟩
  · obtain ⟨a, us, h1, h2, h3, h4, h5⟩ := k.cel i q xs e
    exact ⟨a, us, h1, keepN a _ h3 h2, fr a _ h3, h4.mono p.ex, h5⟩
  · rcases p.newF a o e with z | z
    · exact k.newF a o z
    · exact .inr (k.fresh0 z)
  · obtain ⟨z1, z2, z3⟩ := k.prot a o e
    exact ⟨fr a o z1, keepN a o z1 z2, z3⟩
  · have pr := p.res
    cases r with
    | un => exact pr
    | dat d => exact pr
    | dic kvs => exact pr.elim
    | cel b xs =>
      obtain ⟨a, us, h1, h2, h3, h4, h5⟩ := pr
      refine ⟨a, us, h1, h2, h3, h4, k.fresh0 h5, ?_, fun j q ys e z => ?_⟩
      · cases e : g.Pr a with
        | none => rfl
        | some u =>
          have z := (k.prot a u e).1
          rw [h5] at z
          cases z
      · obtain ⟨a', ws, z1, _, z3, _⟩ := k.cel j q ys e
        rw [z] at z1
        cases z1
        rw [h5] at z3
        cases z3
/-- behind a call whose first argument is the cell of the name i -/
theorem Ok.afterC (k : Ok K g F env σ H) {i : Nat} {p : Bool} {xs : List PyData} {a : Addr} {vs : List V} {ds : List PyData} {as' : List SD} {v : V} {r : SD} (he : env[i]? = some (.cel p xs)) (hs : σ[i]? = some (some (.ref a)))
    (q : PostOk K F H (.ref a :: vs) (.cel true xs :: ds.map .dat) F' H' as' v r) : ∃ ys rest, as' = .cel true ys :: rest ∧ Ok K g F' (env.set i (.cel p ys)) σ H' ∧ ResOk K g F' (env.set i (.cel p ys)) σ H' v r := by
  obtain ⟨a0, us0, b1, b2, b3, b4, b5, b6⟩ := k.cel i p xs he
  rw [hs] at b1
  cases b1
  obtain ⟨ys, us, c1, c2, c3, c4⟩ := q.cel 0 true xs a rfl rfl
  obtain ⟨rest, rfl⟩ : ∃ rest, as' = .cel true ys :: rest := by
    cases as' with
    | nil => simp at c1
    | cons x rest => simp at c1; subst c1; exact ⟨rest, rfl⟩
  have fr : ∀ (b : Addr) (o : HO), H b = some o → b ≠ a → H' b = some o := fun b o e ne => q.frame b o e fun j p' xs' z z2 => by
    cases j with
    | zero => simp at z2; exact ne z2.symm
    | succ j =>
      simp only [List.getElem?_cons_succ, List.getElem?_map] at z
      cases y : ds[j]? with
      | none => rw [y] at z; cases z
      | some d => rw [y] at z; cases z
  have keepN : ∀ (b : Addr) (o : HO), H b = some o → F b = none → F' b = none := fun b o e n => by
    cases y : F' b with
    | none => rfl
    | some u =>
      rcases q.newF b u y with z | z
      · rw [n] at z; cases z
      · rw [e] at z; cases z
  have oth : ∀ {j : Nat} {p' : Bool} {zs : List PyData}, (env.set i (SD.cel p ys))[j]? = some (.cel p' zs) → ∃ p2 z2, env[j]? = some (.cel p2 z2) := fun {j p' zs} z => by
    rcases get_set z with ⟨rfl, _⟩ | ⟨_, z⟩
    · exact ⟨_, _, he⟩
    · exact ⟨_, _, z⟩
  refine ⟨ys, rest, rfl, ⟨by simp [k.len], q.fh, fun j d e => ?_, fun j p' zs e => ?_, fun j l p1 p2 z1 z2 c h1 h2 h3 h4 => ?_, fun j b e => ?_, fun b o e n => ?_, fun b o e => ?_, fun b o e => q.ex b o (k.oldF b o e), fun b o e => ?_, ((k.dic.setE (i := i) (x := .cel p ys) fun _ z => by cases z).keep q.ex (fun _ _ _ z => z) fun b zs e n => ⟨keepN b _ e n, (fr b _ e fun z => by rw [z, b3] at e; cases e).trans e.symm⟩)⟩, ?_⟩
  · rcases get_set e with ⟨_, z⟩ | ⟨_, z⟩
    · cases z
    · obtain ⟨u, h1, h2⟩ := k.dat j d z
      exact ⟨u, h1, h2.mono q.ex⟩
  · rcases get_set e with ⟨rfl, z⟩ | ⟨n, z⟩
    · cases z
      exact ⟨a, us, hs, c2, c3, c4, b5, b6⟩
    · obtain ⟨b, ws, h1, h2, h3, h4, h5⟩ := k.cel j _ zs z
      have ne : b ≠ a := fun y => by
        subst y
        exact n (k.sep i j _ _ _ _ b he z hs h1)
      exact ⟨b, ws, h1, keepN b _ h3 h2, fr b _ h3 ne, h4.mono q.ex, h5⟩
  · obtain ⟨_, _, f1⟩ := oth h1
    obtain ⟨_, _, f2⟩ := oth h2
    exact k.sep j l _ _ _ _ c f1 f2 h3 h4
  · obtain ⟨zs, z⟩ := k.pin j b e
    by_cases n : i = j
    · subst n
      rw [he] at z
      cases z
      exact ⟨ys, set_eq he⟩
    · exact ⟨zs, by rw [set_ne n]; exact z⟩
  · have ne : b ≠ a := fun z => by
      subst z
      cases p with
      | true => exact n i (b5 rfl)
      | false =>
        rw [b6 rfl] at e
        cases e
    exact fr b o (k.frame b o e n) ne
  · rcases q.newF b o e with z | z
    · exact k.newF b o z
    · exact .inr (k.fresh0 z)
  · obtain ⟨z1, z2, z3⟩ := k.prot b o e
    have ne : b ≠ a := fun z => by
      subst z
      exact z3 i p xs he hs
    refine ⟨fr b o z1 ne, keepN b o z1 z2, fun j p' zs e' => ?_⟩
    obtain ⟨_, _, f1⟩ := oth e'
    exact z3 j _ _ f1
  · have pr := q.res
    cases r with
    | un => exact pr
    | dat d => exact pr
    | dic kvs => exact pr.elim
    | cel b xs2 =>
      obtain ⟨c, ws, h1, h2, h3, h4, h5⟩ := pr
      refine ⟨c, ws, h1, h2, h3, h4, k.fresh0 h5, ?_, fun j p' zs e z => ?_⟩
      · cases e : g.Pr c with
        | none => rfl
        | some u =>
          have z := (k.prot c u e).1
          rw [h5] at z
          cases z
      · obtain ⟨_, _, f1⟩ := oth e
        obtain ⟨a', ws', z1, _, z3, _⟩ := k.cel j _ _ f1
        rw [z] at z1
        cases z1
        rw [h5] at z3
        cases z3
theorem args_dat (hf : Ex F H) {vs : List V} {ds : List PyData} (r : DRs K F vs ds) : ArgsOk K F H vs (ds.map .dat) where
  len := by rw [List.length_map]; exact r.length.symm
  fh := hf
  dat := fun i d e => by
    rw [List.getElem?_map] at e
    cases q : ds[i]? with
    | none => rw [q] at e; cases e
    | some x =>
      rw [q] at e
      cases e
      exact r.get q
  cel := fun i p xs e => by
    rw [List.getElem?_map] at e
    cases q : ds[i]? with
    | none => rw [q] at e; cases e
    | some x => rw [q] at e; cases e
  sep := fun i j p q xs ys a e => by
    rw [List.getElem?_map] at e
    cases q : ds[i]? with
    | none => rw [q] at e; cases e
    | some x => rw [q] at e; cases e
  nod := fun i kvs e => by
    rw [List.getElem?_map] at e
    cases q : ds[i]? with
    | none => rw [q] at e; cases e
    | some x => rw [q] at e; cases e
theorem no_cel {ds : List PyData} (i : Nat) (p : Bool) (xs : List PyData) : (ds.map SD.dat)[i]? ≠ some (.cel p xs) := fun e => by
  rw [List.getElem?_map] at e
  cases q : ds[i]? with
  | none => rw [q] at e; cases e
  | some x => rw [q] at e; cases e
theorem args_cel (hf : Ex F H) {a : Addr} {us : List V} {xs : List PyData} {vs : List V} {ds : List PyData} (hF : F a = none) (hH : H a = some (.lst us)) (rx : DRs K F us xs) (r : DRs K F vs ds) : ArgsOk K F H (.ref a :: vs) (.cel true xs :: ds.map .dat) := by
  have b := args_dat hf r
  refine ⟨by simp [r.length], hf, fun i d e => ?_, fun i p zs e => ?_, fun i j p q zs ys c e1 e2 _ _ => ?_, fun i kvs e => ?_⟩
  · cases i with
    | zero => simp at e
    | succ i =>
      obtain ⟨v, h1, h2⟩ := b.dat i d (by simpa using e)
      exact ⟨v, by simpa using h1, h2⟩
  · cases i with
    | zero =>
      simp at e
      obtain ⟨rfl, rfl⟩ := e
      exact ⟨rfl, a, us, rfl, hF, hH, rx⟩
    | succ i => exact absurd (by simpa using e) (no_cel (ds := ds) i p zs)
  · cases i with
    | succ i => exact absurd (by simpa using e1) (no_cel (ds := ds) i p zs)
    | zero =>
      cases j with
      | zero => rfl
      | succ j => exact absurd (by simpa using e2) (no_cel (ds := ds) j q ys)
  · cases i with
    | zero => simp at e
    | succ i => exact b.nod i kvs (by simpa using e)
end

section
variable {X : Cx} {k : Nat} {f : Addr} {fd : FuncData} {ps : List Str} {S : DSp} {x : Str} {p pos : Pos} {e : Expr} {es : List Expr} {was : DA}
/-- the callee runs -/
theorem run_g {pins : List (Addr × Obj)} {σ : L2.St} {H : Hp} {s : Shared} {Q : VK} {us : List Value} {vs : List V} (G : FnG X.prog X.w X.K X.mg X.base k f fd ps S) (hr : Room k X.A) (hg : X.A.guards = some []) (hb : Binds X.K fd ps [])
    (I : Inv X pins σ H s) (r : Vals vs us) (h : spD X.K S vs H Q) : wpAny (model X.prog X.w) X.A (call (.ref f) us) (EP X pins σ Q) X.xe s := by
  obtain ⟨F0, as, P, a1, a2, a3⟩ := id h
  have hl : (us ++ ([] : List Value)).length = ps.length := by rw [List.append_nil, ← r.length, ← a1.len]; exact G.len _ _ a2
  have hbb := hb s us I.kIn hl
  rw [List.append_nil] at hbb
  refine wpAny_call (codeAny_mono (G.go X.A X.stack s H ⟨us, []⟩ us vs Q hr hg I.env0 hbb r h) fun res s' hq => ?_)
  match res, hq with
  | .error e, hq => exact hq.elim
  | .ok (.ret u), hq => exact I.after hq
  | .ok .next, hq => exact hq.elim
  | .ok .brk, hq => exact hq.elim
  | .ok .cont, hq => exact hq.elim
/-- f(..), all arguments data -/
def dCall (S : DSp) (was : DA) (env : List SD) (P : SD → List SD → Prop) : Prop := was env fun ds env1 => S (ds.map .dat) fun r _ => P r env1
theorem dcall (G : FnG X.prog X.w X.K X.mg X.base k f fd ps S) (hr : Room k X.A) (hA : X.A.guards = some []) (hm : X.mg x = some (.ref f)) (hk : PySem.W.keepIn X.K (.ref f) = true) (hb : Binds X.K fd ps [])
    (ha : PA X (e :: es) (liftA X.K Z was)) (hg : Gl X x := by rfl) (hdb : (x == ("__debug__" : Str)) = false := by decide)
    (he : starEach (e :: es) X.env = (false, eval e X.env) :: starEach es X.env := by rfl) (hpl : (backTo pos (starEach es X.env)).any (·.1) = false := by rfl) : PE X (.Call (.Name x p) (e :: es) [] pos) (liftX X.K Z (dCall S was)) := by
  refine ⟨fun pins s σ H Q I ⟨g, F, env, P, k0, w, q⟩ => wpAny_Call_Name_kw (ld_glob I hg hm (PySem.W.callWith_K (h₀ := X.base) I.ok.mod.kin hk (thn (ha.run pos pins s σ H (spD X.K S · · Q) I ?_) fun us s1 ⟨vs, H1, I1, r, q1⟩ => ⟨I1.kIn, run_g G hr hA hb I1 r q1⟩) he hpl) hdb)⟩
  refine ⟨g, F, env, _, k0, w, fun ds env1 vs F1 H1 p1 e1 k1 r1 => ⟨F1, ds.map .dat, _, args_dat k1.fh r1, p1, fun r as' v F2 H2 p2 po => ?_⟩⟩
  obtain ⟨k2, r2⟩ := k1.after no_cel po
  exact q r env1 v F2 H2 p2 (e1.trans po.ex) k2 r2
/-- f(x, ..), x the name i's own cell, which f may change -/
def dCallC (S : DSp) (i : Nat) (was : DA) (env : List SD) (P : SD → List SD → Prop) : Prop := match env[i]? with
  | some (.cel _ _) => was env fun ds env1 => match env1[i]? with
    | some (.cel p xs) => S (.cel true xs :: ds.map .dat) fun r as' => match as' with
      | .cel _ ys :: _ => P r (env1.set i (.cel p ys))
      | _ => False
    | _ => False
  | _ => False
theorem dcallC (i : Nat) {y : Str} {p0 : Pos} (G : FnG X.prog X.w X.K X.mg X.base k f fd ps S) (hr : Room k X.A) (hA : X.A.guards = some []) (hm : X.mg x = some (.ref f)) (hk : PySem.W.keepIn X.K (.ref f) = true) (hb : Binds X.K fd ps [])
    (ha : PA X es (liftA X.K Z was)) (hN : X.N[i]? = some y := by rfl) (hv : Vis X.env.scope y := by first | exact Or.inl rfl | exact Or.inr (Or.inl rfl) | exact Or.inr (Or.inr rfl)) (hd : (y == ("__debug__" : Str)) = false := by decide)
    (hcd : (y == ("__classdict__" : Str)) = false := by decide) (hg : Gl X x := by rfl) (hdb : (x == ("__debug__" : Str)) = false := by decide)
    (he : starEach (.Name y p0 :: es) X.env = (false, eval (.Name y p0) X.env) :: starEach es X.env := by rfl) (hpl : (backTo pos (starEach es X.env)).any (·.1) = false := by rfl) :
    PE X (.Call (.Name x p) (.Name y p0 :: es) [] pos) (liftX X.K Z (dCallC S i was)) := by
  refine ⟨fun pins s σ H Q I ⟨g, F, env, P, k0, w, q⟩ => wpAny_Call_Name_kw (ld_glob I hg hm (PySem.W.callWith_K (h₀ := X.base) I.ok.mod.kin hk (thn ((pa_cons (pe_var hN hv hd hcd) ha he).run pos pins s σ H (spD X.K S · · Q) I ?_) fun us s1 ⟨vs, H1, I1, r, q1⟩ => ⟨I1.kIn, run_g G hr hA hb I1 r q1⟩) he hpl) hdb)⟩
  unfold dCallC at w
  split at w
  · rename_i p' xs' e0
    obtain ⟨a0, us0, b1, _⟩ := k0.cel i p' xs' e0
    refine ⟨_, b1, g, F, env, _, k0, w, fun ds env1 vs F1 H1 p1 e1 k1 r1 => ?_⟩
    split at p1
    · rename_i p2 xs ex
      obtain ⟨a1, us1, c1, c2, c3, c4, _⟩ := k1.cel i p2 xs ex
      rw [b1] at c1
      cases c1
      refine ⟨F1, _, _, args_cel k1.fh c2 c3 c4 r1, p1, fun r as' v F2 H2 p3 po => ?_⟩
      obtain ⟨ys, rest, rfl, k2, r2⟩ := k1.afterC ex b1 po
      exact q r _ v F2 H2 p3 (e1.trans po.ex) k2 r2
    · exact p1.elim
  · exact w.elim
end

/-! ### statements -/
structure DEnds where
  nx : List SD → Prop
  rt : SD → List SD → Prop
  bk : List SD → Prop := fun _ => False
  ct : List SD → Prop := fun _ => False
  nol : Bool := false
abbrev DS := DEnds → List SD → Prop
def StOk (K : PySem.W.Frag) (g : Gx Z) (F : Hp) (P : List SD → Prop) (σ' : L2.St) (H' : Hp) : Prop := ∃ env' F', P env' ∧ Ex F F' ∧ Ok K g F' env' σ' H'
structure Ends4 (K : PySem.W.Frag) (m : Nat) (g : Gx Z) (F : Hp) (P : DEnds) (D : Ends) : Prop where
  nx : ∀ env' σ' F' H', P.nx env' → Ex F F' → Ok K g F' env' σ' H' → D.nx σ' H'
  bk : ∀ env' σ' F' H', P.bk env' → Ex F F' → Ok K g F' env' σ' H' → D.bk σ' H'
  ct : ∀ env' σ' F' H', P.ct env' → Ex F F' → Ok K g F' env' σ' H' → D.ct σ' H'
  rt : ∀ r env' v σ' F' H', P.rt r (env'.take m) → Ex F F' → Ok K g F' env' σ' H' → ResOk K g F' env' σ' H' v r → D.rt v H'
/-- P.nol: no list stood at the def's begin -/
structure EndsOk (K : PySem.W.Frag) (m : Nat) (g : Gx Z) (F : Hp) (P : DEnds) (D : Ends) : Prop extends Ends4 K m g F P D where
  free : P.nol = true → (∀ a, g.F0 a = none) ∧ ∀ F', Ends4 K m g F' P D
theorem EndsOk.four {K : PySem.W.Frag} {m : Nat} {g : Gx Z} {F : Hp} {P : DEnds} {D : Ends} (h : EndsOk K m g F P D) : Ends4 K m g F P D := h.toEnds4
theorem EndsOk.any {K : PySem.W.Frag} {m : Nat} {g : Gx Z} {F : Hp} {P : DEnds} {D : Ends} (h : EndsOk K m g F P D) (n : P.nol = true) (F' : Hp) : EndsOk K m g F' P D := ⟨(h.free n).2 F', h.free⟩
theorem EndsOk.mk4 {K : PySem.W.Frag} {m : Nat} {g : Gx Z} {F : Hp} {P : DEnds} {D : Ends} (h : Ends4 K m g F P D) (n : P.nol = false) : EndsOk K m g F P D := ⟨h, fun z => by rw [n] at z; cases z⟩
def liftS (K : PySem.W.Frag) (Z : Zx) (m : Nat) (w : DS) : TS := fun D σ H => ∃ (g : Gx Z) (F : Hp) (env : List SD) (P : DEnds), Ok K g F env σ H ∧ w P env ∧ EndsOk K m g F P D
theorem EndsOk.ex {K : PySem.W.Frag} {m : Nat} {g : Gx Z} {F F' : Hp} {P : DEnds} {D : Ends} (h : EndsOk K m g F P D) (e : Ex F F') : EndsOk K m g F' P D :=
  ⟨⟨fun a b c d p x => h.nx a b c d p (e.trans x), fun a b c d p x => h.bk a b c d p (e.trans x), fun a b c d p x => h.ct a b c d p (e.trans x), fun a b c d f g' p x => h.rt a b c d f g' p (e.trans x)⟩, h.free⟩
section
variable {X : Cx} {st : Stmt} {sts : List Stmt} {w w2 : DS} {m : Nat} {e : Expr} {we : DE} {wx : DX} {pos : Pos}
def dNext (E : DEnds) (env : List SD) : Prop := E.nx env
def dSeq (w w2 : DS) (E : DEnds) (env : List SD) : Prop := w { E with nx := w2 E } env
def dNever (_ : DEnds) (_ : List SD) : Prop := False
theorem snil : PSs X [] (liftS X.K Z m dNext) := PSs.of pss_nil fun D σ H ⟨g, F, env, P, k, w, q⟩ => q.nx env σ F H w (Ex.refl F) k
theorem scons (h1 : PS X st (liftS X.K Z m w)) (h2 : PSs X sts (liftS X.K Z m w2)) : PSs X (st :: sts) (liftS X.K Z m (dSeq w w2)) := PSs.of (pss_cons h1 h2) fun D σ H ⟨g, F, env, P, k, w, q⟩ =>
  ⟨g, F, env, _, k, w, ⟨⟨fun env' σ' F' H' p e k' => ⟨g, F', env', P, k', p, q.ex e⟩, q.bk, q.ct, q.rt⟩, fun n => ⟨(q.free n).1, fun F2 => ⟨fun env' σ' F' H' p e k' => ⟨g, F', env', P, k', p, q.any n F'⟩, ((q.free n).2 F2).bk, ((q.free n).2 F2).ct, ((q.free n).2 F2).rt⟩⟩⟩⟩
theorem sone (h1 : PS X st (liftS X.K Z m w)) : PSs X [st] (liftS X.K Z m w) := pss_one h1
theorem snever : PS X st (liftS X.K Z m dNever) := PS.of ps_never fun D σ H ⟨g, F, env, P, k, w, q⟩ => w
theorem ssnever : PSs X sts (liftS X.K Z m dNever) := PSs.of pss_never fun D σ H ⟨g, F, env, P, k, w, q⟩ => w
theorem spass : PS X (.Pass pos) (liftS X.K Z m dNext) := PS.of ps_pass fun D σ H ⟨g, F, env, P, k, w, q⟩ => q.nx env σ F H w (Ex.refl F) k
theorem sdoc {x j p2 pos'} : PS X (.Expr (.Constant (.str x) j p2) pos') (liftS X.K Z m dNext) := PS.of ps_doc fun D σ H ⟨g, F, env, P, k, w, q⟩ => q.nx env σ F H w (Ex.refl F) k
def dBreak (E : DEnds) (env : List SD) : Prop := E.bk env
def dCont (E : DEnds) (env : List SD) : Prop := E.ct env
theorem sbreak : PS X (.Break pos) (liftS X.K Z m dBreak) := PS.of ps_break fun D σ H ⟨g, F, env, P, k, w, q⟩ => q.bk env σ F H w (Ex.refl F) k
theorem scont : PS X (.Continue pos) (liftS X.K Z m dCont) := PS.of ps_continue fun D σ H ⟨g, F, env, P, k, w, q⟩ => q.ct env σ F H w (Ex.refl F) k
/-- a name that is no parameter's cell -/
def npB : SD → Bool
  | .cel true _ => false
  | _ => true
def noPar (env : List SD) (i : Nat) : Bool := match env[i]? with
  | some r => npB r
  | none => true
theorem noPar_of {env : List SD} {i : Nat} (h : noPar env i = true) : NoPar env i := fun xs e => by
  unfold noPar at h
  rw [e] at h
  cases h
theorem Ok.setR {K : PySem.W.Frag} {g : Gx Z} {F : Hp} {env : List SD} {σ : L2.St} {H : Hp} {i : Nat} {v : V} {r : SD} (k : Ok K g F env σ H) (hp : noPar env i = true) (h : ResOk K g F env σ H v r) (hr : ∀ xs, r ≠ .cel true xs) : Ok K g F (env.set i r) (σ.set i (some v)) H := by
  cases r with
  | un => exact h.elim
  | dat d => exact k.setD (noPar_of hp) h
  | cel b xs =>
    obtain ⟨a, vs, rfl, h1, h2, h3, h4, h5, h6⟩ := h
    cases b with
    | true => exact absurd rfl (hr xs)
    | false => exact k.setC (noPar_of hp) h1 h2 h3 h4 h5 h6
  | dic kvs => exact h.elim
/-- what a new cell is called -/
def asOwn : SD → SD
  | .cel _ xs => .cel false xs
  | r => r
theorem res_own {K : PySem.W.Frag} {g : Gx Z} {F : Hp} {env : List SD} {σ : L2.St} {H : Hp} {v : V} {r : SD} (h : ResOk K g F env σ H v r) : ResOk K g F env σ H v (asOwn r) := by
  cases r <;> exact h
theorem own_ne {r : SD} (xs : List PyData) : asOwn r ≠ .cel true xs := by
  cases r <;> (intro h; cases h)
/-- name = e -/
def dSet (i : Nat) (wx : DX) (E : DEnds) (env : List SD) : Prop := wx env fun r env1 => bIf (noPar env1 i) (E.nx (env1.set i (asOwn r))) False
theorem sset (i : Nat) {x : Str} {pos' : Pos} (hN : X.N.Nodup) (he : PE X e (liftX X.K Z wx)) (hi : X.N[i]? = some x := by rfl) (hx : Loc X.env.scope x := by first | exact Or.inl rfl | exact Or.inr rfl) (hs : swapsWith e (some (.Name x pos')) pos.line X.env = pure false := by rfl)
    (hf : X.fn x = true ∨ X.env.scope.names.lookup x = some .local := by first | exact .inl rfl | exact .inr rfl) : PS X (.Assign [.Name x pos'] e pos) (liftS X.K Z m (dSet i wx)) := PS.of (ps_set hN hi hx he hs hf) fun D σ H ⟨g, F, env, P, k, w, q⟩ =>
  ⟨g, F, env, _, k, w, fun r env1 v F1 H1 p e1 k1 r1 => q.nx _ _ F1 H1 (bIf_and p).2 e1 (k1.setR (bIf_and p).1 (res_own r1) own_ne)⟩
/-- return e -/
def dRet (m : Nat) (wx : DX) (E : DEnds) (env : List SD) : Prop := wx env fun r env1 => E.rt (asOwn r) (env1.take m)
theorem sret (he : PE X e (liftX X.K Z wx)) : PS X (.Return (some e) pos) (liftS X.K Z m (dRet m wx)) := PS.of (ps_ret he) fun D σ H ⟨g, F, env, P, k, w, q⟩ =>
  ⟨g, F, env, _, k, w, fun r env1 v F1 H1 p e1 k1 r1 => q.rt _ env1 v σ F1 H1 p e1 k1 (res_own r1)⟩
def dRetN (m : Nat) (E : DEnds) (env : List SD) : Prop := E.rt (.dat .none) (env.take m)
theorem sretN : PS X (.Return none pos) (liftS X.K Z m (dRetN m)) := PS.of ps_retN fun D σ H ⟨g, F, env, P, k, w, q⟩ => q.rt _ env .non σ F H w (Ex.refl F) k .non
/-- an expression for what it does -/
def dDrop (wx : DX) (E : DEnds) (env : List SD) : Prop := wx env fun _ env1 => E.nx env1
theorem sexpr (he : PE X e (liftX X.K Z wx)) (hs : swapsWith e none pos.line X.env = pure false := by rfl) : PS X (.Expr e pos) (liftS X.K Z m (dDrop wx)) := PS.of (ps_expr he hs) fun D σ H ⟨g, F, env, P, k, w, q⟩ =>
  ⟨g, F, env, _, k, w, fun r env1 v F1 H1 p e1 k1 _ => q.nx env1 σ F1 H1 p e1 k1⟩
def dIfS (t : DT) (w w2 : DS) (E : DEnds) (env : List SD) : Prop := t env fun b env1 => bIf b (w E env1) (w2 E env1)
theorem sif {c : Expr} {a b : List Stmt} {t : DT} (hc : PT X c (liftT X.K Z t)) (ha : PSs X a (liftS X.K Z m w)) (hb : PSs X b (liftS X.K Z m w2)) : PS X (.If c a b pos) (liftS X.K Z m (dIfS t w w2)) := PS.of (ps_if hc ha hb) fun D σ H ⟨g, F, env, P, k, w, q⟩ =>
  ⟨g, F, env, _, k, w, fun b env1 F1 H1 p e1 k1 => by
    cases b with
    | true => exact iteT ⟨g, F1, env1, P, k1, p, q.ex e1⟩
    | false => exact iteF ⟨g, F1, env1, P, k1, p, q.ex e1⟩⟩
/-- ahead of a block: the cell of the name i stays as it is from here on -/
def dFreeze (i : Nat) (w : DS) (E : DEnds) (env : List SD) : Prop := match env[i]? with
  | some (.cel false xs) => w E (env.set i (.dat (.list xs)))
  | _ => False
theorem ssfreeze (i : Nat) (h : PSs X sts (liftS X.K Z m w)) : PSs X sts (liftS X.K Z m (dFreeze i w)) := PSs.of h fun D σ H ⟨g, F, env, P, k, w, q⟩ => by
  unfold dFreeze at w
  split at w
  · rename_i xs e
    obtain ⟨F', e1, k1⟩ := k.freeze e
    exact ⟨g, F', _, P, k1, w, q.ex e1⟩
  · exact w.elim
/-- return of a name's own cell -/
def dRetC (m : Nat) (i : Nat) (E : DEnds) (env : List SD) : Prop := match env[i]? with
  | some (.cel false xs) => E.rt (.cel false xs) ((env.set i .un).take m)
  | _ => False
theorem Ok.drop {K : PySem.W.Frag} {g : Gx Z} {F : Hp} {env : List SD} {σ : L2.St} {H : Hp} {i : Nat} {xs : List PyData} (k : Ok K g F env σ H) (he : env[i]? = some (.cel false xs)) : ∃ a, σ[i]? = some (some (.ref a)) ∧ Ok K g F (env.set i .un) σ H ∧ ResOk K g F (env.set i .un) σ H (.ref a) (.cel false xs) := by
  obtain ⟨a, vs, h1, h2, h3, h4, _, h6⟩ := k.cel i false xs he
  have np : NoPar env i := fun ys z => by rw [he] at z; cases z
  have k2 := k.setU (o := some (.ref a)) np
  have e : σ.set i (some (.ref a)) = σ := List.ext_getElem? fun j => by
    rw [List.getElem?_set]
    split
    · rename_i z
      subst z
      split
      · exact h1.symm
      · rename_i z
        exact absurd (List.getElem?_eq_some_iff.mp h1).1 z
    · rfl
  rw [e] at k2
  refine ⟨a, h1, k2, a, vs, rfl, h2, h3, h4, h6 rfl, ?_, fun j p ys hj z => ?_⟩
  · cases q : g.Pr a with
    | none => rfl
    | some u => exact absurd h1 ((k.prot a u q).2.2 i false xs he)
  · rcases get_set hj with ⟨_, q⟩ | ⟨n, q⟩
    · cases q
    · exact n (k.sep i j _ _ _ _ a he q h1 z)
theorem sretC (i : Nat) {x : Str} {p0 : Pos} (hN : X.N[i]? = some x := by rfl) (hv : Vis X.env.scope x := by first | exact Or.inl rfl | exact Or.inr (Or.inl rfl) | exact Or.inr (Or.inr rfl)) (hd : (x == ("__debug__" : Str)) = false := by decide)
    (hcd : (x == ("__classdict__" : Str)) = false := by decide) : PS X (.Return (some (.Name x p0)) pos) (liftS X.K Z m (dRetC m i)) := PS.of (ps_ret (pe_var hN hv hd hcd)) fun D σ H ⟨g, F, env, P, k, w, q⟩ => by
  unfold dRetC at w
  split at w
  · rename_i xs e
    obtain ⟨a, h1, k2, r2⟩ := k.drop e
    exact ⟨_, h1, q.rt _ _ _ σ F H w (Ex.refl F) k2 r2⟩
  · exact w.elim
/-- slots that are not to be known any more -/
def unS : List Nat → List SD → List SD
  | [], env => env
  | i :: is, env => match env[i]? with
    | some (.dat _) => unS is (env.set i .un)
    | some (.cel false _) => unS is (env.set i .un)
    | _ => unS is env
theorem Ok.unS {K : PySem.W.Frag} {g : Gx Z} {F : Hp} {σ : L2.St} {H : Hp} : ∀ {is : List Nat} {env : List SD}, Ok K g F env σ H → Ok K g F (unS is env) σ H
  | [], _, k => k
  | i :: is, env, k => by
    have go : NoPar env i → Ok K g F (env.set i .un) σ H := fun np => by
      by_cases hi : i < σ.length
      · have k2 := k.setU (o := σ[i]) np
        rw [List.set_getElem_self] at k2
        exact k2
      · have k2 := k.setU (o := none) np
        rw [show σ.set i none = σ from List.set_eq_of_length_le (Nat.le_of_not_lt hi)] at k2
        exact k2
    unfold DL.unS
    split
    · rename_i d e
      exact (go fun xs z => by rw [e] at z; cases z).unS
    · rename_i xs e
      exact (go fun ys z => by rw [e] at z; cases z).unS
    · exact k.unS
def dForget (is : List Nat) (w : DS) (E : DEnds) (env : List SD) : Prop := w E (unS is env)
theorem ssforget (is : List Nat) (h : PSs X sts (liftS X.K Z m w)) : PSs X sts (liftS X.K Z m (dForget is w)) := PSs.of h fun D σ H ⟨g, F, env, P, k, w, q⟩ => ⟨g, F, _, P, k.unS, w, q⟩
/-- another reading, that follows -/
theorem ssimp {w' : DS} (h : PSs X sts (liftS X.K Z m w)) (hw : ∀ E env, w' E env → w E env) : PSs X sts (liftS X.K Z m w') := PSs.of h fun D σ H ⟨g, F, env, P, k, w, q⟩ => ⟨g, F, env, P, k, hw _ _ w, q⟩
end
end DL

/-! The data layer, part 5: stores, loops, comprehensions, a def by its body. -/
namespace DL
variable {Z : Zx}
open PySem PySem.Spec PyProof.Rows L2
open Evl (Ex)

section
variable {X : Cx} {st : Stmt} {sts : List Stmt} {w w2 : DS} {m : Nat} {a b e : Expr} {es : List Expr} {wa wb we : DE} {wx : DX} {pos : Pos} {was : DA}
/-! ### targets -/
abbrev DG := PyData → List SD → (List SD → Prop) → Prop
/-- what goes to a target; with b (a tuple as the target) the tuple's object needn't be known -/
def DRw (K : PySem.W.Frag) (b : Bool) (F : Hp) (v : V) (d : PyData) : Prop := DR K F v d ∨ (b = true ∧ ∃ T xs ds, v = .ref T ∧ d = .tuple ds ∧ SqT K F T xs ∧ DRs K F xs ds)
theorem DRw.tup {K : PySem.W.Frag} {b : Bool} {F : Hp} {v : V} {ds : List PyData} (h : DRw K b F v (.tuple ds)) : ∃ a xs, v = .ref a ∧ SqT K F a xs ∧ DRs K F xs ds := by
  rcases h with h | ⟨_, T, xs, es, h1, h2, h3, h4⟩
  · exact h.inv_tup
  · cases h2
    exact ⟨T, xs, h1, h3, h4⟩
theorem DRw.non {K : PySem.W.Frag} {F : Hp} {v : V} {d : PyData} (h : DRw K false F v d) : DR K F v d := by
  rcases h with h | ⟨h, _⟩
  · exact h
  · cases h
def liftG (K : PySem.W.Frag) (Z : Zx) (b : Bool) (w : DG) : TG := fun v σ H Q => ∃ (g : Gx Z) (F : Hp) (env : List SD) (d : PyData) (P : List SD → Prop), Ok K g F env σ H ∧ DRw K b F v d ∧ w d env P ∧
  ∀ env' σ' F' H', P env' → Ex F F' → Ok K g F' env' σ' H' → Q σ' H'
abbrev DGs := List PyData → List SD → (List SD → Prop) → Prop
def liftGs (K : PySem.W.Frag) (Z : Zx) (w : DGs) : TGs := fun vs σ H Q => ∃ (g : Gx Z) (F : Hp) (env : List SD) (ds : List PyData) (P : List SD → Prop), Ok K g F env σ H ∧ DRs K F vs ds ∧ w ds env P ∧
  ∀ env' σ' F' H', P env' → Ex F F' → Ok K g F' env' σ' H' → Q σ' H'
theorem PG.of {t t' : TG} (h : PG X e t) (w : ∀ v σ H Q, t' v σ H Q → t v σ H Q) : PG X e t' := ⟨fun pins s σ H v u Q I r q => h.run pins s σ H v u Q I r (w v σ H Q q)⟩
theorem PGs.of {t t' : TGs} (h : PGs X es t) (w : ∀ v σ H Q, t' v σ H Q → t v σ H Q) : PGs X es t' := ⟨fun pins s σ H v u Q I r q => h.run pins s σ H v u Q I r (w v σ H Q q)⟩
def dgN (i : Nat) (d : PyData) (env : List SD) (P : List SD → Prop) : Prop := bIf (noPar env i) (P (env.set i (.dat d))) False
theorem gn (i : Nat) {x : Str} (hN : X.N.Nodup) (hi : X.N[i]? = some x := by rfl) (hx : Loc X.env.scope x := by first | exact Or.inl rfl | exact Or.inr rfl)
    (hf : X.fn x = true ∨ X.env.scope.names.lookup x = some .local := by first | exact .inl rfl | exact .inr rfl) : PG X (.Name x pos) (liftG X.K Z false (dgN i)) := PG.of (pg_name hN hi hx hf) fun v σ H Q ⟨g, F, env, d, P, k, r, w, q⟩ =>
  q _ _ F H (bIf_and w).2 (Ex.refl F) (k.setD (noPar_of (bIf_and w).1) r.non)
def nilQ (ds : List PyData) (p : Prop) : Prop := match ds with
  | [] => p
  | _ :: _ => False
def consQ (ds : List PyData) (K : PyData → List PyData → Prop) : Prop := match ds with
  | d :: r => K d r
  | [] => False
def tupQ (d : PyData) (K : List PyData → Prop) : Prop := match d with
  | .tuple ds => K ds
  | _ => False
theorem nilQ_inv {ds : List PyData} {p : Prop} (h : nilQ ds p) : ds = [] ∧ p := by
  cases ds
  · exact ⟨rfl, h⟩
  · exact h.elim
theorem consQ_inv {ds : List PyData} {K : PyData → List PyData → Prop} (h : consQ ds K) : ∃ d r, ds = d :: r ∧ K d r := by
  cases ds
  · exact h.elim
  · exact ⟨_, _, rfl, h⟩
theorem tupQ_inv {d : PyData} {K : List PyData → Prop} (h : tupQ d K) : ∃ ds, d = .tuple ds ∧ K ds := by
  cases d <;> first | exact ⟨_, rfl, h⟩ | exact h.elim
def dgNil (ds : List PyData) (env : List SD) (P : List SD → Prop) : Prop := nilQ ds (P env)
def dgCons (t : DG) (u : DGs) (ds : List PyData) (env : List SD) (P : List SD → Prop) : Prop := consQ ds fun d r => t d env fun env1 => u r env1 P
theorem gnil : PGs X [] (liftGs X.K Z dgNil) := PGs.of pgs_nil fun v σ H Q ⟨g, F, env, ds, P, k, r, w, q⟩ => by
  obtain ⟨rfl, w⟩ := nilQ_inv w
  cases r
  exact ⟨rfl, q env σ F H w (Ex.refl F) k⟩
theorem gcons {t : DG} {u : DGs} {bb : Bool} (h1 : PG X e (liftG X.K Z bb t)) (h2 : PGs X es (liftGs X.K Z u)) (hs : (assignEach (e :: es) X.env).map (·.2) = assign e X.env :: (assignEach es X.env).map (·.2) := by rfl) : PGs X (e :: es) (liftGs X.K Z (dgCons t u)) :=
  PGs.of (pgs_cons h1 h2 hs) fun v σ H Q ⟨g, F, env, ds, P, k, r, w, q⟩ => by
    obtain ⟨d, r0, rfl, w⟩ := consQ_inv w
    cases r with
    | cons r1 r2 =>
        exact ⟨_, _, rfl, g, F, env, _, _, k, .inl r1, w, fun env1 σ1 F1 H1 p e1 k1 => ⟨g, F1, env1, _, P, k1, r2.mono e1, p, fun env2 σ2 F2 H2 p2 e2 k2 => q env2 σ2 F2 H2 p2 (e1.trans e2) k2⟩⟩
def dgT (n : Nat) (t : DGs) (d : PyData) (env : List SD) (P : List SD → Prop) : Prop := tupQ d fun ds => t ds env P
/-- a target that takes a datum goes on -/
def GOk (t : DG) : Prop := ∀ d env P, t d env P → ∃ env1, P env1
def GLen (t : DGs) (n : Nat) : Prop := ∀ ds env P, t ds env P → ds.length = n ∧ ∃ env1, P env1
theorem gok_n {i : Nat} : GOk (dgN i) := fun d env P h => ⟨_, (bIf_and h).2⟩
theorem gl_nil : GLen dgNil 0 := fun ds env P h => by
  obtain ⟨rfl, h⟩ := nilQ_inv h
  exact ⟨rfl, env, h⟩
theorem gl_cons {t : DG} {u : DGs} {n : Nat} (h1 : GOk t) (h2 : GLen u n) : GLen (dgCons t u) (n + 1) := fun ds env P h => by
  obtain ⟨d, r, rfl, h⟩ := consQ_inv h
  obtain ⟨env1, h⟩ := h1 _ _ _ h
  obtain ⟨e, h⟩ := h2 _ _ _ h
  exact ⟨by simp [e], h⟩
theorem gok_t {n k : Nat} {t : DGs} (h : GLen t k) : GOk (dgT n t) := fun d env P w => by
  obtain ⟨ds, rfl, w⟩ := tupQ_inv w
  exact (h _ _ _ w).2
theorem gtup {k n : Nat} {t : DGs} (hl : GLen t n) (hc : X.calm = true) (h : PGs X es (liftGs X.K Z t)) (hn : (assignEach es X.env).length = n := by rfl) (hst : (assignEach es X.env).findIdx? (·.1) = none := by rfl) : PG X (.Tuple es k pos) (liftG X.K Z true (dgT n t)) :=
  PG.of (pg_tup hc h hn hst) fun v σ H Q ⟨g, F, env, d, P, k, r, w, q⟩ => by
    obtain ⟨ds, rfl, w⟩ := tupQ_inv w
    obtain ⟨a, xs, rfl, h1, h2⟩ := r.tup
    exact ⟨a, xs, rfl, Evl.ex_t k.fh h1, h2.length.trans (hl _ _ _ w).1, g, F, env, _, P, k, h2, w, q⟩
/-- target = e, of a datum -/
def dAsg (t : DG) (we : DE) (E : DEnds) (env : List SD) : Prop := we env fun d env1 => t d env1 E.nx
theorem sasg {tg : Expr} {t : DG} {bb : Bool} (he : PE X e (liftE X.K Z we)) (hg : PG X tg (liftG X.K Z bb t)) (hs : swapsWithSole [tg] e pos.line X.env = pure false := by rfl) (hw : swappedStores [tg] e X.env = pure none := by rfl)
    (h1 : (assignEach [tg] X.env).map (·.2) = [assign tg X.env] := by rfl) : PS X (.Assign [tg] e pos) (liftS X.K Z m (dAsg t we)) := PS.of (ps_asg he hg hs hw h1) fun D σ H ⟨g, F, env, P, k, w, q⟩ =>
  ⟨g, F, env, _, k, w, fun d env1 v F1 H1 p e1 k1 r1 => ⟨g, F1, env1, d, _, k1, .inl r1, p, fun env2 σ2 F2 H2 p2 e2 k2 => q.nx env2 σ2 F2 H2 p2 (e1.trans e2) k2⟩⟩
/-- x, y = e, f -/
def dPar (i j : Nat) (was : DA) (E : DEnds) (env : List SD) : Prop := was env fun ds env1 => match ds with
  | [d, c] => bIf (noPar env1 i && noPar env1 j) (E.nx ((env1.set i (.dat d)).set j (.dat c))) False
  | _ => False
theorem noPar_set {env : List SD} {i j : Nat} {d : PyData} (h : noPar env j = true) : noPar (env.set i (.dat d)) j = true := by
  unfold noPar at h ⊢
  rw [List.getElem?_set]
  by_cases z : i = j
  · rw [if_pos z]
    by_cases y : i < env.length
    · rw [if_pos y]
      rfl
    · rw [if_neg y]
  · rw [if_neg z]
    exact h
theorem spar (i j : Nat) {x y : Str} {px py pt : Pos} {kt k2 pt2} (hc : X.calm = true) (hN : X.N.Nodup) (ha : PA X [a, b] (liftA X.K Z was)) (hi : X.N[i]? = some x := by rfl) (hj : X.N[j]? = some y := by rfl) (hij : i ≠ j := by decide)
    (hx : X.env.scope.names.lookup x = some .local := by rfl) (hy : X.env.scope.names.lookup y = some .local := by rfl)
    (hw : swappedStores [.Tuple [.Name x px, .Name y py] kt pt] (.Tuple [a, b] k2 pt2) X.env = pure (some [x, y]) := by rfl)
    (hs : swapsWithSole [.Tuple [.Name x px, .Name y py] kt pt] (.Tuple [a, b] k2 pt2) pos.line X.env = pure false := by rfl) :
    PS X (.Assign [.Tuple [.Name x px, .Name y py] kt pt] (.Tuple [a, b] k2 pt2) pos) (liftS X.K Z m (dPar i j was)) := PS.of (ps_par hc hN hi hj hij hx hy ha hw hs) fun D σ H ⟨g, F, env, P, k, w, q⟩ =>
  ⟨g, F, env, _, k, w, fun ds env1 vs F1 H1 p e1 k1 r1 => by
    split at p
    · obtain ⟨v, u, rfl, r2, r3⟩ := r1.inv2
      obtain ⟨np, p⟩ := bIf_and p
      rw [Bool.and_eq_true] at np
      exact ⟨v, u, rfl, q.nx _ _ F1 H1 p e1 ((k1.setD (noPar_of np.1) r2).setD (noPar_of (noPar_set np.2)) r3)⟩
    · exact p.elim⟩
/-- x[i] = e, x the name's own cell -/
def stQ (xs : List PyData) (y d : PyData) (K : List PyData → Prop) : Prop := match y with
  | .int n => (match ixN xs.length n with
    | some j => K (xs.set j d)
    | none => False)
  | _ => False
def dSetC (i : Nat) (wi we : DE) (E : DEnds) (env : List SD) : Prop := we env fun d env1 => match env1[i]? with
  | some (.cel _ _) => wi env1 fun y env2 => match env2[i]? with
    | some (.cel p xs) => stQ xs y d fun xs' => E.nx (env2.set i (.cel p xs'))
    | _ => False
  | _ => False
theorem ssetC (i : Nat) {x : Str} {p0 p1 : Pos} (he : PE X e (liftE X.K Z we)) (hi : PE X b (liftE X.K Z wb)) (hN : X.N[i]? = some x := by rfl) (hv : Vis X.env.scope x := by first | exact Or.inl rfl | exact Or.inr (Or.inl rfl) | exact Or.inr (Or.inr rfl)) (hd : (x == ("__debug__" : Str)) = false := by decide)
    (hcd : (x == ("__classdict__" : Str)) = false := by decide)
    (hs : swapsWithSole [.Subscript (.Name x p0) b p1] e pos.line X.env = pure false := by rfl) (hw : swappedStores [.Subscript (.Name x p0) b p1] e X.env = pure none := by rfl)
    (h1 : (assignEach [.Subscript (.Name x p0) b p1] X.env).map (·.2) = [assign (.Subscript (.Name x p0) b p1) X.env] := by rfl)
    (ha : ∀ v, assign (.Subscript (.Name x p0) b p1) X.env v = (do
      let ov ← holding [v] (eval (.Name x p0) X.env)
      let iv ← holding [v, ov] (eval b X.env)
      standAt p1
      holding [v, ov, iv] (setItem ov iv v)
      release [v, ov, iv] []) := by intro _; rfl) : PS X (.Assign [.Subscript (.Name x p0) b p1] e pos) (liftS X.K Z m (dSetC i wb we)) :=
  PS.of (ps_asg he (pg_sub (pe_var hN hv hd hcd) hi set_list ha) hs hw h1) fun D σ H ⟨g, F, env, P, k, w, q⟩ =>
  ⟨g, F, env, _, k, w, fun d env1 v F1 H1 p e1 k1 r1 => by
    split at p
    · rename_i p' xs' ex
      obtain ⟨a0, us0, b1, _⟩ := k1.cel i p' xs' ex
      refine ⟨_, b1, g, F1, env1, _, k1, p, fun d2 env2 v2 F2 H2 p2 e2 k2 r2 => ?_⟩
      split at p2
      · rename_i p3 xs ex2
        obtain ⟨n, rfl, p2⟩ : ∃ n, d2 = .int n ∧ stQ xs (.int n) d _ := by
          cases d2 <;> first | exact ⟨_, rfl, p2⟩ | exact p2.elim
        cases r2.inv_int
        unfold stQ at p2
        dsimp only at p2
        split at p2
        · rename_i j ej
          obtain ⟨a1, us1, c1, c2, c3, c4, _⟩ := k2.cel i p3 xs ex2
          rw [b1] at c1
          cases c1
          exact ⟨a0, us1, n, j, rfl, rfl, c3, by rw [c4.length]; exact ej, q.nx _ σ F2 _ p2 (e1.trans e2) (k2.write ex2 b1 (c4.set j (r1.mono e2)))⟩
        · exact p2.elim
      · exact p2.elim
    · exact p.elim⟩
/-- x.append(e) -/
def apQ (xs : List PyData) (d : PyData) (K : List PyData → Prop) : Prop := xs.length < 100000 ∧ K (xs ++ [d])
def dApp (i : Nat) (we : DE) (E : DEnds) (env : List SD) : Prop := match env[i]? with
  | some (.cel _ _) => we env fun d env1 => match env1[i]? with
    | some (.cel p xs) => apQ xs d fun xs' => E.nx (env1.set i (.cel p xs'))
    | _ => False
  | _ => False
theorem sapp (i : Nat) {x : Str} {p0 apos cpos : Pos} (he : PE X e (liftE X.K Z we)) (hN : X.N[i]? = some x := by rfl) (hv : Vis X.env.scope x := by first | exact Or.inl rfl | exact Or.inr (Or.inl rfl) | exact Or.inr (Or.inr rfl)) (hd : (x == ("__debug__" : Str)) = false := by decide)
    (hcd : (x == ("__classdict__" : Str)) = false := by decide)
    (h1 : attributeBase (.Name x p0) "append" X.env (eval (.Name x p0) X.env) = eval (.Name x p0) X.env := by rfl)
    (h2 : ((backTo cpos (starEach [e] X.env)).all (!·.1) && (backToKw cpos (keywordEach [] X.env)).all (·.1.isSome) && decide ([e].length + ([] : List Keyword).length + (if ([] : List Keyword).isEmpty then 0 else 1) < 30)) = true := by rfl)
    (h3 : (apos.endLine == cpos.line) = true := by rfl)
    (h4 : starEach [e] X.env = (false, eval e X.env) :: starEach [] X.env := by rfl) (h5 : (backTo cpos (starEach [] X.env)).any (·.1) = false := by rfl)
    (hs : swapsWith (.Call (.Attribute (.Name x p0) "append" apos) [e] [] cpos) none pos.line X.env = pure false := by rfl) :
    PS X (.Expr (.Call (.Attribute (.Name x p0) "append" apos) [e] [] cpos) pos) (liftS X.K Z m (dApp i we)) :=
  PS.of (ps_expr (pe_bm PySem.F.plainAttrs_list PySem.F.slot_list_append PySem.F.type_list_append mt_append (pe_var hN hv hd hcd) (pa_cons he pa_nil h4) h1 h2 h3 h4 h5) hs) fun D σ H ⟨g, F, env, P, k, w, q⟩ => by
    unfold dApp at w
    split at w
    · rename_i p' xs' ex
      obtain ⟨a0, us0, b1, _, b3, _⟩ := k.cel i p' xs' ex
      refine ⟨_, b1, .inl ⟨rfl, us0, SqL.of b3⟩, g, F, env, _, k, w, fun d env1 v F1 H1 p e1 k1 r1 => ?_⟩
      split at p
      · rename_i p3 xs ex2
        obtain ⟨a1, us1, c1, c2, c3, c4, _⟩ := k1.cel i p3 xs ex2
        rw [b1] at c1
        cases c1
        exact ⟨a0, us1, v, rfl, rfl, c3, by rw [c4.length]; exact Evl.sz_lt p.1, q.nx _ σ F1 _ p.2 e1 (k1.write ex2 b1 (c4.append (.one r1)))⟩
      · exact p.elim
    · exact w.elim
/-- x op= e, numbers -/
def dAug (i : Nat) (f : Int → Int → Int) (we : DE) (E : DEnds) (env : List SD) : Prop := match env[i]? with
  | some (.dat x) => we env fun d env1 => oI (fun n m => .int (f n m)) x d fun z => bIf (noPar env1 i) (E.nx (env1.set i (.dat z))) False
  | _ => False
theorem saug (i : Nat) {x : Str} {pos' : Pos} {op : Operator} {f : Int → Int → Int} (ho : PIp X op (ipI f)) (hN : X.N.Nodup) (he : PE X e (liftE X.K Z we)) (hi : X.N[i]? = some x := by rfl) (hx : Loc X.env.scope x := by first | exact Or.inl rfl | exact Or.inr rfl)
    (hf : X.fn x = true ∨ X.env.scope.names.lookup x = some .local := by first | exact .inl rfl | exact .inr rfl) : PS X (.AugAssign (.Name x pos') op e pos) (liftS X.K Z m (dAug i f we)) :=
  PS.of (ps_aug hN hi hx he ho hf) fun D σ H ⟨g, F, env, P, k, w, q⟩ => by
    unfold dAug at w
    split at w
    · rename_i n ex
      obtain ⟨v0, b1, b2⟩ := k.dat i _ ex
      refine ⟨_, b1, g, F, env, _, k, w, fun d env1 v F1 H1 p e1 k1 r1 => ?_⟩
      unfold oI at p
      split at p
      · cases b2.inv_int
        cases r1.inv_int
        exact ⟨_, _, rfl, rfl, q.nx _ _ F1 H1 (bIf_and p).2 e1 (k1.setD (noPar_of (bIf_and p).1) (.int _))⟩
      · exact p.elim
    · exact w.elim

/-! ### while -/
abbrev RT := SD → List SD → Prop
def decP {I S : Type} (is : List Nat) (dec : List SD → Option (I × S)) (N : I → S → Prop) (env : List SD) : Prop := match dec (unS is env) with
  | some (i, s) => N i s
  | none => False
theorem decP_inv {I S : Type} {is : List Nat} {dec : List SD → Option (I × S)} {N : I → S → Prop} {env : List SD} (h : decP is dec N env) : ∃ i s, dec (unS is env) = some (i, s) ∧ N i s := by
  unfold decP at h
  split at h
  · exact ⟨_, _, ‹_›, h⟩
  · exact h.elim
/-- the state behind: what a loop doesn't change stays -/
def same {I S : Type} (i : I) (N : S → Prop) (i' : I) (s : S) : Prop := i' = i ∧ N s
def qWhileN {I S : Type} (b : I → S → (I → S → Prop) → (I → S → Prop) → Prop) (i : I) : Nat → S → (S → Prop) → Prop
  | 0, _, _ => False
  | n + 1, s, K => b i s (same i fun s => qWhileN b i n s K) (same i K)
def qWhile {I S : Type} (b : I → S → (I → S → Prop) → (I → S → Prop) → Prop) (i : I) (s : S) (K : S → Prop) : Prop := ∃ n, qWhileN b i n s K
def dWhileQ {κ I S : Type} (is : List Nat) (dec : List SD → Option (I × S)) (emb : I → S → List SD) (kk : RT → κ) (qb : κ → I → S → (I → S → Prop) → (I → S → Prop) → Prop) (E : DEnds) (env : List SD) : Prop :=
  decP is dec (fun i s => qWhile (qb (kk E.rt)) i s fun s => E.nx (emb i s)) env
theorem swhileQ {κ I S : Type} (is : List Nat) (dec : List SD → Option (I × S)) (emb : I → S → List SD) (kk : RT → κ) (qb : κ → I → S → (I → S → Prop) → (I → S → Prop) → Prop)
    (hde : ∀ env i s, dec env = some (i, s) → env = emb i s) {c : Expr} {body : List Stmt} {t : DT} (hp : PassesOwn (model X.prog X.w) X.A X.env X.xe) (hc : PT X c (liftT X.K Z t)) (hb : PSs X body (liftS X.K Z m w))
    (hq : ∀ (R : RT) (i : I) (s : S) (nx bk : I → S → Prop), qb (kk R) i s nx bk → t (emb i s) fun b env1 => bIf b (w { nx := decP is dec nx, ct := decP is dec nx, bk := decP is dec bk, rt := R } env1) (decP is dec bk env1)) :
    PS X (.While c body [] pos) (liftS X.K Z m (dWhileQ is dec emb kk qb)) :=
  PS.of (ps_while hp hc hb) fun D σ H ⟨g, F, env, P, k, w0, q⟩ => by
    obtain ⟨i0, s0, d0, n, w0⟩ := decP_inv w0
    have fin : ∀ {env' : List SD} {σ' : L2.St} {F' H' : Hp}, decP is dec (same i0 fun s => P.nx (emb i0 s)) env' → Ex F F' → Ok X.K g F' env' σ' H' → D.nx σ' H' := fun {env' σ' F' H'} p e k => by
      obtain ⟨i, s, d, rfl, p⟩ := decP_inv p
      have k2 := k.unS (is := is)
      rw [hde _ _ _ d] at k2
      exact q.nx _ _ _ _ p e k2
    refine ⟨fun m σ' H' => ∃ env' F', Ex F F' ∧ Ok X.K g F' env' σ' H' ∧ decP is dec (same i0 fun s => qWhileN (qb (kk P.rt)) i0 m s fun s => P.nx (emb i0 s)) env', ⟨n, env, F, Ex.refl F, k, by unfold decP; rw [d0]; exact ⟨rfl, w0⟩⟩, fun m σ' H' ⟨env', F', e1, k1, w1⟩ => ?_⟩
    obtain ⟨i, s, d, rfl, w1⟩ := decP_inv w1
    have k2 := k1.unS (is := is)
    rw [hde _ _ _ d] at k2
    cases m with
    | zero => exact w1.elim
    | succ m =>
      refine ⟨g, F', _, _, k2, hq P.rt i s _ _ w1, fun b env2 F2 H2 p2 e2 k2 => ?_⟩
      cases b with
      | false => exact iteF (fin p2 (e1.trans e2) k2)
      | true =>
        refine iteT ⟨fun σ3 H3 => ∃ env' F', Ex F F' ∧ Ok X.K g F' env' σ3 H3 ∧ decP is dec (same i fun s => qWhileN (qb (kk P.rt)) i m s fun s => P.nx (emb i s)) env', fun σ3 H3 h3 => ⟨m, Nat.lt_succ_self m, h3⟩, g, F2, env2, _, k2, p2, ?_⟩
        have e12 := e1.trans e2
        exact .mk4 (.mk (fun env3 σ3 F3 H3 p3 e3 k3 => ⟨env3, F3, e12.trans e3, k3, p3⟩) (fun env3 σ3 F3 H3 p3 e3 k3 => fin p3 (e12.trans e3) k3) (fun env3 σ3 F3 H3 p3 e3 k3 => ⟨env3, F3, e12.trans e3, k3, p3⟩) (fun r env3 v σ3 F3 H3 p3 e3 k3 r3 => q.rt r env3 v σ3 F3 H3 p3 (e12.trans e3) k3 r3)) rfl

/-! ### what is walked -/
abbrev DI := List SD → (List PyData → List SD → Prop) → Prop
def Yld (K : PySem.W.Frag) (b : Bool) (F H : Hp) (x : V) (H' : Hp) (d : PyData) : Prop := (H' = H ∧ DR K F x d) ∨ b = true ∧ ∃ T xs ds, x = .ref T ∧ H T = none ∧ H' = upd H T (.tup xs) ∧ d = .tuple ds ∧ DRs K F xs ds
structure WalkD (K : PySem.W.Frag) (b : Bool) (F : Hp) (J : It) (items : List PyData) : Prop where
  ex : ∃ G Y, Walk J items.length G Y ∧ (∀ H, Ex F H → G H) ∧ ∀ i H x H' d, Ex F H → items[i]? = some d → Y i H x H' → Yld K b F H x H' d
def liftI (K : PySem.W.Frag) (Z : Zx) (b : Bool) (w : DI) : TI := fun σ H R => ∃ (g : Gx Z) (F : Hp) (env : List SD) (P : List PyData → List SD → Prop), Ok K g F env σ H ∧ w env P ∧
  ∀ items env' J F' H', P items env' → Ex F F' → Ok K g F' env' σ H' → WalkD K b F' J items → R J H'
theorem PI.of {tg e : Expr} {t t' : TI} (h : PI X tg e t) (w : ∀ σ H R, t' σ H R → t σ H R) : PI X tg e t' := ⟨fun pins s σ H R I q => h.run pins s σ H R I (w σ H R q)⟩
theorem Ok.yld {K : PySem.W.Frag} {b : Bool} {g : Gx Z} {F F0 : Hp} {env : List SD} {σ : L2.St} {H H' : Hp} {x : V} {d : PyData} (k : Ok K g F env σ H) (e : Ex F0 F) (y : Yld K b F0 H x H' d) : ∃ F', Ex F F' ∧ Ok K g F' env σ H' ∧ DRw K b F' x d := by
  rcases y with ⟨rfl, r⟩ | ⟨hb, T, xs, ds, rfl, hT, rfl, rfl, r⟩
  · exact ⟨F, Ex.refl F, k, .inl (r.mono e)⟩
  · have ex : Ex F (upd F T (.tup xs)) := Ex.new (fnone k.fh hT)
    exact ⟨_, ex, k.alloc hT, .inr ⟨hb, T, xs, ds, rfl, rfl, SqT.of upd_same, (r.mono e).mono ex⟩⟩
/-- lo, lo + 1, .. -/
def rangeD (lo : Int) (n : Nat) : List PyData := (List.range n).map fun (i : Nat) => .int (lo + i)
theorem walkD_range {K : PySem.W.Frag} {b : Bool} {F : Hp} (lo : Int) (n : Nat) : WalkD K b F (Itr lo n) (rangeD lo n) := by
  refine ⟨fun _ => True, YFn fun i => .int (lo + i), by rw [show (rangeD lo n).length = n by simp [rangeD]]; exact walk_range, fun _ _ => trivial, fun i H x H' d _ e y => .inl ⟨y.1, ?_⟩⟩
  have y2 := y.2
  subst y2
  unfold rangeD at e
  rw [List.getElem?_map] at e
  by_cases hi : i < n
  · rw [List.getElem?_range hi] at e
    cases e
    exact .int _
  · rw [List.getElem?_eq_none (by simp; omega)] at e
    cases e
abbrev QI := List PyData → (List PyData → Prop) → Prop
/-- what is walked, by arguments -/
def dIt (f : QI) (was : DA) (env : List SD) (P : List PyData → List SD → Prop) : Prop := was env fun ds env' => f ds fun items => P items env'
/-- K of l, sealed: the kernel doesn't look at what is walked -/
inductive At (l : List PyData) (K : List PyData → Prop) : Prop
  | mk : K l → At l K
theorem At.out {l : List PyData} {K : List PyData → Prop} (h : At l K) : K l := by
  cases h with
  | mk h => exact h
theorem At.eq {l : List PyData} {K : List PyData → Prop} : At l K = K l := propext ⟨At.out, At.mk⟩
def rng1 (ds : List PyData) (K : List PyData → Prop) : Prop := match ds with
  | [.int n] => (-1000000 ≤ n ∧ n ≤ 1000000) ∧ At (rangeD 0 n.toNat) K
  | _ => False
def rng2 (ds : List PyData) (K : List PyData → Prop) : Prop := match ds with
  | [.int m, .int n] => (-1000000 ≤ m ∧ m ≤ 1000000 ∧ -1000000 ≤ n ∧ n ≤ 1000000) ∧ At (rangeD m (n - m).toNat) K
  | _ => False
theorem irange1 {tg : Expr} {bb : Bool} {p : Pos} (hm : X.mg "range" = none) (ha : PA X [a] (liftA X.K Z was)) (hg : Gl X "range" := by rfl) (hs : starEach [a] X.env = [(false, eval a X.env)] := by rfl) : PI X tg (.Call (.Name "range" p) [a] [] pos) (liftI X.K Z bb (dIt rng1 was)) :=
  PI.of (pi_range1 hg hm ha hs) fun σ H R ⟨g, F, env, P, k, w, q⟩ => ⟨g, F, env, _, k, w, fun ds env1 vs F1 H1 p e1 k1 r1 => by
    unfold rng1 at p
    split at p
    · obtain ⟨v, rfl, r2⟩ := r1.inv1
      cases r2.inv_int
      have p1 := p.1
      exact ⟨_, rfl, by omega, by omega, q _ env1 _ F1 H1 p.2.out e1 k1 (walkD_range 0 _)⟩
    · exact p.elim⟩
theorem irange2 {tg : Expr} {bb : Bool} {p : Pos} (hm : X.mg "range" = none) (ha : PA X [a, b] (liftA X.K Z was)) (hg : Gl X "range" := by rfl) (hs : starEach [a, b] X.env = [(false, eval a X.env), (false, eval b X.env)] := by rfl) (hs2 : starEach [b] X.env = [(false, eval b X.env)] := by rfl) :
    PI X tg (.Call (.Name "range" p) [a, b] [] pos) (liftI X.K Z bb (dIt rng2 was)) :=
  PI.of (pi_range2 hg hm ha hs hs2) fun σ H R ⟨g, F, env, P, k, w, q⟩ => ⟨g, F, env, _, k, w, fun ds env1 vs F1 H1 p e1 k1 r1 => by
    unfold rng2 at p
    split at p
    · obtain ⟨v, u, rfl, r2, r3⟩ := r1.inv2
      cases r2.inv_int
      cases r3.inv_int
      have p1 := p.1
      exact ⟨_, _, rfl, ⟨by omega, by omega, by omega, by omega⟩, q _ env1 _ F1 H1 p.2.out e1 k1 (walkD_range _ _)⟩
    · exact p.elim⟩
theorem walkD_list {K : PySem.W.Frag} {bb : Bool} {F : Hp} {a : Addr} {xs : List V} {ds : List PyData} (h : RdL K F a xs) (r : DRs K F xs ds) : WalkD K bb F (Itl K a) ds :=
  ⟨fun H => SqL K H a xs, YAt xs, by rw [← r.length]; exact walk_list (xs := xs), fun H e => (h.mono e).sq, fun i H x H' d _ e y => .inl ⟨y.1, by
    obtain ⟨v, h1, h2⟩ := r.get e
    have y2 := y.2
    rw [h1] at y2
    cases y2
    exact h2⟩⟩
theorem walkD_tup {K : PySem.W.Frag} {bb : Bool} {F : Hp} {a : Addr} {xs : List V} {ds : List PyData} (h : SqT K F a xs) (r : DRs K F xs ds) : WalkD K bb F (Itt K a) ds :=
  ⟨fun H => SqT K H a xs, YAt xs, by rw [← r.length]; exact walk_tup (xs := xs), fun H e => Evl.ex_t e h, fun i H x H' d _ e y => .inl ⟨y.1, by
    obtain ⟨v, h1, h2⟩ := r.get e
    have y2 := y.2
    rw [h1] at y2
    cases y2
    exact h2⟩⟩
/-- a text's signs -/
@[irreducible] def signsD (x : Str) : List PyData := x.cps.toList.map fun c => .str ⟨#[c]⟩
theorem walkD_str {K : PySem.W.Frag} {bb : Bool} {F : Hp} (x : Str) : WalkD K bb F (Its x) (signsD x) :=
  ⟨fun _ => True, fun i H v H' => H' = H ∧ ∃ c, x.cps[i]? = some c ∧ v = .str ⟨#[c]⟩, by rw [show (signsD x).length = x.cps.size by unfold signsD; simp]; exact walk_str, fun _ _ => trivial, fun i H v H' d _ e y => .inl ⟨y.1, by
    obtain ⟨c, h1, rfl⟩ := y.2
    unfold signsD at e
    rw [List.getElem?_map, Array.getElem?_toList, h1] at e
    cases e
    exact .str _⟩⟩
/-- over a list, a tuple or a text -/
def iSeq (K : PySem.W.Frag) (tl : TE) : TI := fun σ H R => tl σ H fun x H1 => (∃ a, x = .ref a ∧ ((∃ xs, SqL K H1 a xs ∧ R (Itl K a) H1) ∨ ∃ xs, SqT K H1 a xs ∧ R (Itt K a) H1)) ∨ ∃ z, x = .str z ∧ R (Its z) H1
theorem pi_seq {tg l : Expr} {tl : TE} (hl : PE X l tl) : PI X tg l (iSeq X.K tl) := by
  refine ⟨fun pins s σ H R I h => thn (hl.run pins s σ H _ I h) fun v s1 ⟨x, H1, I1, r1, q1⟩ => ?_⟩
  rcases q1 with ⟨a, ea, q1⟩ | ⟨z, ez, q⟩
  · subst ea
    cases r1
    have fo : ∀ b ∈ [s1.heap.objs.size], FpOk X pins H1 b := fun b hb => by
      rw [List.mem_singleton.mp hb]
      exact I1.fpOk (Nat.le_refl _) (I1.hok.fresh (Nat.le_refl _))
    rcases q1 with ⟨xs, hq, q⟩ | ⟨xs, hq, q⟩
    · obtain ⟨its, rv, pl, hz⟩ := I1.list hq
      exact wpAny_pyIter_list pl.isList ⟨s1.heap.objs.size, [s1.heap.objs.size], _, _, H1, rfl, I1.kept (t' := s1.toks) (fun b o e => Heap.get?_push_of_some _ e), turn_list a _, ⟨_, Heap.get?_push_size _ rfl, rfl, rfl⟩, fo, q⟩
    · obtain ⟨its, rv, pl, hz⟩ := I1.tuple hq
      exact wpAny_pyIter_tuple (show s1.heap.IsTuple a its.toArray from pl) ⟨s1.heap.objs.size, [s1.heap.objs.size], _, _, H1, rfl, I1.kept (t' := s1.toks) (fun b o e => Heap.get?_push_of_some _ e), turn_tuple a _, ⟨_, Heap.get?_push_size _ rfl, rfl, rfl⟩, fo, q⟩
  · subst ez
    obtain ⟨t, rfl⟩ := r1
    cases ha : z.cps.all (· < 128)
    · exact wpAny_pyIter_wide ha (pi_one (tk := s1.toks) I1 _ (turn_str _ z t "str_iterator" (.inr rfl)) ⟨_, Heap.get?_push_size _ rfl, rfl, rfl⟩ q)
    · exact wpAny_pyIter_ascii ha (pi_one (tk := s1.toks) I1 _ (turn_str _ z t "str_ascii_iterator" (.inl rfl)) ⟨_, Heap.get?_push_size _ rfl, rfl, rfl⟩ q)
def itemsQ (d : PyData) (K : List PyData → Prop) : Prop := match d with
  | .list ds => At ds K
  | .tuple ds => At ds K
  | .str x => At (signsD x) K
  | _ => False
def dItF (f : PyData → (List PyData → Prop) → Prop) (we : DE) (env : List SD) (P : List PyData → List SD → Prop) : Prop := we env fun d env' => f d fun ds => P ds env'
theorem iseq {tg : Expr} {bb : Bool} (he : PE X e (liftE X.K Z we)) : PI X tg e (liftI X.K Z bb (dItF itemsQ we)) := PI.of (pi_seq he) fun σ H R ⟨g, F, env, P, k, w, q⟩ => ⟨g, F, env, _, k, w, fun d env1 v F1 H1 p e1 k1 r1 => by
  unfold itemsQ at p
  split at p
  · obtain ⟨a, xs, rfl, h1, h2⟩ := r1.inv_lst
    exact .inl ⟨a, rfl, .inl ⟨xs, (h1.mono k1.fh).sq, q _ env1 _ F1 H1 p.out e1 k1 (walkD_list h1 h2)⟩⟩
  · obtain ⟨a, xs, rfl, h1, h2⟩ := r1.inv_tup
    exact .inl ⟨a, rfl, .inr ⟨xs, Evl.ex_t k1.fh h1, q _ env1 _ F1 H1 p.out e1 k1 (walkD_tup h1 h2)⟩⟩
  · cases r1.inv_str
    exact .inr ⟨_, rfl, q _ env1 _ F1 H1 p.out e1 k1 (walkD_str _)⟩
  · exact p.elim⟩
/-- zip of two lists, of two tuples -/
def zipD : List PyData → List PyData → List PyData
  | x :: xs, y :: ys => .tuple [x, y] :: zipD xs ys
  | _, _ => []
theorem zipD_length : ∀ xs ys : List PyData, (zipD xs ys).length = min xs.length ys.length
  | [], _ => by simp [zipD]
  | _ :: _, [] => by simp [zipD]
  | x :: xs, y :: ys => by simp [zipD, zipD_length xs ys]
theorem zipD_get : ∀ {xs ys : List PyData} {i : Nat} {d : PyData}, (zipD xs ys)[i]? = some d → ∃ x y, xs[i]? = some x ∧ ys[i]? = some y ∧ d = .tuple [x, y]
  | [], _, _, _, h => by simp [zipD] at h
  | _ :: _, [], _, _, h => by simp [zipD] at h
  | x :: xs, y :: ys, 0, d, h => by simp [zipD] at h; exact ⟨x, y, rfl, rfl, h.symm⟩
  | x :: xs, y :: ys, i + 1, d, h => by
    obtain ⟨u, v, h1, h2, h3⟩ := zipD_get (xs := xs) (ys := ys) (i := i) (d := d) (by simpa [zipD] using h)
    exact ⟨u, v, by simpa using h1, by simpa using h2, h3⟩
theorem walk_zipT {K : PySem.W.Frag} {a b : Addr} {xs ys : List V} : Walk (RZ.ItzT K a b) (min xs.length ys.length) (fun H => SqT K H a xs ∧ SqT K H b ys) (YPair (fun i => xs[i]?) (fun i => ys[i]?)) :=
  ⟨fun i H hi q => ⟨xs, ys, xs[i]'(by omega), ys[i]'(by omega), q.1, q.2, by simp [show i < xs.length by omega], by simp [show i < ys.length by omega]⟩,
   fun H q => ⟨xs, ys, q.1, q.2, by omega⟩,
   fun i H x H' hi q y => by
    obtain ⟨T, u, v, h1, h2, h3, h4, h5⟩ := y
    exact ⟨T, u, v, h1, h2, h3, h4 xs q.1, h5 ys q.2⟩⟩
def zipQ (ds : List PyData) (K : List PyData → Prop) : Prop := match ds with
  | [.list xs, .list ys] => At (zipD xs ys) K
  | [.tuple xs, .tuple ys] => At (zipD xs ys) K
  | _ => False
theorem yld_pair {K : PySem.W.Frag} {F H H' : Hp} {us ws : List V} {xs ys : List PyData} {x : V} {i : Nat} {d : PyData} (r : DRs K F us xs) (r2 : DRs K F ws ys) (e : (zipD xs ys)[i]? = some d) (y : YPair (fun i => us[i]?) (fun i => ws[i]?) i H x H') : Yld K true F H x H' d := by
  obtain ⟨T, u, v, h1, h2, h3, h4, h5⟩ := y
  obtain ⟨dx, dy, e1, e2, rfl⟩ := zipD_get e
  obtain ⟨u', z1, z2⟩ := r.get e1
  obtain ⟨v', y1, y2⟩ := r2.get e2
  dsimp only at h4 h5
  rw [z1] at h4
  rw [y1] at h5
  cases h4
  cases h5
  exact .inr ⟨rfl, T, _, _, h1, h2, h3, rfl, .cons z2 (.one y2)⟩
theorem walkD_zipL {K : PySem.W.Frag} {F : Hp} {a b : Addr} {us ws : List V} {xs ys : List PyData} (h1 : RdL K F a us) (h3 : RdL K F b ws) (h2 : DRs K F us xs) (h4 : DRs K F ws ys) : WalkD K true F (Itz K a b) (zipD xs ys) :=
  ⟨fun H => SqL K H a us ∧ SqL K H b ws, YPair (fun i => us[i]?) (fun i => ws[i]?), walk_zip (by rw [zipD_length, h2.length, h4.length]), fun H e => ⟨(h1.mono e).sq, (h3.mono e).sq⟩, fun i H x H' d _ e y => yld_pair h2 h4 e y⟩
theorem walkD_zipT {K : PySem.W.Frag} {F : Hp} {a b : Addr} {us ws : List V} {xs ys : List PyData} (h1 : SqT K F a us) (h3 : SqT K F b ws) (h2 : DRs K F us xs) (h4 : DRs K F ws ys) : WalkD K true F (RZ.ItzT K a b) (zipD xs ys) :=
  ⟨fun H => SqT K H a us ∧ SqT K H b ws, YPair (fun i => us[i]?) (fun i => ws[i]?), by rw [zipD_length, ← h2.length, ← h4.length]; exact walk_zipT, fun H e => ⟨Evl.ex_t e h1, Evl.ex_t e h3⟩, fun i H x H' d _ e y => yld_pair h2 h4 e y⟩
theorem izip {elts : List Expr} {kk : Nat} {tpos p : Pos} (hm : X.mg "zip" = none) (ha : PA X [a, b] (liftA X.K Z was)) (hg : Gl X "zip" := by rfl) (hs : starEach [a, b] X.env = (false, eval a X.env) :: starEach [b] X.env := by rfl)
    (hpl : (backTo pos (starEach [b] X.env)).any (·.1) = false := by rfl) : PI X (.Tuple elts kk tpos) (.Call (.Name "zip" p) [a, b] [] pos) (liftI X.K Z true (dIt zipQ was)) :=
  PI.of (RZ.pi_zipA hg hm ha hs hpl) fun σ H R ⟨g, F, env, P, k, w, q⟩ => ⟨g, F, env, _, k, w, fun ds env1 vs F1 H1 p e1 k1 r1 => by
    unfold zipQ at p
    split at p
    · obtain ⟨v, u, rfl, r2, r3⟩ := r1.inv2
      obtain ⟨a, us, rfl, h1, h2⟩ := r2.inv_lst
      obtain ⟨b, ws, rfl, h3, h4⟩ := r3.inv_lst
      exact ⟨a, b, us, ws, rfl, .inl ⟨(h1.mono k1.fh).sq, (h3.mono k1.fh).sq, q _ env1 _ F1 H1 p.out e1 k1 (walkD_zipL h1 h3 h2 h4)⟩⟩
    · obtain ⟨v, u, rfl, r2, r3⟩ := r1.inv2
      obtain ⟨a, us, rfl, h1, h2⟩ := r2.inv_tup
      obtain ⟨b, ws, rfl, h3, h4⟩ := r3.inv_tup
      exact ⟨a, b, us, ws, rfl, .inr ⟨Evl.ex_t k1.fh h1, Evl.ex_t k1.fh h3, q _ env1 _ F1 H1 p.out e1 k1 (walkD_zipT h1 h3 h2 h4)⟩⟩
    · exact p.elim⟩

/-! ### for -/
def qFor {I S : Type} (b : PyData → I → S → (I → S → Prop) → (I → S → Prop) → Prop) (i : I) : List PyData → S → (S → Prop) → Prop
  | [], s, K => K s
  | d :: r, s, K => b d i s (same i fun s => qFor b i r s K) (same i K)
def dForQ {κ I S : Type} (is : List Nat) (dec : List SD → Option (I × S)) (emb : I → S → List SD) (kk : RT → κ) (qb : κ → PyData → I → S → (I → S → Prop) → (I → S → Prop) → Prop) (wi : DI) (E : DEnds) (env : List SD) : Prop :=
  wi env fun items env1 => decP is dec (fun i s => qFor (qb (kk E.rt)) i items s fun s => E.nx (emb i s)) env1
theorem sforQ {κ I S : Type} (is : List Nat) (dec : List SD → Option (I × S)) (emb : I → S → List SD) (kk : RT → κ) (qb : κ → PyData → I → S → (I → S → Prop) → (I → S → Prop) → Prop)
    (hde : ∀ env i s, dec env = some (i, s) → env = emb i s) {tg iter : Expr} {body : List Stmt} {wi : DI} {t : DG} {bb : Bool} (hp : PassesOwn (model X.prog X.w) X.A X.env X.xe) (hc : X.calm = true) (hi : PI X tg iter (liftI X.K Z bb wi)) (hg : PG X tg (liftG X.K Z bb t)) (hb : PSs X body (liftS X.K Z m w))
    (hq : ∀ (R : RT) (d : PyData) (i : I) (s : S) (nx bk : I → S → Prop), qb (kk R) d i s nx bk → t d (emb i s) fun env1 => w { nx := decP is dec nx, ct := decP is dec nx, bk := decP is dec bk, rt := R } env1)
    (hs : ∀ x, foldedSetIterable iter X.env x = pure x := by intro _; rfl) : PS X (.For tg iter body [] pos) (liftS X.K Z m (dForQ is dec emb kk qb wi)) :=
  PS.of (ps_for hp hc hi hg hb hs) fun D σ H ⟨g, F, env, P, k, w0, q⟩ => ⟨g, F, env, _, k, w0, fun items env1 J F1 H1 p e1 k1 ⟨G, Y, wk, hG, hY⟩ => by
    have q := q.ex e1
    obtain ⟨i0, s0, d0, p⟩ := decP_inv p
    have fin : ∀ {env' : List SD} {σ' : L2.St} {F' H' : Hp}, decP is dec (same i0 fun s => P.nx (emb i0 s)) env' → Ex F1 F' → Ok X.K g F' env' σ' H' → D.nx σ' H' := fun {env' σ' F' H'} p e k => by
      obtain ⟨i, s, d, rfl, p⟩ := decP_inv p
      have k2 := k.unS (is := is)
      rw [hde _ _ _ d] at k2
      exact q.nx _ _ _ _ p e k2
    refine for_it wk (fun j σ' H' => ∃ env' F', Ex F1 F' ∧ Ok X.K g F' env' σ' H' ∧ decP is dec (same i0 fun s => qFor (qb (kk P.rt)) i0 (items.drop j) s fun s => P.nx (emb i0 s)) env') ⟨env1, F1, Ex.refl F1, k1, by unfold decP; rw [d0]; exact ⟨rfl, p⟩⟩ (fun i σ' H' _ ⟨env', F', e2, k2, _⟩ => hG H' (e2.trans k2.fh)) (fun j x σ' H' H2 hj ⟨env', F', e2, k2, w2⟩ y => ?_) fun σ' H' ⟨env', F', e2, k2, w2⟩ => ?_
    · obtain ⟨i, s, de, rfl, w3⟩ := decP_inv w2
      have k2 := k2.unS (is := is)
      rw [hde _ _ _ de] at k2
      have hd : items.drop j = items[j] :: items.drop (j + 1) := List.drop_eq_getElem_cons hj
      rw [hd] at w3
      obtain ⟨F3, e3, k3, r3⟩ := k2.yld e2 (hY j H' x H2 items[j] (e2.trans k2.fh) (by simp [hj]) y)
      have e13 := e2.trans e3
      refine ⟨g, F3, _, _, _, k3, r3, hq P.rt _ i s _ _ w3, fun env4 σ4 F4 H4 p4 e4 k4 => ⟨g, F4, env4, _, k4, p4, ?_⟩⟩
      have e14 := e13.trans e4
      exact .mk4 (.mk (fun env5 σ5 F5 H5 p5 e5 k5 => ⟨env5, F5, e14.trans e5, k5, p5⟩) (fun env5 σ5 F5 H5 p5 e5 k5 => fin p5 (e14.trans e5) k5) (fun env5 σ5 F5 H5 p5 e5 k5 => ⟨env5, F5, e14.trans e5, k5, p5⟩) (fun r env5 v σ5 F5 H5 p5 e5 k5 r5 => q.rt r env5 v σ5 F5 H5 p5 (e14.trans e5) k5 r5)) rfl
    · rw [List.drop_length] at w2
      exact fin w2 e2 k2⟩
end
end DL

/-! The data layer, part 6: comprehensions; a def by its body; the end. -/
namespace DL
variable {Z : Zx}
open PySem PySem.Spec PyProof.Rows L2
open Evl (Ex)

/-! ### slots forgotten, slots set -/
def wipeD (env : List SD) : List Nat → List SD
  | [] => env
  | v :: vs => (wipeD env vs).set v .un
def setAll (σ : L2.St) : List Nat → List V → L2.St
  | i :: is, v :: vs => setAll (σ.set i (some v)) is vs
  | _, _ => σ
def setAllD (env : List SD) : List Nat → List PyData → List SD
  | i :: is, d :: ds => setAllD (env.set i (.dat d)) is ds
  | _, _ => env
theorem wipe_get (σ : L2.St) : ∀ (vs : List Nat) (j : Nat), (wipe σ vs)[j]? = if j ∈ vs then (σ[j]?).map (fun _ => none) else σ[j]?
  | [], j => by simp [wipe]
  | v :: vs, j => by
    unfold wipe
    rw [List.getElem?_set]
    by_cases h : v = j
    · subst h
      rw [if_pos rfl, if_pos List.mem_cons_self, wipe_length]
      by_cases hl : v < σ.length
      · rw [if_pos hl]
        simp [hl]
      · rw [if_neg hl]
        simp [Nat.le_of_not_lt hl]
    · rw [if_neg h, wipe_get σ vs j]
      by_cases hj : j ∈ vs
      · rw [if_pos hj, if_pos (List.mem_cons_of_mem _ hj)]
      · rw [if_neg hj, if_neg (fun z => (List.mem_cons.mp z).elim (fun z => h z.symm) hj)]
theorem wipe_set {σ : L2.St} {vs : List Nat} {i : Nat} {o : Option V} (h : i ∈ vs) : wipe (σ.set i o) vs = wipe σ vs := List.ext_getElem? fun j => by
  rw [wipe_get, wipe_get]
  by_cases hj : j ∈ vs
  · rw [if_pos hj, if_pos hj, List.getElem?_set]
    by_cases e : i = j
    · subst e
      rw [if_pos rfl]
      by_cases hl : i < σ.length
      · simp [hl]
      · rw [if_neg hl]
        simp [Nat.le_of_not_lt hl]
    · rw [if_neg e]
  · have ne : i ≠ j := fun e => by subst e; exact hj h
    rw [if_neg hj, if_neg hj, List.getElem?_set, if_neg ne]
theorem wipe_all {vs : List Nat} : ∀ {is : List Nat} {us : List V} {σ : L2.St}, (∀ i ∈ is, i ∈ vs) → wipe (setAll σ is us) vs = wipe σ vs
  | [], _, _, _ => by simp [setAll]
  | i :: is, [], _, _ => by simp [setAll]
  | i :: is, u :: us, σ, h => by
    unfold setAll
    rw [wipe_all (fun j hj => h j (List.mem_cons_of_mem _ hj)), wipe_set (h i List.mem_cons_self)]
theorem wipe_wipe {vs : List Nat} {σ : L2.St} : wipe (wipe σ vs) vs = wipe σ vs := List.ext_getElem? fun j => by
  rw [wipe_get, wipe_get]
  by_cases hj : j ∈ vs
  · rw [if_pos hj, if_pos hj]
    cases σ[j]? <;> rfl
  · rw [if_neg hj, if_neg hj]
section
variable {K : PySem.W.Frag} {g : Gx Z} {F F' : Hp} {env : List SD} {σ : L2.St} {H : Hp}
theorem noPar_un {env : List SD} {i j : Nat} {r : SD} (h : NoPar env j) (hr : ∀ xs, r ≠ .cel true xs) : NoPar (env.set i r) j := fun xs e => by
  rcases get_set e with ⟨_, q⟩ | ⟨_, q⟩
  · exact hr xs q.symm
  · exact h xs q
theorem noPar_wipe {env : List SD} {j : Nat} (h : NoPar env j) : ∀ vs : List Nat, NoPar (wipeD env vs) j
  | [] => h
  | v :: vs => noPar_un (noPar_wipe h vs) (fun _ z => by cases z)
theorem Ok.wiped (k : Ok K g F env σ H) : ∀ {vs : List Nat}, (∀ v ∈ vs, NoPar env v) → Ok K g F (wipeD env vs) (wipe σ vs) H
  | [], _ => k
  | v :: vs, h => (k.wiped (vs := vs) fun u hu => h u (List.mem_cons_of_mem _ hu)).setU (noPar_wipe (h v List.mem_cons_self) vs)
theorem Ok.setAll : ∀ {is : List Nat} {us : List V} {ds : List PyData} {env : List SD} {σ : L2.St}, Ok K g F env σ H → (∀ i ∈ is, NoPar env i) → DRs K F us ds → Ok K g F (setAllD env is ds) (DL.setAll σ is us) H
  | [], _, _, _, _, k, _, _ => by simpa [DL.setAll, setAllD] using k
  | i :: is, _, _, _, _, k, h, .nil => by simpa [DL.setAll, setAllD] using k
  | i :: is, _, _, _, _, k, h, .cons a b => by
    unfold DL.setAll setAllD
    exact Ok.setAll (k.setD (h i List.mem_cons_self) a) (fun j hj => noPar_un (h j (List.mem_cons_of_mem _ hj)) (fun _ z => by cases z)) b
theorem Ok.unwiped {vs : List Nat} (k : Ok K g F env (wipe σ vs) H) : Ok K g F env σ H := by
  have up : ∀ {i : Nat} {v : V}, (wipe σ vs)[i]? = some (some v) → σ[i]? = some (some v) := fun {i v} e => by
    rw [wipe_get] at e
    by_cases hj : i ∈ vs
    · rw [if_pos hj] at e
      cases q : σ[i]? with
      | none => rw [q] at e; cases e
      | some o => rw [q] at e; cases e
    · rw [if_neg hj] at e
      exact e
  have dn : ∀ {j : Nat} {p : Bool} {ys : List PyData} {a : Addr}, env[j]? = some (.cel p ys) → σ[j]? = some (some (.ref a)) → (wipe σ vs)[j]? = some (some (.ref a)) := fun {j p ys a} e q => by
    obtain ⟨b, _, h1, _⟩ := k.cel j p ys e
    have := up h1
    rw [q] at this
    cases this
    exact h1
  refine ⟨k.len.trans (wipe_length σ vs), k.fh, fun i d e => ?_, fun i p xs e => ?_, fun i j p q xs ys a h1 h2 h3 h4 => k.sep i j p q xs ys a h1 h2 (dn h1 h3) (dn h2 h4), k.pin, k.frame, k.newF, k.oldF, fun a o e => ?_, fun i kvs e => ?_⟩
  · obtain ⟨v, h1, h2⟩ := k.dat i d e
    exact ⟨v, up h1, h2⟩
  · obtain ⟨a, us, h1, h2⟩ := k.cel i p xs e
    exact ⟨a, us, up h1, h2⟩
  · obtain ⟨z1, z2, z3⟩ := k.prot a o e
    exact ⟨z1, z2, fun j p ys e1 e2 => z3 j p ys e1 (dn e1 e2)⟩
  · obtain ⟨a, xs, h1, h2, h3, h4, h5, h6, h7⟩ := k.dic i kvs e
    refine ⟨a, xs, up h1, h2, h3, h4, h5, h6, fun j ys e2 z => h7 j ys e2 ?_⟩
    obtain ⟨b, _, y1, _⟩ := k.dic j ys e2
    have := up y1
    rw [z] at this
    cases this
    exact y1
theorem set_same {α : Type} {l : List α} {i : Nat} {x : α} (h : l[i]? = some x) : l.set i x = l := List.ext_getElem? fun j => by
  rw [List.getElem?_set]
  by_cases e : i = j
  · subst e
    rw [if_pos rfl, if_pos (List.getElem?_eq_some_iff.mp h).1, h]
  · rw [if_neg e]
/-- what stood at the slots vs is known again -/
def again (env1 : List SD) : List Nat → List SD → List SD
  | [], env2 => env2
  | v :: vs, env2 => match env1[v]? with
    | some (.dat d) => again env1 vs (env2.set v (.dat d))
    | _ => again env1 vs env2
theorem Ok.again {F1 H1 : Hp} {env1 : List SD} (k1 : Ok K g F1 env1 σ H1) (ex : Ex F1 F) : ∀ {vs : List Nat} {env2 : List SD}, Ok K g F env2 σ H → (∀ v ∈ vs, NoPar env2 v) → Ok K g F (DL.again env1 vs env2) σ H
  | [], _, k, _ => k
  | v :: vs, env2, k, h => by
    unfold DL.again
    split
    · rename_i d e
      obtain ⟨u, h1, h2⟩ := k1.dat v d e
      have k2 := k.setD (h v List.mem_cons_self) (h2.mono ex)
      rw [set_same h1] at k2
      exact Ok.again k1 ex k2 fun j hj => noPar_un (h j (List.mem_cons_of_mem _ hj)) (fun _ z => by cases z)
    · exact Ok.again k1 ex k fun j hj => h j (List.mem_cons_of_mem _ hj)
/-- the cell at D, no name's, protected -/
theorem Ok.hide (k : Ok K g F env σ H) {D : Addr} {vs : List V} (hF : F D = none) (hH : H D = some (.lst vs)) (nw : ∀ (j : Nat) (p : Bool) (ys : List PyData), env[j]? = some (.cel p ys) → σ[j]? ≠ some (some (.ref D))) (hp : g.Pr D = none) : Ok K (g.hid D vs hp) F env σ H :=
  ⟨k.len, k.fh, k.dat, k.cel, k.sep, k.pin, k.frame, k.newF, k.oldF, fun a o e => by
    by_cases z : a = D
    · subst z
      have e' : upd g.Pr a (.lst vs) a = some o := e
      rw [upd_same] at e'
      cases e'
      exact ⟨hH, hF, nw⟩
    · have e' : upd g.Pr D (.lst vs) a = some o := e
      rw [upd_ne z] at e'
      exact k.prot a o e',
    k.dic.keep (Ex.refl F) (fun a xs e n => by
      have ne : a ≠ D := fun z => by rw [z, hH] at e; cases e
      show upd g.Pr D (.lst vs) a = none
      rw [upd_ne ne]
      exact n) fun a xs _ n => ⟨n, rfl⟩⟩
theorem Ok.bare {D : Addr} {vs : List V} (hp : g.Pr D = none) (k : Ok K (g.hid D vs hp) F env σ H) :
    Ok K g F env σ H ∧ F D = none ∧ H D = some (.lst vs) ∧ ∀ (j : Nat) (p : Bool) (ys : List PyData), env[j]? = some (.cel p ys) → σ[j]? ≠ some (some (.ref D)) := by
  obtain ⟨z1, z2, z3⟩ := k.prot D (.lst vs) upd_same
  refine ⟨⟨k.len, k.fh, k.dat, k.cel, k.sep, k.pin, k.frame, k.newF, k.oldF, fun a o e => ?_, (k.dic.keep (Ex.refl F) (fun a xs e n => ?_) fun a xs _ n => ⟨n, rfl⟩)⟩, z2, z1, z3⟩
  · have ne : a ≠ D := fun z => by rw [z, hp] at e; cases e
    exact k.prot a o (show upd g.Pr D (.lst vs) a = some o by rw [upd_ne ne]; exact e)
  · have ne : a ≠ D := fun z => by rw [z, z1] at e; cases e
    have n : upd g.Pr D (.lst vs) a = none := n
    rw [upd_ne ne] at n
    exact n
/-- a cell of no name is written -/
theorem Ok.writeP (k : Ok K g F env σ H) {D : Addr} {o o0 : HO} (hD : H D = some o0) (hn : ∀ xs, o0 ≠ DicE Z.P Z.w D xs) (hF : F D = none) (h0 : g.H0 D = none) (hp : g.Pr D = none) (nw : ∀ (j : Nat) (p : Bool) (ys : List PyData), env[j]? = some (.cel p ys) → σ[j]? ≠ some (some (.ref D))) : Ok K g F env σ (upd H D o) := by
  refine ⟨k.len, fun a u e => ?_, k.dat, fun i p xs e => ?_, k.sep, k.pin, fun a u e n => ?_, k.newF, k.oldF, fun a u e => ?_, (k.dic.keep (Ex.refl F) (fun _ _ _ z => z) fun a xs e n => ⟨n, upd_ne fun z => ?_⟩)⟩
  · have ne : a ≠ D := fun z => by rw [z, hF] at e; cases e
    rw [upd_ne ne]
    exact k.fh a u e
  · obtain ⟨a, us, h1, h2, h3, h4⟩ := k.cel i p xs e
    have ne : a ≠ D := fun z => by subst z; exact nw i p xs e h1
    exact ⟨a, us, h1, h2, by rw [upd_ne ne]; exact h3, h4⟩
  · have ne : a ≠ D := fun z => by rw [z, h0] at e; cases e
    rw [upd_ne ne]
    exact k.frame a u e n
  · obtain ⟨z1, z2, z3⟩ := k.prot a u e
    have ne : a ≠ D := fun z => by rw [z, hp] at e; cases e
    exact ⟨by rw [upd_ne ne]; exact z1, z2, z3⟩
  · subst z
    rw [hD] at e
    exact hn xs (Option.some.inj e)
end

/-! ### comprehensions -/
inductive CT where
  | one (i : Nat)
  | tup (is : List Nat)
def CT.slots : CT → List Nat
  | .one i => [i]
  | .tup is => is
def gNs : List Nat → TGs
  | [] => gNil
  | i :: is => gCons (gName i) (gNs is)
/-- the target's reading -/
def CT.g (K : PySem.W.Frag) : CT → TG
  | .one i => gName i
  | .tup is => gTup K is.length (gNs is)
def setK : List Nat → List PyData → List SD → (List SD → Prop) → Prop
  | [], ds, env, P => nilQ ds (P env)
  | i :: is, ds, env, P => consQ ds fun d r => setK is r (env.set i (.dat d)) P
theorem setK_inv : ∀ {is : List Nat} {ds : List PyData} {env : List SD} {P : List SD → Prop}, setK is ds env P → ds.length = is.length ∧ P (setAllD env is ds)
  | [], ds, env, P, h => by
    obtain ⟨rfl, h⟩ := nilQ_inv h
    exact ⟨rfl, h⟩
  | i :: is, ds, env, P, h => by
    obtain ⟨d, r, rfl, h⟩ := consQ_inv h
    obtain ⟨e, h⟩ := setK_inv (is := is) h
    exact ⟨by simp [e], h⟩
def CT.d : CT → DG
  | .one i => fun x env P => P (env.set i (.dat x))
  | .tup is => fun x env P => tupQ x fun ds => setK is ds env P
theorem gNs_ok : ∀ {is : List Nat} {vs : List V} {σ : L2.St} {H : Hp} {Q : L2.St → Hp → Prop}, vs.length = is.length → Q (setAll σ is vs) H → gNs is vs σ H Q
  | [], [], σ, H, Q, _, h => ⟨rfl, by simpa [setAll] using h⟩
  | [], _ :: _, _, _, _, e, _ => by simp at e
  | _ :: _, [], _, _, _, e, _ => by simp at e
  | i :: is, v :: vs, σ, H, Q, e, h => ⟨v, vs, rfl, gNs_ok (by simpa using e) (by unfold setAll at h; exact h)⟩
/-- whether the target is a tuple of names -/
def CT.isT : CT → Bool
  | .one _ => false
  | .tup _ => true
theorem CT.ok {K : PySem.W.Frag} {g : Gx Z} {F H : Hp} {env : List SD} {σ : L2.St} {t : CT} {x : V} {d : PyData} {P : List SD → Prop} {Q : L2.St → Hp → Prop} (k : Ok K g F env σ H) (hn : ∀ i ∈ t.slots, NoPar env i) (r : DRw K t.isT F x d) (w : t.d d env P)
    (q : ∀ env' σ', P env' → Ok K g F env' σ' H → (∃ us, σ' = setAll σ t.slots us) → Q σ' H) : t.g K x σ H Q := by
  cases t with
  | one i => exact q _ _ w (k.setD (hn i (List.mem_singleton.mpr rfl)) r.non) ⟨[x], by simp [CT.slots, setAll]⟩
  | tup is =>
    obtain ⟨ds, rfl, w⟩ := tupQ_inv w
    have w := setK_inv w
    obtain ⟨a, xs, rfl, h1, h2⟩ := r.tup
    exact ⟨a, xs, rfl, Evl.ex_t k.fh h1, h2.length.trans w.1, gNs_ok (h2.length.trans w.1) (q _ _ w.2 (k.setAll hn h2) ⟨xs, rfl⟩)⟩
def decQ {I S : Type} (dec : List SD → Option (I × S)) (N : I → S → Prop) (env : List SD) : Prop := match dec env with
  | some (i, s) => N i s
  | none => False
theorem decQ_inv {I S : Type} {dec : List SD → Option (I × S)} {N : I → S → Prop} {env : List SD} (h : decQ dec N env) : ∃ i s, dec env = some (i, s) ∧ N i s := by
  unfold decQ at h
  split at h
  · exact ⟨_, _, ‹_›, h⟩
  · exact h.elim
def qLc {I S : Type} (b : PyData → I → S → (I → S → Prop) → (PyData → I → S → Prop) → Prop) (i : I) : List PyData → List PyData → S → (List PyData → S → Prop) → Prop
  | [], acc, s, K => K acc s
  | d :: r, acc, s, K => b d i s (same i fun s => qLc b i r acc s K) fun y => same i fun s => acc.length < 100000 ∧ qLc b i r (acc ++ [y]) s K
def dLcQ {I S : Type} (dec : List SD → Option (I × S)) (emb : I → S → List SD) (qb : PyData → I → S → (I → S → Prop) → (PyData → I → S → Prop) → Prop) (wi : DI) (t : CT) (env : List SD) (P : SD → List SD → Prop) : Prop :=
  wi env fun items env1 => bIf (t.slots.all (noPar env1)) (decQ dec (fun i s => qLc qb i items [] s fun acc s => bIf (t.slots.all (noPar (emb i s))) (P (.cel false acc) (again env1 t.slots (emb i s))) False) (wipeD env1 t.slots)) False
def LcHyp {I S : Type} (dec : List SD → Option (I × S)) (emb : I → S → List SD) (qb : PyData → I → S → (I → S → Prop) → (PyData → I → S → Prop) → Prop) (t : CT) (c : DT) (we : DE) : Prop :=
  ∀ (d : PyData) (i : I) (s : S) (sk : I → S → Prop) (yd : PyData → I → S → Prop), qb d i s sk yd → t.d d (emb i s) fun env1 => c env1 fun b env2 => bIf b
    (we env2 fun y env3 => bIf (t.slots.all (noPar env3)) (decQ dec (yd y) (wipeD env3 t.slots)) False)
    (bIf (t.slots.all (noPar env2)) (decQ dec sk (wipeD env2 t.slots)) False)
theorem noPar_all {env : List SD} {vs : List Nat} (h : vs.all (noPar env) = true) : ∀ v ∈ vs, NoPar env v := fun v hv => noPar_of (List.all_eq_true.mp h v hv)
theorem lift_lc {K : PySem.W.Frag} {I S : Type} {dec : List SD → Option (I × S)} {emb : I → S → List SD} {qb : PyData → I → S → (I → S → Prop) → (PyData → I → S → Prop) → Prop} (hde : ∀ env i s, dec env = some (i, s) → env = emb i s)
    {wi : DI} {t : CT} {c : DT} {we : DE} (hq : LcHyp dec emb qb t c we) {σ : L2.St} {H : Hp} {Q : VK} (h : liftX K Z (dLcQ dec emb qb wi t) σ H Q) : tLc (liftI K Z t.isT wi) (t.g K) (liftT K Z c) (liftE K Z we) t.slots σ H Q := by
  obtain ⟨g, F, env, P, k, w, q⟩ := h
  refine ⟨g, F, env, _, k, w, fun items env1 J F1 H1 p e1 k1 ⟨G, Y, wk, hG, hY⟩ D hD => ?_⟩
  obtain ⟨np, p⟩ := bIf_and p
  obtain ⟨i0, s0, d0, p⟩ := decQ_inv p
  have kw := k1.wiped (noPar_all np)
  obtain ⟨kn, rn⟩ := kw.newCell hD (vs := []) (xs := []) .nil
  refine lc_it wk (fun j H' => ∃ env' F' acc, Ex F1 F' ∧ Ok K g F' env' (wipe σ t.slots) H' ∧ ResOk K g F' env' (wipe σ t.slots) H' (.ref D) (.cel false acc) ∧ (∀ v ∈ t.slots, NoPar env' v) ∧
      decQ dec (same i0 fun s => qLc qb i0 (items.drop j) acc s fun acc s => bIf (t.slots.all (noPar (emb i0 s))) (P (.cel false acc) (again env1 t.slots (emb i0 s))) False) env')
    ⟨_, F1, [], Ex.refl F1, kn, rn, fun v hv => noPar_wipe (noPar_all np v hv) _, by unfold decQ; rw [d0]; exact ⟨rfl, p⟩⟩ (fun i H' _ ⟨env', F', acc, e2, k2, _⟩ => hG H' (e2.trans k2.fh)) (fun j x H' H2 hi ⟨env', F', acc, e2, k2, r2, n2, w2⟩ y => ?_) fun H' ⟨env', F', acc, e2, k2, r2, n2, w2⟩ => ?_
  · obtain ⟨i, s, de, rfl, w3⟩ := decQ_inv w2
    obtain rfl := hde _ _ _ de
    rw [List.drop_eq_getElem_cons hi] at w3
    have w2 := hq _ _ _ _ _ w3
    obtain ⟨D', vsA, eD, hF, hHD, rA, h0, hpr, nw⟩ := r2
    cases eD
    have kh := k2.hide hF hHD nw hpr
    obtain ⟨F3, e3, k3, r3⟩ := kh.yld e2 (hY j H' x H2 items[j] (e2.trans k2.fh) (by simp [hi]) y)
    refine CT.ok k3 n2 r3 w2 fun env4 σ4 p4 k4 ⟨us, hσ⟩ => ?_
    have hw : wipe σ4 t.slots = wipe σ t.slots := by rw [hσ, wipe_all (fun i hi => hi), wipe_wipe]
    refine ⟨hw, _, F3, env4, _, k4, p4, fun b env5 F5 H5 p5 e5 k5 => ?_⟩
    cases b with
    | false =>
      refine iteF ?_
      have p5 := bIf_and p5
      obtain ⟨k6, z1, z2, z3⟩ := Ok.bare hpr k5
      have k7 := k6.wiped (noPar_all p5.1)
      rw [hw] at k7
      refine ⟨_, F5, acc, (e2.trans e3).trans e5, k7, ?_, fun v hv => noPar_wipe (noPar_all p5.1 v hv) _, p5.2⟩
      refine ⟨D, vsA, rfl, z1, z2, rA.mono (e3.trans e5), h0, hpr, fun j p ys ej ez => ?_⟩
      rw [← hw] at ez
      exact wiped_cell z3 ej ez
    | true =>
      refine iteT ⟨_, F5, env5, _, k5, p5, fun d env6 v F6 H6 p6 e6 k6 r6 => ?_⟩
      obtain ⟨np6, p6⟩ := bIf_and p6
      obtain ⟨i6, s6, d6, hi6, p6⟩ := decQ_inv p6
      obtain ⟨k7, z1, z2, z3⟩ := Ok.bare hpr k6
      refine ⟨vsA, z2, by rw [rA.length]; exact Evl.sz_lt p6.1, ?_⟩
      have k8 := k7.wiped (noPar_all np6)
      have z4 : ∀ (j : Nat) (p : Bool) (ys : List PyData), (wipeD env6 t.slots)[j]? = some (.cel p ys) → (wipe σ4 t.slots)[j]? ≠ some (some (.ref D)) := fun j p ys ej ez => wiped_cell z3 ej ez
      have k9 := k8.writeP (o := .lst (vsA ++ [v])) z2 (fun _ z => by cases z) z1 h0 hpr z4
      rw [hw] at k9 z4
      exact ⟨_, F6, acc ++ [d], ((e2.trans e3).trans e5).trans e6, k9, ⟨D, vsA ++ [v], rfl, z1, upd_same, (rA.mono ((e3.trans e5).trans e6)).append (.one r6), h0, hpr, z4⟩, fun v hv => noPar_wipe (noPar_all np6 v hv) _, by unfold decQ; rw [d6]; exact ⟨hi6, p6.2⟩⟩
  · obtain ⟨i, s, de, rfl, w3⟩ := decQ_inv w2
    obtain rfl := hde _ _ _ de
    rw [List.drop_length] at w3
    have w2 := bIf_and w3
    have k3 := k2.unwiped
    have k4 := Ok.again k1 e2 k3 (noPar_all w2.1)
    obtain ⟨D', vsA, eD, hF, hHD, rA, h0, hpr, nw⟩ := r2
    cases eD
    refine q _ _ _ F' H' w2.2 (e1.trans e2) k4 ⟨D, vsA, rfl, hF, hHD, rA, h0, hpr, fun j p ys ej ez => ?_⟩
    have ej' := again_cell ej
    obtain ⟨a, _, b1, _⟩ := k3.cel j p ys ej'
    obtain ⟨a2, _, b2, _⟩ := k2.cel j p ys ej'
    have b3 := wipe_some b2
    rw [ez] at b1
    cases b1
    rw [ez] at b3
    cases b3.1
    exact nw j p ys ej' b2
where
  wiped_cell {env : List SD} {σ : L2.St} {D : Addr} {vs : List Nat} (z : ∀ (j : Nat) (p : Bool) (ys : List PyData), env[j]? = some (.cel p ys) → σ[j]? ≠ some (some (.ref D))) {j : Nat} {p : Bool} {ys : List PyData} (e : (wipeD env vs)[j]? = some (.cel p ys)) (e2 : (wipe σ vs)[j]? = some (some (.ref D))) : False := by
    have h1 := (wipe_some e2).1
    have : ∀ vs : List Nat, (wipeD env vs)[j]? = some (.cel p ys) → env[j]? = some (.cel p ys) := fun vs => by
      induction vs with
      | nil => exact id
      | cons v vs ih =>
        intro h
        rcases get_set h with ⟨_, q⟩ | ⟨_, q⟩
        · cases q
        · exact ih q
    exact z j p ys (this vs e) h1
  again_cell {env1 : List SD} {vs : List Nat} {env2 : List SD} {j : Nat} {p : Bool} {ys : List PyData} (e : (again env1 vs env2)[j]? = some (.cel p ys)) : env2[j]? = some (.cel p ys) := by
    induction vs generalizing env2 with
    | nil => exact e
    | cons v vs ih =>
      unfold again at e
      split at e
      · have := ih e
        rcases get_set this with ⟨_, q⟩ | ⟨_, q⟩
        · cases q
        · exact q
      · exact ih e
section
variable {X : Cx} {elt tg iter : Expr} {ifs : List Expr} {scope : Scope} {own : List (Str × Nat)} {pos : Pos} {wi : DI} {t : CT} {c : DT} {we : DE} {m : Nat} {I S : Type} {dec : List SD → Option (I × S)} {emb : I → S → List SD} {qb : PyData → I → S → (I → S → Prop) → (PyData → I → S → Prop) → Prop}
def dYes (env : List SD) (P : Bool → List SD → Prop) : Prop := P true env
theorem tyes : PTs X [] (liftT X.K Z dYes) := ⟨fun pins s σ H Q I ⟨g, F, env, P, k, w, q⟩ => pts_nil.run pins s σ H Q I (q true env F H w (Ex.refl F) k)⟩
theorem tif1 {e : Expr} (h : PT X e (liftT X.K Z c)) : PTs X [e] (liftT X.K Z c) := pts_one h
/-- [elt for tg in iter if ..] -/
theorem dlc (own : List (Str × Nat)) (t : CT) (hde : ∀ env i s, dec env = some (i, s) → env = emb i s) (hc : X.calm = true) (hN : X.N.Nodup) (hi : PI X tg iter (liftI X.K Z t.isT wi)) (ok : BlkOk X.N X.env.scope scope own)
    (hg : ∀ (s : Shared) (H : Hp) (C : Addr) (cl : List (Str × Addr)) (fp : List Addr), PG (X.blk s H scope (compEnvC scope cl C X.env) fp) tg (t.g X.K)) (ht : ∀ (s : Shared) (H : Hp) (C : Addr) (cl : List (Str × Addr)) (fp : List Addr), PTs (X.blk s H scope (compEnvC scope cl C X.env) fp) ifs (liftT X.K Z c))
    (he : ∀ (s : Shared) (H : Hp) (C : Addr) (cl : List (Str × Addr)) (fp : List Addr), PE (X.blk s H scope (compEnvC scope cl C X.env) fp) elt (liftE X.K Z we)) (hq : LcHyp dec emb qb t c we) (hsl : t.slots = own.map (·.2) := by rfl) (hs : ∀ x, foldedSetIterable iter X.env x = pure x := by intro _; rfl) :
    PE X (.ListComp elt [⟨tg, iter, ifs, 0⟩] scope pos) (liftX X.K Z (dLcQ dec emb qb wi t)) := PE.of (pe_lc hc hN hi ok hg ht he hs) fun σ H Q h => by
  have h2 := lift_lc hde hq h
  rw [hsl] at h2
  exact h2
/-- name = [elt for tg in iter if ..] -/
theorem ssetLc (i : Nat) (own : List (Str × Nat)) (t : CT) (hde : ∀ env i s, dec env = some (i, s) → env = emb i s) {y : Str} {py spos : Pos} (hc : X.calm = true) (hN : X.N.Nodup) (hi : PI X tg iter (liftI X.K Z t.isT wi)) (ok : BlkOk X.N X.env.scope scope own)
    (hg : ∀ (s : Shared) (H : Hp) (C : Addr) (cl : List (Str × Addr)) (fp : List Addr), PG (X.blk s H scope (compEnvC scope cl C X.env) fp) tg (t.g X.K)) (ht : ∀ (s : Shared) (H : Hp) (C : Addr) (cl : List (Str × Addr)) (fp : List Addr), PTs (X.blk s H scope (compEnvC scope cl C X.env) fp) ifs (liftT X.K Z c))
    (he : ∀ (s : Shared) (H : Hp) (C : Addr) (cl : List (Str × Addr)) (fp : List Addr), PE (X.blk s H scope (compEnvC scope cl C X.env) fp) elt (liftE X.K Z we)) (hq : LcHyp dec emb qb t c we) (hsw : swapsWith (.ListComp elt [⟨tg, iter, ifs, 0⟩] scope pos) (some (.Name y py)) spos.line X.env = pure true)
    (hsl : t.slots = own.map (·.2) := by rfl) (hy : X.N[i]? = some y := by rfl) (hyl : X.env.scope.names.lookup y = some .local := by rfl) (hs : ∀ x, foldedSetIterable iter X.env x = pure x := by intro _; rfl) :
    PS X (.Assign [.Name y py] (.ListComp elt [⟨tg, iter, ifs, 0⟩] scope pos) spos) (liftS X.K Z m (dSet i (dLcQ dec emb qb wi t))) := PS.of (ps_setLc hc hN hy hyl hsw hi ok hg ht he hs) fun D σ H ⟨g, F, env, P, k, w, q⟩ => by
  have h2 : liftX X.K Z (dLcQ dec emb qb wi t) σ H fun v H1 => D.nx (σ.set i (some v)) H1 := ⟨g, F, env, _, k, w, fun r env1 v F1 H1 p e1 k1 r1 => q.nx _ _ F1 H1 (bIf_and p).2 e1 (k1.setR (bIf_and p).1 (res_own r1) own_ne)⟩
  have h3 := lift_lc hde hq h2
  rw [hsl] at h3
  exact h3
end
end DL

/-! The data layer, part 7: a def by its body; the law's end. -/
namespace DL
variable {Z : Zx}
open PySem PySem.Spec PyProof.Rows L2
open Evl (Ex)

section
variable {K : PySem.W.Frag} {F H : Hp} {vs : List V} {as : List SD}
/-- where the cells handed in stand -/
def cellsAt (vs : List V) (as : List SD) (i : Nat) : Option Addr := match as[i]?, vs[i]? with
  | some (.cel _ _), some (.ref a) => some a
  | _, _ => none
theorem cellsAt_of {i : Nat} {p : Bool} {xs : List PyData} {a : Addr} (h1 : as[i]? = some (.cel p xs)) (h2 : vs[i]? = some (.ref a)) : cellsAt vs as i = some a := by
  unfold cellsAt
  rw [h1, h2]
theorem cellsAt_inv {i : Nat} {a : Addr} (h : cellsAt vs as i = some a) : ∃ p xs, as[i]? = some (.cel p xs) ∧ vs[i]? = some (.ref a) := by
  unfold cellsAt at h
  split at h
  · rename_i p xs b h1 h2
    cases h
    exact ⟨p, xs, h1, h2⟩
  · cases h
def entryZ (P : Program) (w : World) (F H : Hp) (vs : List V) (as : List SD) : Zx := ⟨F, H, cellsAt vs as, fun _ => none, P, w⟩
def entryG (P : Program) (w : World) (F H : Hp) (vs : List V) (as : List SD) : Gx (entryZ P w F H vs as) := ⟨fun _ => none, fun _ _ h => h⟩
theorem start_get {N : List Str} {i : Nat} {v : V} (h : vs[i]? = some v) : (start N vs)[i]? = some (some v) := by
  unfold L2.start
  have hi : i < vs.length := (List.getElem?_eq_some_iff.mp h).1
  rw [List.getElem?_append_left (by simpa using hi), List.getElem?_map, h]
  rfl
theorem args_get {m i : Nat} {r : SD} (h : (as ++ List.replicate m SD.un)[i]? = some r) (hr : r ≠ .un) : as[i]? = some r := by
  by_cases hi : i < as.length
  · rwa [List.getElem?_append_left hi] at h
  · rw [List.getElem?_append_right (by omega), List.getElem?_replicate] at h
    split at h
    · cases h
      exact absurd rfl hr
    · cases h
theorem entry_ok {N ps : List Str} (ha : ArgsOk K F H vs as) (hl : as.length = ps.length) (hN : ps.length ≤ N.length) {P : Program} {w : World} : Ok K (entryG P w F H vs as) F (as ++ List.replicate (N.length - ps.length) .un) (start N vs) H where
  len := by
    unfold L2.start
    have := ha.len
    simp
    omega
  fh := ha.fh
  dat := fun i d e => by
    obtain ⟨v, h1, h2⟩ := ha.dat i d (args_get e (fun z => by cases z))
    exact ⟨v, start_get h1, h2⟩
  cel := fun i p xs e => by
    have e := args_get e (fun z => by cases z)
    obtain ⟨rfl, a, us, h1, h2, h3, h4⟩ := ha.cel i p xs e
    exact ⟨a, us, start_get h1, h2, h3, h4, fun _ => cellsAt_of e h1, fun z => by cases z⟩
  sep := fun i j p q xs ys a e1 e2 h1 h2 => by
    have e1 := args_get e1 (fun z => by cases z)
    have e2 := args_get e2 (fun z => by cases z)
    obtain ⟨_, b, _, b1, _⟩ := ha.cel i p xs e1
    obtain ⟨_, c, _, c1, _⟩ := ha.cel j q ys e2
    rw [start_get b1] at h1
    rw [start_get c1] at h2
    cases h1
    cases h2
    exact ha.sep i j p q xs ys _ e1 e2 b1 c1
  pin := fun i a e => by
    obtain ⟨p, xs, h1, h2⟩ := cellsAt_inv e
    obtain ⟨rfl, _⟩ := ha.cel i p xs h1
    refine ⟨xs, ?_⟩
    rw [List.getElem?_append_left (List.getElem?_eq_some_iff.mp h1).1]
    exact h1
  frame := fun a o e _ => e
  newF := fun a o e => .inl e
  oldF := Ex.refl F
  prot := fun a o e => by cases e
  dic := fun i kvs e => absurd (args_get e (fun z => by cases z)) (ha.nod i kvs)
theorem post_of {P : Program} {w : World} {env : List SD} {σ : L2.St} {F' H' : Hp} {v : V} {r : SD} {n : Nat} (k : Ok K (entryG P w F H vs as) F' env σ H') (hn : ∀ (i : Nat) (p : Bool) (xs : List PyData), as[i]? = some (.cel p xs) → i < n) (hr : ResOk K (entryG P w F H vs as) F' env σ H' v r) : PostOk K F H vs as F' H' (env.take n) v r where
  ex := k.oldF
  fh := k.fh
  newF := k.newF
  frame := fun a o e n => k.frame a o e fun i z => by
    obtain ⟨p, xs, h1, h2⟩ := cellsAt_inv z
    exact n i p xs h1 h2
  cel := fun i p xs a h1 h2 => by
    have e : (entryG P w F H vs as).A0 i = some a := cellsAt_of h1 h2
    obtain ⟨ys, h3⟩ := k.pin i a e
    obtain ⟨b, us, _, c2, c3, c4, c5, _⟩ := k.cel i true ys h3
    have c5 := c5 rfl
    rw [e] at c5
    cases c5
    refine ⟨ys, us, ?_, c2, c3, c4⟩
    rw [List.getElem?_take_of_lt (hn _ _ _ h1)]
    exact h3
  res := by
    cases r with
    | un => exact hr
    | dat d => exact hr
    | cel b xs =>
      obtain ⟨a, us, h1, h2, h3, h4, h5, _⟩ := hr
      exact ⟨a, us, h1, h2, h3, h4, h5⟩
    | dic kvs => exact hr.elim
end

section
variable {P : Program} {w : World} {K : PySem.W.Frag} {mg : Str → Option Value} {base : Heap}
/-- the ends of a def's body -/
def defEnds (m : Nat) (Q : SD → List SD → Prop) : DEnds := { nx := fun env => Q (.dat .none) (env.take m), rt := Q }
/-- cells stand ahead of place m alone -/
def CelsIn (m : Nat) (S : DSp) : Prop := ∀ as Q, S as Q → ∀ (i : Nat) (p : Bool) (xs : List PyData), as[i]? = some (.cel p xs) → i < m
/-- a def of the text, by its body read as data -/
theorem dfn (m : Nat) {x qual : Str} {st : Stmt} {f : Addr} {fd : FuncData} {N ps : List Str} {k : Nat} {S : DSp} (Fn : Fun K x qual st f fd) (sc : FnScope N ps (defScope st)) (len : ∀ as Q, S as Q → as.length = ps.length) (cels : CelsIn m S)
    (hbody : ∀ {Z : Zx} (cdv : Value) (A : Around) (outer : List Env) (s : Shared) (H : Hp), Room k (A.deeper (envOfC qual (defScope st) s.heap.objs.size f cdv)) → (A.deeper (envOfC qual (defScope st) s.heap.objs.size f cdv)).guards = some [] →
      ∃ t : DS, PSs (cxOf CX0 P w K mg base N qual (defScope st) f cdv A outer s H E0).nox (defBody st) (liftS K Z m t) ∧
        ∀ as Q, S as Q → t (defEnds m Q) (as ++ List.replicate (N.length - ps.length) .un)) : FnG P w K mg base (k + 1) f fd ps S := by
  obtain ⟨oc, od, kV, doc, pm, an, cdv, ct, osl, rfl, lk, hcd⟩ := Fn.ex
  refine ⟨len, fun A outer s H args us vs Q hr hg e0 hb rv ⟨F0, as, PP, ha, hS, hQ⟩ => ?_⟩
  have hl : vs.length = ps.length := ha.len.symm.trans (len as PP hS)
  have hpl : ps.length ≤ N.length := by
    have := congrArg List.length sc.pre
    rw [List.length_take] at this
    omega
  have KX : K.In s.heap := e0.mod.kin.keeps fun b o e => (e0.bs b o e).1
  refine codeAny_call_function hr.depth (KX _ _ lk) rfl sc.co sc.gen rfl (PySem.W.codeRec_of KX hcd) (hb _ _ _ _ (wpAny_newFunctionEnv_cells sc.kind (fun ⟨n, v⟩ hy => ?_) fun env he s1 x => ?_))
  · rcases sc.par n (List.of_mem_zip hy).1 with q | q
    · exact .inl q
    · exact .inr ⟨q, PySem.W.cellsFrom_some _ _ _ (.inl q)⟩
  · subst he
    obtain ⟨t, ht, hq⟩ := hbody (Z := entryZ P w F0 H vs as) cdv A outer s H (hr.deeper _) hg
    have I : Inv (cxOf CX0 P w K mg base N qual (defScope st) f cdv A outer s H E0) [] (start N vs) H s1 := inv_start sc hr.hd e0 hl rv x
    refine ⟨(e0.mod.nolimit.keeps fun b o e => (e0.bs b o e).1).keeps x.toInCall.keep, codeAny_func (wpAny_mono (ht.nox.run [] s1 (start N vs) H { nx := fun _ H' => Q .non H', rt := Q } I ?_) (fun fl s' hs => ?_) fun e s' hs => hs)⟩
    · have al : as.length = ps.length := len as PP hS
      refine ⟨entryG P w F0 H vs as, F0, _, _, entry_ok ha al hpl, hq as PP hS, ?_⟩
      exact .mk4 (.mk (fun env' σ' F' H' p _ k' => hQ _ _ _ _ _ p (post_of k' (cels _ _ hS) .non)) (fun _ _ _ _ p => p.elim) (fun _ _ _ _ p => p.elim) (fun r env' v σ' F' H' p _ k' r' => hQ _ _ _ _ _ p (post_of k' (cels _ _ hS) r'))) rfl
    · have fin : ∀ {σ' : L2.St} {H' : Hp} {v : V} {u : Value}, Inv (cxOf CX0 P w K mg base N qual (defScope st) f cdv A outer s H E0) [] σ' H' s' → RelV v u → Q v H' → CE outer P w H s Q u s' :=
        fun {σ' H' v u} J r q => ⟨v, H', J.os, J.bare, J.base, J.hok, r, q⟩
      match fl, hs with
      | .ret u, ⟨v, σ', H', J, r, q⟩ => exact fin J r q
      | .next, ⟨σ', H', J, q⟩ => exact fin (v := V.non) (u := Value.none) J rfl q
      | .brk, ⟨_, _, _, q⟩ => exact q.elim
      | .cont, ⟨_, _, _, q⟩ => exact q.elim
/-- what is asked of a law's def: of a list of the script's numbers it tells True -/
def lawS (n : Nat) : DSp := fun as Q => match as with
  | [.dat (.list ds)] => (∃ ns : List Int, ds = ns.map .int ∧ ns.length ≤ n) ∧ ∀ as', Q (.dat (.bool true)) as'
  | _ => False
theorem drs_ints {F : Hp} : ∀ ns : List Int, DRs K F (ns.map V.int) (ns.map PyData.int)
  | [] => .nil
  | n :: ns => .cons (.int n) (drs_ints ns)
/-- the modules' dict stands -/
def SysD (h : Heap) : Prop := ∃ o es ep, h.get? sysModules = some o ∧ o.data = .dict es ep
class SysB (base : Heap) : Prop where
  out : SysD base
theorem law_data {mb : Str → Option Value} {k n : Nat} {fa a : Addr} {fd : FuncData} {x : Str} {s₁ : Shared} {vs : List Value} {ns : List Int}
    (KX : K.In s₁.heap) (hns : s₁.heap.Ns mainGlobals mg) (hb : s₁.heap.Ns builtinsNs mb) (hbb : ∀ x : Str, x ≠ "__name__" → mb x = bootBuiltins x) (hlim : s₁.heap.NoLimit) (hgn : s₁.gens = #[])
    (ha : s₁.heap.get? a = some { cls := .type "list", data := .seq vs.toArray }) (hi : IntsAre vs ns) (hn : ns.length ≤ n) (hz : n ≤ sizeLine) (hr : Room k callerA)
    (hsys : SysD s₁.heap) (Fn : ∀ base : Heap, K.In base → base.Ns mainGlobals mg → SysD base → FnG P w K mg base k fa fd [x] (lawS n)) (hbind : ∀ (s : Shared) (u : Value), BindsTo s fd ⟨[u], []⟩ [(x, u)]) :
    codeAny (model P w) callerA (.call (.ref fa) ⟨[.ref a], []⟩) (fun r s' => r = .ok (.ret (.bool true)) ∧ OldK s₁.heap s'.heap ∧ s'.os = s₁.os ∧ AllBare s'.gens) s₁ := by
  have rv := vals_ints hi
  have lenV := hi.length
  have hl : ns.length ≤ sizeLine := Nat.le_trans hn hz
  have core : ∀ H : Hp, Only H → RdL K H a (ns.map V.int) → HOk P w H s₁.heap → (∀ b, H b ≠ none → b = a) → (H a ≠ none → K.lookup a = none) →
      codeAny (model P w) callerA (.call (.ref fa) ⟨[.ref a], []⟩) (fun r s' => r = .ok (.ret (.bool true)) ∧ OldK s₁.heap s'.heap ∧ s'.os = s₁.os ∧ AllBare s'.gens) s₁ := by
    intro H hO hS hok hA hK
    have isA : ∀ {b : Addr} {u : HO}, H b = some u → b = a := fun {b u} q => hA b (by rw [q]; simp)
    have noA : ∀ {b : Addr} {o : Obj} {es : Array DictEntry} {ep : Nat}, s₁.heap.get? b = some o → o.data = .dict es ep → H b = none := fun {b o es ep} e d => by
      cases q : H b with
      | none => rfl
      | some u =>
        cases isA q
        rw [ha] at e; cases e
        cases (show Data.seq vs.toArray _ = Data.dict es ep from d)
    have nsK : ∀ {b : Addr} {m : Str → Option Value}, s₁.heap.Ns b m → (hidT s₁.heap H).Ns b m := fun {b m} ⟨o, es, ep, e, d, r⟩ => ⟨o, es, ep, hidT_get e (noA e d), d, r⟩
    have hKb : K.In (hidT s₁.heap H) := fun b o e => hidT_get (KX b o e) (by
      cases q : H b with
      | none => rfl
      | some u =>
        cases isA q
        rw [hK (by rw [q]; simp)] at e; cases e)
    have hM : Mod K mg (hidT s₁.heap H) := ⟨hKb, nsK hns, ⟨mb, nsK hb, hbb⟩, let ⟨mc, h1, h2⟩ := hlim; ⟨mc, nsK h1, h2⟩⟩
    have e0 : Env0 P w K mg (hidT s₁.heap H) callerA [] s₁ H := ⟨rfl, hM, fun b o e => of_hidT e, Nat.le_of_eq (hidT_size _ _), trivial, fun b hb => absurd (show b ∈ ([] : List Addr) from hb) (by simp), hok, .of_eq hgn⟩
    have goal : spD K (lawS n) [.ref a] H (fun v _ => v = .bl true) := by
      refine ⟨H, [.dat (.list (ns.map .int))], fun r _ => r = .dat (.bool true), args_dat (Ex.refl H) (ds := [.list (ns.map .int)]) (.one (.lst hS (drs_ints ns))), ⟨⟨ns, rfl, hn⟩, fun _ => rfl⟩, fun r as' v F' H' p po => ?_⟩
      subst p
      exact DR.inv_bool po.res
    refine codeAny_mono ((Fn _ hKb (nsK hns) (let ⟨o, es, ep, e, d⟩ := hsys; ⟨o, es, ep, hidT_get e (noA e d), d⟩)).go callerA [] s₁ H ⟨[.ref a], []⟩ [.ref a] [.ref a] _ hr rfl e0 (hbind s₁ (.ref a)) (.cons rfl .nil) goal) fun r s' h => ?_
    match r, h with
    | .error e, h =>
      exact h.elim
    | .ok .next, h => exact h.elim
    | .ok .brk, h => exact h.elim
    | .ok .cont, h => exact h.elim
    | .ok (.ret u), ⟨v, H', os, bare, un, hok', r', q⟩ =>
      have q' : v = .bl true := q
      subst q'
      obtain rfl : u = Value.bool true := r'
      refine ⟨rfl, OldK.of_keep fun b o e => ?_, os, bare⟩
      cases q : H b with
      | none => exact un.keep b o e q (by intro z; exact absurd (show b ∈ ([] : List Addr) from z) (by simp)) (by simp)
      | some u =>
        rcases hO b with z | ⟨ob, xs, z⟩
        · rw [q] at z; cases z
        · have z2 := un.frzs b ob _ z
          obtain ⟨e1, _⟩ := hok b _ z
          obtain ⟨e2, _⟩ := hok' b _ z2
          rw [e] at e1; cases e1
          exact e2
  cases hk : K.lookup a with
  | some o =>
    have e := KX a o hk
    rw [ha] at e
    cases e
    exact core (fun _ => none) (fun _ => .inl rfl) (.inr ⟨vs, 0, hk, rv, by rw [lenV]; exact hl⟩) (fun b u z => by cases (show (none : Option HO) = some u from z)) (fun b z => absurd rfl z) fun z => absurd rfl z
  | none =>
    refine core (fun b => if b = a then some (.frz { cls := .type "list", data := .seq vs.toArray } (.lst (ns.map V.int))) else none) (fun b => ?_) (.inl (.inr ⟨{ cls := .type "list", data := .seq vs.toArray }, if_pos rfl⟩)) (fun b u z => ?_) (fun b z => ?_) fun _ => hk
    · by_cases hb : b = a
      · exact .inr ⟨_, _, if_pos hb⟩
      · exact .inl (if_neg hb)
    · by_cases hb : b = a
      · cases (if_pos hb).symm.trans z
        subst hb
        exact ⟨ha, by rw [List.length_map]; exact hl, vs, _, rv, ha⟩
      · cases (if_neg hb).symm.trans z
    · by_cases hb : b = a
      · exact hb
      · exact absurd (if_neg hb) z
end
end DL

/-! The data layer, part 8: names of the top; the end over a head by facts. -/
namespace DL
variable {Z : Zx}
open PySem PySem.Spec PyProof.Rows L2
open Evl (Ex)

/-- a def of the top that keeps its promise -/
structure Dn (P : Program) (w : World) (K : PySem.W.Frag) (mg : Str → Option Value) (base : Heap) (x : Str) (k : Nat) (ps : List Str) (S : DSp) : Prop where
  ex : ∃ fd, FnG P w K mg base k (He.ga K x) fd ps S ∧ Binds K fd ps []
  glo : mg x = some (.ref (He.ga K x))
  kp : PySem.W.keepIn K (.ref (He.ga K x)) = true
/-- what the head says of the top -/
structure Top (fa : List He.Fa) (fn : List He.FnD) (K : PySem.W.Frag) (mg : Str → Option Value) : Prop where
  says : He.SaysE fa fn K
  ns : ∃ h, K.In h ∧ h.Ns mainGlobals mg
section
variable {fa : List He.Fa} {fn : List He.FnD} {K : PySem.W.Frag} {mg : Str → Option Value}
theorem Top.glo (T : Top fa fn K mg) (x : Str) (i : Nat) (h : fa[i]? = some (.glo x) := by rfl) : mg x = some (.ref (He.ga K x)) := by
  obtain ⟨hp, h1, h2⟩ := T.ns
  exact He.glo_ok h1 h2 (T.says.fact i h)
theorem Top.free (T : Top fa fn K mg) (x : Str) (i : Nat) (h : fa[i]? = some (.free x) := by rfl) : mg x = none := by
  obtain ⟨hp, h1, h2⟩ := T.ns
  exact He.free_ok h1 h2 (T.says.fact i h)
theorem Top.int (T : Top fa fn K mg) (x : Str) (n : Int) (i : Nat) (h : fa[i]? = some (.int x n) := by rfl) : ∃ t, mg x = some (.int n t) := by
  obtain ⟨hp, h1, h2⟩ := T.ns
  exact He.int_ok h1 h2 (T.says.fact i h)
theorem Top.keep (T : Top fa fn K mg) (x : Str) (i : Nat) (h : fa[i]? = some (.keep x) := by rfl) : PySem.W.keepIn K (.ref (He.ga K x)) = true := He.keep_ok (T.says.fact i h)
theorem Top.fun_ (T : Top fa fn K mg) (x : Str) (st : Stmt) (i j : Nat) (h : fn[i]? = some ⟨(x, none), x, x, defArgs st, defBody st, defScope st⟩ := by rfl) (hk : fa[j]? = some (.keep x) := by rfl) :
    ∃ kV doc pm an cdv ct, Fun K x x st (He.ga K x) (PySem.W.fnOf x x (defArgs st) (defBody st) (defScope st) .none kV doc pm an cdv ct) := by
  obtain ⟨oc, od, osl, kV, doc, pm, an, cdv, ct, h1, h2⟩ := T.says.def_ i h
  exact ⟨kV, doc, pm, an, cdv, ct, fun_mk h1 h2 (T.keep x j hk)⟩
/-- a module's whole number -/
theorem dnum {X : Cx} {x : Str} {n : Int} {pos : Pos} (hm : ∃ t, X.mg x = some (.int n t)) (hg : Gl X x := by rfl) (hdb : (x == ("__debug__" : Str)) = false := by decide) : PE X (.Name x pos) (liftE X.K Z (dC (.int n))) := by
  obtain ⟨t, h⟩ := hm
  exact dglob (v := .int n) h ⟨t, rfl⟩ (fun _ => .int n) hg hdb
end
section
variable {X : Cx} {k : Nat} {ps : List Str} {S : DSp} {x : Str} {p pos : Pos} {e : Expr} {es : List Expr} {was : DA}
theorem dcn (D : Dn X.prog X.w X.K X.mg X.base x k ps S) (hr : Room k X.A) (hA : X.A.guards = some [])
    (ha : PA X (e :: es) (liftA X.K Z was)) (hg : Gl X x := by rfl) (hdb : (x == ("__debug__" : Str)) = false := by decide)
    (he : starEach (e :: es) X.env = (false, eval e X.env) :: starEach es X.env := by rfl) (hpl : (backTo pos (starEach es X.env)).any (·.1) = false := by rfl) : PE X (.Call (.Name x p) (e :: es) [] pos) (liftX X.K Z (dCall S was)) := by
  obtain ⟨fd, h1, h2⟩ := D.ex
  exact dcall h1 hr hA D.glo D.kp h2 ha hg hdb he hpl
theorem dcnC (i : Nat) {y : Str} {p0 : Pos} (D : Dn X.prog X.w X.K X.mg X.base x k ps S) (hr : Room k X.A) (hA : X.A.guards = some [])
    (ha : PA X es (liftA X.K Z was)) (hN : X.N[i]? = some y := by rfl) (hv : Vis X.env.scope y := by first | exact Or.inl rfl | exact Or.inr (Or.inl rfl) | exact Or.inr (Or.inr rfl)) (hd : (y == ("__debug__" : Str)) = false := by decide)
    (hcd : (y == ("__classdict__" : Str)) = false := by decide) (hg : Gl X x := by rfl) (hdb : (x == ("__debug__" : Str)) = false := by decide)
    (he : starEach (.Name y p0 :: es) X.env = (false, eval (.Name y p0) X.env) :: starEach es X.env := by rfl) (hpl : (backTo pos (starEach es X.env)).any (·.1) = false := by rfl) :
    PE X (.Call (.Name x p) (.Name y p0 :: es) [] pos) (liftX X.K Z (dCallC S i was)) := by
  obtain ⟨fd, h1, h2⟩ := D.ex
  exact dcallC i h1 hr hA D.glo D.kp h2 ha hN hv hd hcd hg hdb he hpl
end
/-- the goal that a head by facts leaves -/
theorem walk_dataE {l : PySem.W.OpenLaw} {n k : Nat} {q : Program} {loose : List Str} {XP : (Str → Option Value) → Heap → Prop} {YP : World → Heap → Prop} {d : DefRec} {x : Str}
    (hn : l.most = some n) (hn2 : n ≤ sizeLine) (hdf : d.params.defaults = []) (hr : Room k callerA)
    (Fn : ∀ (w : World) (mg : Str → Option Value) (fa : Addr) (h : Heap), YP w h → h.Ns mainGlobals mg → mg d.name = some (.ref fa) →
      ∃ (K : PySem.W.Frag) (fd : FuncData), K.In h ∧ SysD h ∧ (∀ (s : Shared) (u : Value), BindsTo s fd ⟨[u], []⟩ [(x, u)]) ∧
        ∀ base : Heap, K.In base → base.Ns mainGlobals mg → SysD base → FnG l.prog w K mg base k fa fd [x] (lawS n)) :
    PySem.W.WalkO q loose XP YP l.row.toRowW d [] (fun f vs => PySem.call f vs) := by
  refine Att.attach_call hn hdf fun w s₀ s₁ mg mb fa o pm cd doc a vs ns G Y ho hd hcd hmg hobj hints hlen hg => ?_
  obtain ⟨K, fd, KX, hsys, hb, hF⟩ := Fn w mg fa _ Y G.T.g hmg
  exact law_data KX G.T.g G.T.b G.T.builtins G.T.nolimit hg hobj hints hlen hn2 hr hsys hF hb
/-- the head's facts, and that the modules' dict stands -/
def sysB (g : Addr → Option Obj) : Bool := match g sysModules with
  | some ⟨_, _, .dict _ _, _⟩ => true
  | _ => false
theorem sysB_of {h : Heap} (e : sysB h.get? = true) : SysD h := by
  unfold sysB at e
  split at e
  · rename_i c di es ep sl z
    exact ⟨_, es, ep, z, rfl⟩
  · cases e
def hookS (n : Nat) (fa : List He.Fa) (fn : List He.FnD) : PySem.W.Hook where
  α := He.Al × Bool
  obs := fun s => (He.obsG n fa fn s.heap.get?, sysB s.heap.get?)
  val := fun _ => (He.valE fn, true)
  says := fun _ h => (∃ K : PySem.W.Frag, K.In h ∧ He.SaysE fa fn K) ∧ SysD h
  of := fun w s e => ⟨(He.hookE n fa fn).of w s (congrArg Prod.fst e), sysB_of (congrArg Prod.snd e)⟩
  keeps := fun w h h' ⟨a, o, es, ep, e, d⟩ k => ⟨(He.hookE n fa fn).keeps w h h' a k, o, es, ep, k _ _ e, d⟩
theorem obsS_eq {n : Nat} {fa : List He.Fa} {fn : List He.FnD} {g : Addr → Option Obj} {s : Shared} (h : ∀ a, g a = s.heap.get? a) : (He.obsG n fa fn g, sysB g) = (hookS n fa fn).obs s := by
  have e : g = s.heap.get? := funext h
  rw [e] <;> rfl
end DL

/-! The data layer, part 9: repr; sums. -/
namespace DL
variable {Z : Zx}
open PySem PySem.Spec PyProof.Rows L2
open Evl (Ex)

mutual
/-- leaves that can be shown -/
def rp : PyData → Bool
  | .none => true
  | .bool _ => true
  | .int i => decide (i.natAbs < 10 ^ 250)
  | .str x => x.cps.toList.all fun c => decide (c < 16 ^ 8)
  | .list xs => rpAll xs
  | .tuple xs => rpAll xs
  | .dict kvs => kvs.isEmpty
def rpAll : List PyData → Bool
  | [] => true
  | x :: xs => rp x && rpAll xs
end
theorem int_short {i : Int} (h : i.natAbs < 10 ^ 250) : (PyData.shown (.int i)).length ≤ 300 := by
  have e := int_text_length_le10 (k := 250) (by decide) h
  clear h
  show (Str.ofString (toString i)).length ≤ 300
  rw [PySem.ofString_length]
  omega
mutual
theorem rp_short : ∀ {d : PyData}, rp d = true → d.leavesShort 300 = true ∧ d.showable = true
  | .none, _ => ⟨by simp [PyData.leavesShort], by simp [PyData.showable]⟩
  | .bool _, _ => ⟨by simp [PyData.leavesShort], by simp [PyData.showable]⟩
  | .int i, h => by
    have h1 : i.natAbs < 10 ^ 250 := by simpa only [rp, decide_eq_true_eq] using h
    refine ⟨?_, ?_⟩
    · simp only [PyData.leavesShort, decide_eq_true_eq]
      exact int_short h1
    · simp only [PyData.showable, decide_eq_true_eq]
      exact Nat.lt_trans (log250 h1) (by decide)
  | .str x, h => by
    refine ⟨?_, by simp [PyData.showable]⟩
    simpa only [rp, PyData.leavesShort] using h
  | .list xs, h => by
    have := rp_shortAll (by simpa only [rp] using h : rpAll xs = true)
    simpa only [PyData.leavesShort, PyData.showable] using this
  | .tuple xs, h => by
    have := rp_shortAll (by simpa only [rp] using h : rpAll xs = true)
    simpa only [PyData.leavesShort, PyData.showable] using this
  | .dict [], h => ⟨by simp [PyData.leavesShort, PyData.leavesShortKv], by simp [PyData.showable, PyData.showableKv]⟩
  | .dict (_ :: _), h => by simp [rp] at h
theorem rp_shortAll : ∀ {ds : List PyData}, rpAll ds = true → PyData.leavesShortAll 300 ds = true ∧ PyData.showableAll ds = true
  | [], _ => ⟨by simp [PyData.leavesShortAll], by simp [PyData.showableAll]⟩
  | d :: ds, h => by
    simp only [rpAll, Bool.and_eq_true] at h
    obtain ⟨a1, a2⟩ := rp_short h.1
    obtain ⟨b1, b2⟩ := rp_shortAll h.2
    exact ⟨by simp [PyData.leavesShortAll, a1, b1], by simp [PyData.showableAll, a2, b2]⟩
end
theorem rp_len {d : PyData} (h : rp d = true) (hb : d.bulk ≤ 50000) : d.shown.length ≤ sizeLine := by
  have h1 := PyData.shown_le_bulk 300 (by decide) d (rp_short h).1
  have h2 : (300 + 2) * d.bulk ≤ 302 * 50000 := Nat.mul_le_mul_left _ hb
  rw [sizeLine_eq]
  omega
section
variable {X : Cx} {K : PySem.W.Frag} {e : Expr} {es : List Expr} {p pos : Pos} {was : DA} {k : Nat}
theorem no_sys (hB : SysD X.base) {pins : List (Addr × Obj)} {σ : L2.St} {H : Hp} {s : Shared} (I : Inv X pins σ H s) {a : Addr} {o : Obj} {its : Array Value} {n : Nat} (h : s.heap.get? a = some o) (hd : o.data = .seq its n) : sysModules ≠ a := fun e => by
  subst e
  obtain ⟨o', es, ep, h1, h2⟩ := hB
  have := I.bk _ _ h1
  rw [h] at this
  cases this
  rw [hd] at h2
  cases h2
mutual
theorem DR.readsS (hB : SysD X.base) {pins : List (Addr × Obj)} {σ : L2.St} {H : Hp} {s : Shared} (I : Inv X pins σ H s) : ∀ (d : PyData) (v : V) (u : Value), DR X.K H v d → rp d = true → RelV v u → ∃ as, Reads s.heap u d as ∧ sysModules ∉ as
  | .none, _, _, h, _, r => by
    cases h
    cases r
    exact ⟨_, Reads.none, by simp⟩
  | .bool b, _, _, h, _, r => by
    cases h
    cases r
    exact ⟨_, Reads.bool b, by simp⟩
  | .int i, _, _, h, _, r => by
    cases h
    obtain ⟨t, rfl⟩ := r
    exact ⟨_, Reads.int i t, by simp⟩
  | .str x, _, _, h, _, r => by
    cases h
    obtain ⟨t, rfl⟩ := r
    exact ⟨_, Reads.str x t, by simp⟩
  | .list ds, _, _, h, hr, r => by
    cases h with
    | lst hs ha =>
      cases r
      obtain ⟨_, its, n, rv, ho⟩ := hs.obj I
      obtain ⟨as, q, hn⟩ := DRs.readsS hB I ds _ its ha (by simpa only [rp] using hr) rv
      refine ⟨_, Reads.list ho rfl rfl q, fun hm => ?_⟩
      rcases List.mem_cons.mp hm with e | hm
      · exact no_sys hB I ho rfl e
      · exact hn hm
  | .tuple ds, _, _, h, hr, r => by
    cases h with
    | tup hs ha =>
      cases r
      obtain ⟨its, rv, ⟨o, ho, hc, n, hd⟩, _⟩ := I.tuple hs.sq
      obtain ⟨as, q, hn⟩ := DRs.readsS hB I ds _ its ha (by simpa only [rp] using hr) rv
      exact ⟨_, Reads.tuple ho hc hd q, hn⟩
  | .dict [], _, _, h, _, r => by
    cases h with
    | dct hs =>
      rename_i a
      cases r
      obtain ⟨_, hsm, vs, rel, dd⟩ := dk_of I.hok hs
      cases rel
      obtain ⟨o, es, ep, ho, hx, hd, hes⟩ : ∃ o es ep, s.heap.get? a = some o ∧ o.cls = .type "dict" ∧ o.data = .dict es ep ∧ es.toList = [] := by
        obtain ⟨o, es, ep, ho, hx, hd, _, hp, _⟩ := dd
        refine ⟨o, es, ep, ho, ?_, hd, ?_⟩
        · first | exact hx.1 | exact hx
        · have := hp.length
          exact List.eq_nil_of_length_eq_zero (by simpa using this)
      refine ⟨_, Reads.dict (as := []) (bs := []) ho hx hd (by rw [hes]; exact .nil) (by rw [hes]; exact .nil), fun hm => ?_⟩
      rcases List.mem_cons.mp hm with e | hm
      · rw [← e] at hsm
        simp at hsm
      · simp at hm
  | .dict (_ :: _), _, _, _, hr, _ => by simp [rp] at hr
theorem DRs.readsS (hB : SysD X.base) {pins : List (Addr × Obj)} {σ : L2.St} {H : Hp} {s : Shared} (I : Inv X pins σ H s) : ∀ (ds : List PyData) (vs : List V) (us : List Value), DRs X.K H vs ds → rpAll ds = true → Vals vs us → ∃ as, ReadsAll s.heap us ds as ∧ sysModules ∉ as
  | [], _, _, h, _, r => by
    cases h
    cases r
    exact ⟨_, ReadsAll.nil, by simp⟩
  | d :: ds, _, _, h, hr, r => by
    simp only [rpAll, Bool.and_eq_true] at hr
    cases h with
    | cons h1 h2 =>
      cases r with
      | cons r1 r2 =>
        obtain ⟨as, q1, n1⟩ := DR.readsS hB I d _ _ h1 hr.1 r1
        obtain ⟨bs, q2, n2⟩ := DRs.readsS hB I ds _ _ h2 hr.2 r2
        exact ⟨_, ReadsAll.cons q1 q2, fun hm => (List.mem_append.mp hm).elim n1 n2⟩
end
def rRepr (K : PySem.W.Frag) : List V → Hp → VK → Prop := fun xs H Q => ∃ x d, xs = [x] ∧ DR K H x d ∧ rp d = true ∧ d.depth ≤ 40 ∧ d.shown.length ≤ sizeLine ∧ Q (.str d.shown) H
theorem call_repr (hB : SysD X.base) (hg : X.A.guards = some []) (hu : X.A.units + 64 < cLine) : CallR X (.builtin "repr") (rRepr X.K) := by
  intro pins s σ H xs us Q I r h
  obtain ⟨x, d, rfl, dp, hr, hdep, hz, q⟩ := h
  obtain ⟨u, rfl, rx⟩ := vals1 r
  have hs := (rp_short hr).2
  have big : ∀ a, u = .ref a → wpAny (model X.prog X.w) X.A (call (.builtin "repr") [u]) (EP X pins σ Q) X.xe s := fun a ea => by
    obtain ⟨as, rd, hn⟩ := DR.readsS hB I d x u dp hr rx
    subst ea
    exact repr_of_reads' rd hs (fun _ => hn) hg (by omega) (fun _ _ e => e) (fun h' t tk kk => ⟨.str d.shown, H, I.kept kk, ⟨_, rfl⟩, q⟩) hz
  cases dp with
  | non =>
    cases rx
    exact PySem.P.repr_of_none ⟨.str _, H, I.tok _, ⟨_, rfl⟩, q⟩
  | bl b =>
    cases rx
    exact PySem.P.repr_of_bool ⟨.str _, H, I.tok _, ⟨_, rfl⟩, (by cases b <;> exact q)⟩
  | int i =>
    obtain ⟨t, rfl⟩ := rx
    exact PySem.P.repr_of_int (by simpa only [PyData.showable, decide_eq_true_eq] using hs) ⟨.str _, H, I.tok _, ⟨_, rfl⟩, q⟩
  | str z =>
    obtain ⟨t, rfl⟩ := rx
    exact PySem.P.repr_of_str ⟨.str _, H, I.tok _, ⟨_, rfl⟩, q⟩ hz
  | lst _ _ => cases rx; exact big _ rfl
  | tup _ _ => cases rx; exact big _ rfl
  | dct _ => cases rx; exact big _ rfl
  | row _ _ => simp [rp] at hr
  | exc _ _ => simp [rp] at hr
def nRepr (xs : List PyData) (P : PyData → Prop) : Prop := match xs with
  | [d] => (rp d = true ∧ d.bulk ≤ 50000 ∧ d.depth ≤ 40) ∧ P (.str d.shown)
  | _ => False
theorem drepr (hB : SysD X.base) (hm : X.mg "repr" = none) (hr : Room k X.A) (hA : X.A.guards = some []) (ha : PA X (e :: es) (liftA X.K Z was)) (hg : Gl X "repr" := by rfl)
    (he : starEach (e :: es) X.env = (false, eval e X.env) :: starEach es X.env := by rfl) (hpl : (backTo pos (starEach es X.env)).any (·.1) = false := by rfl) : PE X (.Call (.Name "repr" p) (e :: es) [] pos) (liftE X.K Z (dB nRepr was)) :=
  dcb (call_repr hB hA hr.units) (fun _ g F env σ H vs ds P Q k r f q => by
    unfold nRepr at f
    split at f
    · obtain ⟨v, rfl, r0⟩ := r.inv1
      obtain ⟨⟨h1, h2, h3⟩, f⟩ := f
      exact ⟨v, _, rfl, drH k r0, h1, h3, rp_len h1 h2, q _ _ F H f (Ex.refl F) k (.str _)⟩
    · exact f.elim) hm (by decide +kernel) ha hg (by decide) (by decide) he hpl
/-- sum of a list, of a tuple of whole numbers -/
def rSumD (K : PySem.W.Frag) : List V → Hp → VK → Prop := fun vs H Q => ∃ (a : Addr) (ns : List Int), vs = [.ref a] ∧ (SqL K H a (ns.map V.int) ∨ SqT K H a (ns.map V.int)) ∧ Q (.int ns.sum) H
theorem call_sumD (hc : X.calm = true) : CallR X (.builtin "sum") (rSumD X.K) := by
  intro pins s σ H xs us Q I r h
  obtain ⟨a, ns, rfl, h | h, q⟩ := h
  · exact cr_sum hc pins s σ H _ us Q I r ⟨a, ns, rfl, h, q⟩
  · cases r.ref1
    obtain ⟨its, rv, ht, hz⟩ := I.tuple h
    have hi := rv.ints
    obtain ⟨xs, hx⟩ := hi.allInts.items
    have hn : numsOf its.toArray.toList = ns := by rw [show its.toArray.toList = its from rfl, hi.numsOf]
    have ht2 : s.heap.IsTuple a its.toArray := ht
    rw [hx] at ht2 hn
    rw [nums_intItems] at hn
    refine PySem.W.ktm_sumG (I.ok.hd hc) ht2 fun h' tk t' hk => ?_
    rw [preSum_eq, List.take_of_length_le (by simp), hn]
    exact ⟨.int ns.sum, H, I.kept hk, ⟨_, rfl⟩, q⟩
def nSum (xs : List PyData) (P : PyData → Prop) : Prop := match xs with
  | [.list ds] => (match intsD ds with | some ns => P (.int ns.sum) | none => False)
  | [.tuple ds] => (match intsD ds with | some ns => P (.int ns.sum) | none => False)
  | _ => False
theorem dsum (hm : X.mg "sum" = none) (hc : X.calm = true) (ha : PA X (e :: es) (liftA X.K Z was)) (hg : Gl X "sum" := by rfl)
    (he : starEach (e :: es) X.env = (false, eval e X.env) :: starEach es X.env := by rfl) (hpl : (backTo pos (starEach es X.env)).any (·.1) = false := by rfl) : PE X (.Call (.Name "sum" p) (e :: es) [] pos) (liftE X.K Z (dB nSum was)) :=
  dcb (call_sumD hc) (fun _ g F env σ H vs ds P Q k r f q => by
    unfold nSum at f
    split at f
    · split at f
      · rename_i ns e
        obtain ⟨v, rfl, r0⟩ := r.inv1
        obtain ⟨a, us, rfl, h1, h2⟩ := r0.inv_lst
        cases ints_rel h2 e
        exact ⟨a, ns, rfl, .inl (h1.mono k.fh).sq, q _ _ F H f (Ex.refl F) k (.int _)⟩
      · exact f.elim
    · split at f
      · rename_i ns e
        obtain ⟨v, rfl, r0⟩ := r.inv1
        obtain ⟨a, us, rfl, h1, h2⟩ := r0.inv_tup
        cases ints_rel h2 e
        exact ⟨a, ns, rfl, .inr (Evl.ex_t k.fh h1), q _ _ F H f (Ex.refl F) k (.int _)⟩
      · exact f.elim
    · exact f.elim) hm (by decide +kernel) ha hg (by decide) (by decide) he hpl
end
end DL

/-! The data layer, part 10: loops and comprehensions read as data. -/
namespace DL
variable {Z : Zx}
open PySem PySem.Spec PyProof.Rows L2

section
variable {I S : Type}
theorem qFor_go {b : PyData → I → S → (I → S → Prop) → (I → S → Prop) → Prop} {items : List PyData} {i : I} {K : S → Prop} (Inv : Nat → S → Prop)
    (step : ∀ (k : Nat) (d : PyData) (s : S) (nx : I → S → Prop), items[k]? = some d → Inv k s → (∀ s', Inv (k + 1) s' → nx i s') → b d i s nx (same i K))
    (fin : ∀ s, Inv items.length s → K s) : ∀ (m k : Nat) (s : S), k + m = items.length → Inv k s → qFor b i (items.drop k) s K
  | 0, k, s, hm, h => by
    have e : k = items.length := by omega
    subst e
    rw [List.drop_length]
    exact fin s h
  | m + 1, k, s, hm, h => by
    have hk : k < items.length := by omega
    rw [List.drop_eq_getElem_cons hk]
    exact step k _ s _ (by simp [hk]) h fun s' h' => ⟨rfl, qFor_go Inv step fin m (k + 1) s' (by omega) h'⟩
/-- a for, by what holds ahead of each turn -/
theorem qFor_ind {b : PyData → I → S → (I → S → Prop) → (I → S → Prop) → Prop} {items : List PyData} {i : I} {s : S} {K : S → Prop} (Inv : Nat → S → Prop) (h0 : Inv 0 s)
    (step : ∀ (k : Nat) (d : PyData) (s : S) (nx : I → S → Prop), items[k]? = some d → Inv k s → (∀ s', Inv (k + 1) s' → nx i s') → b d i s nx (same i K))
    (fin : ∀ s, Inv items.length s → K s) : qFor b i items s K := qFor_go Inv step fin items.length 0 s (by omega) h0
/-- a for over a range -/
theorem qFor_range {b : PyData → I → S → (I → S → Prop) → (I → S → Prop) → Prop} {lo : Int} {n : Nat} {i : I} {s : S} {K : S → Prop} (Inv : Nat → S → Prop) (h0 : Inv 0 s)
    (step : ∀ (k : Nat) (s : S) (nx : I → S → Prop), k < n → Inv k s → (∀ s', Inv (k + 1) s' → nx i s') → b (.int (lo + k)) i s nx (same i K))
    (fin : ∀ s, Inv n s → K s) : qFor b i (rangeD lo n) s K := by
  have hl : (rangeD lo n).length = n := by simp [rangeD]
  refine qFor_ind Inv h0 (fun k d s nx hd hi hn => ?_) fun s h => fin s (by rwa [hl] at h)
  unfold rangeD at hd
  rw [List.getElem?_map] at hd
  by_cases hk : k < n
  · rw [List.getElem?_range hk] at hd
    cases hd
    exact step k s nx hk hi hn
  · rw [List.getElem?_eq_none (by simp; omega)] at hd
    cases hd
/-- a for whose turns carry nothing -/
theorem qFor_all {b : PyData → I → S → (I → S → Prop) → (I → S → Prop) → Prop} {items : List PyData} {i : I} {s : S} {K : S → Prop} (Inv : S → Prop) (h0 : Inv s)
    (step : ∀ (d : PyData) (s : S) (nx : I → S → Prop), d ∈ items → Inv s → (∀ s', Inv s' → nx i s') → b d i s nx (same i K)) (fin : ∀ s, Inv s → K s) : qFor b i items s K :=
  qFor_ind (fun _ s => Inv s) h0 (fun _ d s nx hd hi hn => step d s nx (List.mem_of_getElem? hd) hi hn) fun s h => fin s h
theorem qWhile_go {b : I → S → (I → S → Prop) → (I → S → Prop) → Prop} {i : I} {K : S → Prop} (Inv : Nat → S → Prop)
    (step : ∀ (m : Nat) (s : S) (nx : I → S → Prop), Inv m s → (∀ m' s', m' < m → Inv m' s' → nx i s') → b i s nx (same i K)) : ∀ (n m : Nat) (s : S), m < n → Inv m s → qWhileN b i n s K
  | 0, _, _, h, _ => absurd h (Nat.not_lt_zero _)
  | n + 1, m, s, h, hi => step m s _ hi fun m' s' hm hi' => ⟨rfl, qWhile_go Inv step n m' s' (by omega) hi'⟩
/-- a while, by a measure that falls -/
theorem qWhile_ind {b : I → S → (I → S → Prop) → (I → S → Prop) → Prop} {i : I} {s : S} {K : S → Prop} (Inv : Nat → S → Prop) {m : Nat} (h0 : Inv m s)
    (step : ∀ (m : Nat) (s : S) (nx : I → S → Prop), Inv m s → (∀ m' s', m' < m → Inv m' s' → nx i s') → b i s nx (same i K)) : qWhile b i s K := ⟨m + 1, qWhile_go Inv step (m + 1) m s (Nat.lt_succ_self m) h0⟩
theorem qLc_go {b : PyData → I → S → (I → S → Prop) → (PyData → I → S → Prop) → Prop} {items : List PyData} {i : I} {K : List PyData → S → Prop} (Inv : Nat → List PyData → S → Prop)
    (step : ∀ (k : Nat) (d : PyData) (acc : List PyData) (s : S) (sk : I → S → Prop) (yd : PyData → I → S → Prop), items[k]? = some d → Inv k acc s → (∀ s', Inv (k + 1) acc s' → sk i s') →
      (∀ y s', acc.length < 100000 → Inv (k + 1) (acc ++ [y]) s' → yd y i s') → b d i s sk yd) (hz : ∀ k acc s, k < items.length → Inv k acc s → acc.length < 100000)
    (fin : ∀ acc s, Inv items.length acc s → K acc s) : ∀ (m k : Nat) (acc : List PyData) (s : S), k + m = items.length → Inv k acc s → qLc b i (items.drop k) acc s K
  | 0, k, acc, s, hm, h => by
    have e : k = items.length := by omega
    subst e
    rw [List.drop_length]
    exact fin acc s h
  | m + 1, k, acc, s, hm, h => by
    have hk : k < items.length := by omega
    rw [List.drop_eq_getElem_cons hk]
    exact step k _ acc s _ _ (by simp [hk]) h (fun s' h' => ⟨rfl, qLc_go Inv step hz fin m (k + 1) acc s' (by omega) h'⟩) fun y s' hl h' => ⟨rfl, hz k acc s hk h, qLc_go Inv step hz fin m (k + 1) (acc ++ [y]) s' (by omega) h'⟩
/-- a comprehension, by what holds ahead of each turn -/
theorem qLc_ind {b : PyData → I → S → (I → S → Prop) → (PyData → I → S → Prop) → Prop} {items : List PyData} {i : I} {s : S} {K : List PyData → S → Prop} (Inv : Nat → List PyData → S → Prop) (h0 : Inv 0 [] s)
    (hz : ∀ k acc s, k < items.length → Inv k acc s → acc.length < 100000)
    (step : ∀ (k : Nat) (d : PyData) (acc : List PyData) (s : S) (sk : I → S → Prop) (yd : PyData → I → S → Prop), items[k]? = some d → Inv k acc s → (∀ s', Inv (k + 1) acc s' → sk i s') →
      (∀ y s', Inv (k + 1) (acc ++ [y]) s' → yd y i s') → b d i s sk yd)
    (fin : ∀ acc s, Inv items.length acc s → K acc s) : qLc b i items [] s K :=
  qLc_go Inv (fun k d acc s sk yd hd hi h1 h2 => step k d acc s sk yd hd hi h1 fun y s' h => h2 y s' (hz k acc s (List.getElem?_eq_some_iff.mp hd).1 hi) h) hz fin items.length 0 [] s (by omega) h0
/-- each item gives one, a state is carried -/
theorem qLc_each {b : PyData → I → S → (I → S → Prop) → (PyData → I → S → Prop) → Prop} {items : List PyData} {i : I} {s : S} {K : List PyData → S → Prop} (T : PyData → Prop) (Inv : Nat → S → Prop) (h0 : Inv 0 s) (hz : items.length ≤ 100000)
    (step : ∀ (k : Nat) (d : PyData) (s : S) (sk : I → S → Prop) (yd : PyData → I → S → Prop), items[k]? = some d → Inv k s → (∀ y s', T y → Inv (k + 1) s' → yd y i s') → b d i s sk yd)
    (fin : ∀ acc s, acc.length = items.length → (∀ y ∈ acc, T y) → Inv items.length s → K acc s) : qLc b i items [] s K :=
  qLc_ind (fun k acc s => acc.length = k ∧ (∀ y ∈ acc, T y) ∧ Inv k s) ⟨rfl, by simp, h0⟩ (fun k acc s hk h => by have := h.1; omega) (fun k d acc s sk yd hd ⟨h1, h2, h3⟩ _ hy => step k d s sk yd hd h3 fun y s' ty h' => hy y s' ⟨by simp [h1], fun z hz => by
    rcases List.mem_append.mp hz with hz | hz
    · exact h2 z hz
    · rw [List.mem_singleton.mp hz]; exact ty, h'⟩) fun acc s ⟨h1, h2, h3⟩ => fin acc s h1 h2 h3
/-- [f x for x in items], nothing changed -/
theorem qLc_map {b : PyData → I → S → (I → S → Prop) → (PyData → I → S → Prop) → Prop} {items : List PyData} {i : I} {s : S} {K : List PyData → S → Prop} (f : PyData → PyData) (hz : items.length ≤ 100000)
    (step : ∀ d ∈ items, ∀ (sk : I → S → Prop) (yd : PyData → I → S → Prop), yd (f d) i s → b d i s sk yd) (fin : K (items.map f) s) : qLc b i items [] s K :=
  qLc_ind (fun k acc s' => acc = (items.take k).map f ∧ s' = s) ⟨by simp, rfl⟩ (fun k acc s' hk h => by rw [h.1]; simp; omega)
    (fun k d acc s' sk yd hd ⟨h1, h2⟩ _ hy => by
      subst h2
      refine step d (List.mem_of_getElem? hd) sk yd (hy _ _ ⟨?_, rfl⟩)
      rw [List.take_add_one, hd, h1]
      simp) fun acc s' ⟨h1, h2⟩ => by
      subst h1 h2
      rw [List.take_length]
      exact fin
/-- [.. for x in items if ..], nothing changed -/
theorem qLc_fmap {b : PyData → I → S → (I → S → Prop) → (PyData → I → S → Prop) → Prop} {items : List PyData} {i : I} {s : S} {K : List PyData → S → Prop} (f : PyData → Option PyData) (hz : items.length ≤ 100000)
    (step : ∀ d ∈ items, ∀ (sk : I → S → Prop) (yd : PyData → I → S → Prop), (∀ y, f d = some y → yd y i s) → (f d = none → sk i s) → b d i s sk yd) (fin : K (items.filterMap f) s) : qLc b i items [] s K :=
  qLc_ind (fun k acc s' => acc = (items.take k).filterMap f ∧ s' = s) ⟨by simp, rfl⟩ (fun k acc s' hk h => by
      rw [h.1]
      exact Nat.lt_of_le_of_lt (List.length_filterMap_le f _) (by simp; omega))
    (fun k d acc s' sk yd hd ⟨h1, h2⟩ hs hy => by
      subst h2
      refine step d (List.mem_of_getElem? hd) sk yd (fun y e => hy _ _ ⟨?_, rfl⟩) fun e => hs _ ⟨?_, rfl⟩
      · rw [List.take_add_one, hd, h1]
        simp [e]
      · rw [List.take_add_one, hd, h1]
        simp [e]) fun acc s' ⟨h1, h2⟩ => by
      subst h1 h2
      rw [List.take_length]
      exact fin
end
theorem ixN_in {n : Nat} {k : Int} (h0 : 0 ≤ k) (h1 : k < n) : ixN n k = some k.toNat := by
  unfold ixN
  rw [if_pos h0, if_pos h1]
theorem atI_in {xs : List PyData} {k : Int} (h0 : 0 ≤ k) (h1 : k < xs.length) : ∃ d, atI xs k = some d ∧ d ∈ xs := by
  unfold atI
  rw [ixN_in h0 h1]
  have hk : k.toNat < xs.length := by omega
  exact ⟨xs[k.toNat], by simp [hk], List.getElem_mem hk⟩
theorem at_of {xs : List PyData} {k : Int} {P : PyData → Prop} (h0 : 0 ≤ k) (h1 : k < xs.length) (h : ∀ d ∈ xs, P d) : pick xs k P := by
  obtain ⟨d, e, m⟩ := atI_in h0 h1
  unfold pick
  rw [e]
  exact h d m
theorem pick_at {xs : List PyData} {k : Nat} {P : PyData → Prop} {d : PyData} (e : xs[k]? = some d) (h : P d) : pick xs (k : Int) P := by
  unfold pick atI
  rw [ixN_in (by omega) (by have := (List.getElem?_eq_some_iff.mp e).1; omega)]
  show match xs[(k : Int).toNat]? with | some d => P d | none => False
  rw [Int.toNat_natCast, e]
  exact h
theorem pick_eq {xs : List PyData} {k : Int} {P : PyData → Prop} {d : PyData} (e : atI xs k = some d) : pick xs k P = P d := by
  unfold pick
  rw [e]
theorem range_get {lo : Int} {n i : Nat} {d : PyData} (h : (rangeD lo n)[i]? = some d) : i < n ∧ d = .int (lo + i) := by
  unfold rangeD at h
  rw [List.getElem?_map] at h
  by_cases hi : i < n
  · rw [List.getElem?_range hi] at h
    cases h
    exact ⟨hi, rfl⟩
  · rw [List.getElem?_eq_none (by simp; omega)] at h
    cases h
theorem range_len {lo : Int} {n : Nat} : (rangeD lo n).length = n := by simp [rangeD]
end DL

/-! The data layer, part 11: slices, tuple(..), list(..), int(..), enumerate. -/
namespace DL
variable {Z : Zx}
open PySem PySem.Spec PyProof.Rows L2
open Evl (Ex)

section
variable {X : Cx} {a b e : Expr} {es : List Expr} {we wa wb : DE} {was : DA} {pos p2 p : Pos} {K : PySem.W.Frag}
/-! ### slices -/
abbrev DO := List SD → (Option Int → List SD → Prop) → Prop
def liftO (K : PySem.W.Frag) (Z : Zx) (w : DO) : TO := fun σ H Q => ∃ (g : Gx Z) (F : Hp) (env : List SD) (P : Option Int → List SD → Prop), Ok K g F env σ H ∧ w env P ∧
  ∀ o env' F' H', P o env' → Ex F F' → Ok K g F' env' σ H' → Q o H'
theorem PO.of {e : Option Expr} {t t' : TO} (h : PO X e t) (w : ∀ σ H Q, t' σ H Q → t σ H Q) : PO X e t' := ⟨fun pins s σ H Q I q => h.run pins s σ H Q I (w σ H Q q)⟩
def dNo (env : List SD) (P : Option Int → List SD → Prop) : Prop := P none env
def soQ (x : PyData) (K : Option Int → Prop) : Prop := match x with
  | .int i => K (some i)
  | _ => False
def dSo (w : DE) (env : List SD) (P : Option Int → List SD → Prop) : Prop := w env fun x env' => soQ x fun o => P o env'
theorem so_none : PO X none (liftO X.K Z dNo) := PO.of po_none fun σ H Q ⟨g, F, env, P, k, w, q⟩ => q none env F H w (Ex.refl F) k
theorem so_some (h : PE X e (liftE X.K Z we)) : PO X (some e) (liftO X.K Z (dSo we)) := PO.of (po_some h) fun σ H Q ⟨g, F, env, P, k, w, q⟩ =>
  ⟨g, F, env, _, k, w, fun d env1 v F1 H1 p e1 k1 r1 => by
    unfold soQ at p
    split at p
    · cases r1.inv_int
      exact ⟨_, rfl, q _ env1 F1 H1 p e1 k1⟩
    · exact p.elim⟩
/-- the items of ds[lo:hi] -/
def cutD (ds : List PyData) (lo hi : Option Int) : List PyData := (ds.drop (HT.sIx ds.length 0 lo)).take (HT.sIx ds.length ds.length hi - HT.sIx ds.length 0 lo)
theorem DRs.cut {H : Hp} {vs : List V} {ds : List PyData} (lo hi : Option Int) (h : DRs K H vs ds) : DRs K H (cutV vs lo hi) (cutD ds lo hi) := by
  unfold cutV cutD
  rw [h.length]
  exact (h.drop _).take _
def oSl (x : PyData) (lo hi : Option Int) (P : PyData → Prop) : Prop := match x with
  | .tuple ds => P (.tuple (cutD ds lo hi))
  | .list ds => P (.list (cutD ds lo hi))
  | .str z => z.length ≤ 100000 ∧ P (.str (cutS z lo hi))
  | _ => False
def dSl (w : DE) (l h : DO) (env : List SD) (P : PyData → List SD → Prop) : Prop := w env fun x env1 => l env1 fun lo env2 => h env2 fun hi env3 => oSl x lo hi fun d => P d env3
theorem cutV_whole {xs : List V} {lo hi : Option Int} (h : HT.sIx xs.length 0 lo = 0 ∧ HT.sIx xs.length xs.length hi = xs.length) : cutV xs lo hi = xs := by
  unfold cutV
  rw [h.1, h.2]
  simp
theorem cutD_whole {xs : List PyData} {lo hi : Option Int} (h : HT.sIx xs.length 0 lo = 0 ∧ HT.sIx xs.length xs.length hi = xs.length) : cutD xs lo hi = xs := by
  unfold cutD
  rw [h.1, h.2]
  simp
theorem dsl {l u : Option Expr} {tl tu : DO} (he : PE X e (liftE X.K Z we)) (hl : PO X l (liftO X.K Z tl)) (hu : PO X u (liftO X.K Z tu)) : PE X (.Subscript e (.Slice l u none p2) pos) (liftE X.K Z (dSl we tl tu)) :=
  PE.of (pe_slice (SlR.or sl_tupZ (SlR.or sl_list sl_str)) he hl hu) fun σ H Q ⟨g, F, env, P, k, w, q⟩ =>
    ⟨g, F, env, _, k, w, fun d env1 v F1 H1 p e1 k1 r1 => ⟨g, F1, env1, _, k1, p, fun lo env2 F2 H2 p2 e2 k2 => ⟨g, F2, env2, _, k2, p2, fun hi env3 F3 H3 p3 e3 k3 => by
      have r3 := (r1.mono e2).mono e3
      have e13 := e1.trans (e2.trans e3)
      unfold oSl at p3
      split at p3
      · rename_i ds
        obtain ⟨a, us, rfl, h1, h2⟩ := r3.inv_tup
        refine .inl ⟨a, us, rfl, Evl.ex_t k3.fh h1, fun hw => ?_, fun _ x o hx ho => ?_⟩
        · rw [h2.length] at hw
          rw [cutD_whole hw] at p3
          exact q _ env3 _ F3 H3 p3 e13 k3 r3
        · obtain ⟨e4, k4, r4⟩ := k3.newTup hx ho (h2.cut lo hi)
          exact q _ env3 _ _ _ p3 (e13.trans e4) k4 r4
      · rename_i ds
        obtain ⟨a, us, rfl, h1, h2⟩ := r3.inv_lst
        refine .inr (.inl ⟨a, us, rfl, (h1.mono k3.fh).sq, fun x hx => ?_⟩)
        obtain ⟨e4, k4, r4⟩ := k3.newLst hx (h2.cut lo hi)
        exact q _ env3 _ _ _ p3 (e13.trans e4) k4 r4
      · cases r3.inv_str
        exact .inr (.inr ⟨_, rfl, sz2 p3.1, q _ env3 _ F3 H3 p3.2 e13 k3 (.str _)⟩)
      · exact p3.elim⟩⟩⟩
def lstQ (x : PyData) (K : List PyData → Prop) : Prop := match x with
  | .list ds => K ds
  | _ => False
/-- a slice of a list, as a new cell -/
def dSlN (w : DE) (l h : DO) (env : List SD) (P : SD → List SD → Prop) : Prop := w env fun x env1 => l env1 fun lo env2 => h env2 fun hi env3 => lstQ x fun ds => P (.cel false (cutD ds lo hi)) env3
theorem dslN {l u : Option Expr} {tl tu : DO} (he : PE X e (liftE X.K Z we)) (hl : PO X l (liftO X.K Z tl)) (hu : PO X u (liftO X.K Z tu)) : PE X (.Subscript e (.Slice l u none p2) pos) (liftX X.K Z (dSlN we tl tu)) :=
  PE.of (pe_slice sl_list he hl hu) fun σ H Q ⟨g, F, env, P, k, w, q⟩ =>
    ⟨g, F, env, _, k, w, fun d env1 v F1 H1 p e1 k1 r1 => ⟨g, F1, env1, _, k1, p, fun lo env2 F2 H2 p2 e2 k2 => ⟨g, F2, env2, _, k2, p2, fun hi env3 F3 H3 p3 e3 k3 => by
      have r3 := (r1.mono e2).mono e3
      unfold lstQ at p3
      split at p3
      · rename_i ds
        obtain ⟨a, us, rfl, h1, h2⟩ := r3.inv_lst
        refine ⟨a, us, rfl, (h1.mono k3.fh).sq, fun x hx => ?_⟩
        obtain ⟨k4, r4⟩ := k3.newCell hx (h2.cut lo hi)
        exact q _ env3 _ _ _ p3 (e1.trans (e2.trans e3)) k4 r4
      · exact p3.elim⟩⟩⟩
/-- a slice of a name's own cell, as a new cell -/
def dSlC (i : Nat) (l h : DO) (env : List SD) (P : SD → List SD → Prop) : Prop := match env[i]? with
  | some (.cel _ _) => l env fun lo env2 => h env2 fun hi env3 => match env3[i]? with
    | some (.cel _ xs) => P (.cel false (cutD xs lo hi)) env3
    | _ => False
  | _ => False
theorem dslC (i : Nat) {x : Str} {p0 : Pos} {l u : Option Expr} {tl tu : DO} (hl : PO X l (liftO X.K Z tl)) (hu : PO X u (liftO X.K Z tu)) (hN : X.N[i]? = some x := by rfl)
    (hv : Vis X.env.scope x := by first | exact Or.inl rfl | exact Or.inr (Or.inl rfl) | exact Or.inr (Or.inr rfl)) (hd : (x == ("__debug__" : Str)) = false := by decide) (hcd : (x == ("__classdict__" : Str)) = false := by decide) :
    PE X (.Subscript (.Name x p0) (.Slice l u none p2) pos) (liftX X.K Z (dSlC i tl tu)) :=
  PE.of (pe_slice sl_list (pe_var hN hv hd hcd) hl hu) fun σ H Q ⟨g, F, env, P, k, w, q⟩ => by
    unfold dSlC at w
    split at w
    · rename_i p xs e
      obtain ⟨a0, vs, h1, _⟩ := k.cel i p xs e
      refine ⟨_, h1, g, F, env, _, k, w, fun lo env2 F2 H2 p2 e2 k2 => ⟨g, F2, env2, _, k2, p2, fun hi env3 F3 H3 p3 e3 k3 => ?_⟩⟩
      split at p3
      · rename_i p' ys e'
        obtain ⟨a1, ws, z1, z2, z3, z4, z5⟩ := k3.cel i _ _ e'
        rw [h1] at z1
        cases z1
        refine ⟨a0, ws, rfl, SqL.of z3, fun x hx => ?_⟩
        obtain ⟨k4, r4⟩ := k3.newCell hx (z4.cut lo hi)
        exact q _ env3 _ _ _ p3 (e2.trans e3) k4 r4
      · exact p3.elim
    · exact w.elim

/-! ### int(..), tuple(..), list(..) -/
def nInt (xs : List PyData) (P : PyData → Prop) : Prop := match xs with
  | [.int i] => P (.int i)
  | [.bool i] => P (.int (if i then 1 else 0))
  | _ => False
theorem dintOf (hm : X.mg "int" = none) (ha : PA X (e :: es) (liftA X.K Z was)) (hg : Gl X "int" := by rfl)
    (he : starEach (e :: es) X.env = (false, eval e X.env) :: starEach es X.env := by rfl) (hpl : (backTo pos (starEach es X.env)).any (·.1) = false := by rfl) : PE X (.Call (.Name "int" p) (e :: es) [] pos) (liftE X.K Z (dB nInt was)) :=
  dct call_int1 (fun _ g F env σ H vs ds P Q k r f q => by
    unfold nInt at f
    split at f
    · obtain ⟨v, rfl, r0⟩ := r.inv1
      cases r0.inv_int
      exact .inl ⟨_, rfl, q _ _ F H f (Ex.refl F) k (.int _)⟩
    · obtain ⟨v, rfl, r0⟩ := r.inv1
      cases r0.inv_bool
      exact .inr ⟨_, rfl, q _ _ F H f (Ex.refl F) k (.int _)⟩
    · exact f.elim) hm (by decide +kernel) ha hg (by decide) (by decide) he hpl
def nTuple (xs : List PyData) (P : PyData → Prop) : Prop := match xs with
  | [.list ds] => P (.tuple ds)
  | [.tuple ds] => P (.tuple ds)
  | [.dict [(.none, .list ds)]] => P (.tuple ds)
  | _ => False
theorem call_tupleR : CallR X (.type "tuple") (fun xs H Q => ∃ x, xs = [x] ∧ kTupZ X.K x H Q) := by
  intro pins s σ H xs us Q I r h
  obtain ⟨x, rfl, q⟩ := h
  cases r with
  | cons r rr =>
    cases rr
    exact rl_tupleZ pins s σ H x _ Q I r q
theorem dtupleOf (hm : X.mg "tuple" = none) (ha : PA X (e :: es) (liftA X.K Z was)) (hg : Gl X "tuple" := by rfl)
    (he : starEach (e :: es) X.env = (false, eval e X.env) :: starEach es X.env := by rfl) (hpl : (backTo pos (starEach es X.env)).any (·.1) = false := by rfl) : PE X (.Call (.Name "tuple" p) (e :: es) [] pos) (liftE X.K Z (dB nTuple was)) :=
  dct call_tupleR (fun _ g F env σ H vs ds P Q k r f q => by
    unfold nTuple at f
    split at f
    · obtain ⟨v, rfl, r0⟩ := r.inv1
      obtain ⟨a, us, rfl, h1, h2⟩ := r0.inv_lst
      refine ⟨_, rfl, .inl ⟨a, us, rfl, (h1.mono k.fh).sq, fun x o hx ho => ?_⟩⟩
      obtain ⟨e4, k4, r4⟩ := k.newTup hx ho h2
      exact q _ _ _ _ f e4 k4 r4
    · obtain ⟨v, rfl, r0⟩ := r.inv1
      obtain ⟨a, us, rfl, h1, h2⟩ := r0.inv_tup
      exact ⟨_, rfl, .inr ⟨a, us, rfl, Evl.ex_t k.fh h1, q _ _ F H f (Ex.refl F) k r0⟩⟩
    · obtain ⟨v, rfl, r0⟩ := r.inv1
      cases r0 with
      | row h1 h2 =>
        refine ⟨_, rfl, .inl ⟨_, _, rfl, SqL.of (k.fh _ _ h1), fun x o hx ho => ?_⟩⟩
        obtain ⟨e4, k4, r4⟩ := k.newTup hx ho h2
        exact q _ _ _ _ f e4 k4 r4
    · exact f.elim) hm (by decide +kernel) ha hg (by decide) (by decide) he hpl
/-- tuple(xs) of a name's own cell -/
def dTupC (i : Nat) (env : List SD) (P : PyData → List SD → Prop) : Prop := match env[i]? with
  | some (.cel _ xs) => P (.tuple xs) env
  | _ => False
theorem dtupC (i : Nat) {x : Str} {p0 : Pos} (hm : X.mg "tuple" = none) (hN : X.N[i]? = some x := by rfl)
    (hv : Vis X.env.scope x := by first | exact Or.inl rfl | exact Or.inr (Or.inl rfl) | exact Or.inr (Or.inr rfl)) (hd : (x == ("__debug__" : Str)) = false := by decide) (hcd : (x == ("__classdict__" : Str)) = false := by decide) (hg : Gl X "tuple" := by rfl)
    (na : starEach [.Name x p0] X.env = (false, eval (.Name x p0) X.env) :: starEach [] X.env := by rfl) : PE X (.Call (.Name "tuple" p) [.Name x p0] [] pos) (liftE X.K Z (dTupC i)) :=
  PE.of (pe_tupleZ hg hm (pe_var hN hv hd hcd) na) fun σ H Q ⟨g, F, env, P, k, w, q⟩ => by
    unfold dTupC at w
    split at w
    · rename_i p xs e
      obtain ⟨a0, vs, h1, h2, h3, h4, h5⟩ := k.cel i p xs e
      refine ⟨_, h1, .inl ⟨a0, vs, rfl, SqL.of h3, fun x o hx ho => ?_⟩⟩
      obtain ⟨e4, k4, r4⟩ := k.newTup hx ho h4
      exact q _ _ _ _ _ w e4 k4 r4
    · exact w.elim
/-- len(xs) of a name's own cell -/
def dLenC (i : Nat) (env : List SD) (P : PyData → List SD → Prop) : Prop := match env[i]? with
  | some (.cel _ xs) => P (.int (xs.length : Nat)) env
  | _ => False
theorem dlenC (i : Nat) {x : Str} {p0 : Pos} (hm : X.mg "len" = none) (hN : X.N[i]? = some x := by rfl)
    (hv : Vis X.env.scope x := by first | exact Or.inl rfl | exact Or.inr (Or.inl rfl) | exact Or.inr (Or.inr rfl)) (hd : (x == ("__debug__" : Str)) = false := by decide) (hcd : (x == ("__classdict__" : Str)) = false := by decide) (hg : Gl X "len" := by rfl)
    (na : starEach [.Name x p0] X.env = (false, eval (.Name x p0) X.env) :: starEach [] X.env := by rfl) (hpl : (backTo pos (starEach [] X.env)).any (·.1) = false := by rfl) : PE X (.Call (.Name "len" p) [.Name x p0] [] pos) (liftE X.K Z (dLenC i)) :=
  PE.of (pe_callB call_len hg hm PySem.boot_len (pa_cons (pe_var hN hv hd hcd) pa_nil na) (by decide) (by decide) na hpl) fun σ H Q ⟨g, F, env, P, k, w, q⟩ => by
    unfold dLenC at w
    split at w
    · rename_i p xs e
      obtain ⟨a0, vs, h1, h2, h3, h4, h5⟩ := k.cel i p xs e
      exact ⟨_, h1, _, vs.length, rfl, .inl ⟨vs, SqL.of h3, rfl⟩, by rw [h4.length]; exact q _ _ _ F H w (Ex.refl F) k (.int _)⟩
    · exact w.elim
def nList (xs : List PyData) (P : List PyData → Prop) : Prop := match xs with
  | [.list ds] => P ds
  | [.tuple ds] => P ds
  | _ => False
/-- list(..): a new cell -/
def dListOf (wa : DA) (env : List SD) (P : SD → List SD → Prop) : Prop := wa env fun xs env' => nList xs fun ds => P (.cel false ds) env'
theorem dlistOf (hm : X.mg "list" = none) (ha : PA X (e :: es) (liftA X.K Z was)) (hg : Gl X "list" := by rfl)
    (he : starEach (e :: es) X.env = (false, eval e X.env) :: starEach es X.env := by rfl) (hpl : (backTo pos (starEach es X.env)).any (·.1) = false := by rfl) : PE X (.Call (.Name "list" p) (e :: es) [] pos) (liftX X.K Z (dListOf was)) :=
  PE.of (pe_callTy call_list_of hg hm (by decide +kernel) ha (by decide) (by decide) he hpl) fun σ H Q ⟨g, F, env, P, k, w, q⟩ =>
    ⟨g, F, env, _, k, w, fun ds env1 vs F1 H1 p e1 k1 r1 => by
      unfold nList at p
      split at p
      · obtain ⟨v, rfl, r0⟩ := r1.inv1
        obtain ⟨a, us, rfl, h1, h2⟩ := r0.inv_lst
        refine ⟨a, us, rfl, .inl (h1.mono k1.fh).sq, fun x hx => ?_⟩
        obtain ⟨k4, r4⟩ := k1.newCell hx h2
        exact q _ _ _ _ _ p e1 k4 r4
      · obtain ⟨v, rfl, r0⟩ := r1.inv1
        obtain ⟨a, us, rfl, h1, h2⟩ := r0.inv_tup
        refine ⟨a, us, rfl, .inr (Evl.ex_t k1.fh h1), fun x hx => ?_⟩
        obtain ⟨k4, r4⟩ := k1.newCell hx h2
        exact q _ _ _ _ _ p e1 k4 r4
      · exact p.elim⟩
/-- a name's own cell stays as it is from here on, or its datum -/
def dFreeze2 (i : Nat) (w : DS) (E : DEnds) (env : List SD) : Prop := match env[i]? with
  | some (.cel false xs) => w E (env.set i (.dat (.list xs)))
  | some (.dat _) => w E env
  | _ => False
theorem ssfreeze2 {sts : List Stmt} {m : Nat} {w : DS} (i : Nat) (h : PSs X sts (liftS X.K Z m w)) : PSs X sts (liftS X.K Z m (dFreeze2 i w)) := PSs.of h fun D σ H ⟨g, F, env, P, k, w, q⟩ => by
  unfold dFreeze2 at w
  split at w
  · rename_i xs e
    obtain ⟨F', e1, k1⟩ := k.freeze e
    exact ⟨g, F', _, P, k1, w, q.ex e1⟩
  · exact ⟨g, F, env, P, k, w, q⟩
  · exact w.elim
end
end DL

/-! The data layer, part 12: xs[::-1]. -/
namespace DL
variable {Z : Zx}
open PySem PySem.Spec PyProof.Rows L2
open Evl (Ex)

section
variable {X : Cx} {a b e : Expr} {es : List Expr} {we wa wb : DE} {was : DA} {pos p p1 p2 p3 : Pos} {K : PySem.W.Frag}
theorem DRs.snoc {H : Hp} {v : V} {d : PyData} : ∀ {vs : List V} {ds : List PyData}, DRs K H vs ds → DR K H v d → DRs K H (vs ++ [v]) (ds ++ [d])
  | _, _, .nil, r => .cons r .nil
  | _, _, .cons h t, r => .cons h (DRs.snoc t r)
theorem DRs.rev {H : Hp} : ∀ {vs : List V} {ds : List PyData}, DRs K H vs ds → DRs K H vs.reverse ds.reverse
  | _, _, .nil => .nil
  | _, _, .cons h t => by
    rw [List.reverse_cons, List.reverse_cons]
    exact DRs.snoc (DRs.rev t) h
/-- xs[::-1] of a list: a new cell -/
def dRevN (w : DE) (env : List SD) (P : SD → List SD → Prop) : Prop := w env fun x env1 => lstQ x fun ds => P (.cel false ds.reverse) env1
theorem drevN {k : Nat} (he : PE X e (liftE X.K Z we)) : PE X (.Subscript e (.Slice none none (some (.UnaryOp .USub (.Constant (.int 1) k p1) p2)) p3) pos) (liftX X.K Z (dRevN we)) :=
  PE.of (pe_revL he) fun σ H Q ⟨g, F, env, P, kk, w, q⟩ => ⟨g, F, env, _, kk, w, fun d env1 v F1 H1 p e1 k1 r1 => by
    unfold lstQ at p
    split at p
    · rename_i ds
      obtain ⟨a, us, rfl, h1, h2⟩ := r1.inv_lst
      refine ⟨a, us, rfl, (h1.mono k1.fh).sq, fun x hx => ?_⟩
      obtain ⟨k4, r4⟩ := k1.newCell hx h2.rev
      exact q _ env1 _ _ _ p e1 k4 r4
    · exact p.elim⟩
end
end DL

/-! The data layer, part 13: what readings are told in. -/
namespace DL
variable {Z : Zx}
open PySem PySem.Spec PyProof.Rows L2
open Evl (Ex)

def jn {α : Type} (f : α → Prop) (k : α) : Prop := f k
def tAnd (b : Bool) (u : (Bool → Prop) → Prop) (K : Bool → Prop) : Prop := bIf b (u K) (K false)
def tOr (b : Bool) (u : (Bool → Prop) → Prop) (K : Bool → Prop) : Prop := bIf b (K true) (u K)
def vAnd (b : Bool) (u : (PyData → Prop) → Prop) (K : PyData → Prop) : Prop := bIf b (u K) (K (.bool false))
def vOr (b : Bool) (u : (PyData → Prop) → Prop) (K : PyData → Prop) : Prop := bIf b (K (.bool true)) (u K)
def vIf (b : Bool) (u v : (PyData → Prop) → Prop) (K : PyData → Prop) : Prop := bIf b (u K) (v K)
theorem at_env {t : DS} {E : DEnds} {a b : List SD} (e : a = b) (h : t E b) : t E a := e ▸ h
theorem cels1 {c : List PyData} {ds : List PyData} {i : Nat} {p : Bool} {xs : List PyData} (e : (SD.cel true c :: ds.map .dat)[i]? = some (.cel p xs)) : i < 1 := by
  cases i with
  | zero => exact Nat.zero_lt_one
  | succ i => exact absurd (by simpa using e) (no_cel (ds := ds) i p xs)
end DL

/-! The data layer, part 14: products, xs[::-1] as a datum, is True. -/
namespace DL
variable {Z : Zx}
open PySem PySem.Spec PyProof.Rows L2
open Evl (Ex)
section
variable {X : Cx} {a b e : Expr} {es : List Expr} {we wa wb : DE} {was : DA} {pos p p1 p2 p3 : Pos} {K : PySem.W.Frag} {m : Nat}
theorem DRs.flat {F : Hp} {vs : List V} {ds : List PyData} (r : DRs K F vs ds) : ∀ n : Nat, DRs K F (List.replicate n vs).flatten (List.replicate n ds).flatten
  | 0 => .nil
  | n + 1 => by
    rw [List.replicate_succ, List.replicate_succ, List.flatten_cons, List.flatten_cons]
    exact r.append (DRs.flat r n)
theorem tuple_mul1 (l : Addr) (items : Array Value) (n : Nat) (dd : Option Addr) (sl : Array (Option Value)) (u : Tok) :
    Meets (Builtin.«tuple.__mul__» ⟨[.ref l, .int 1 u], []⟩) (fun _ R s => s.heap.get? l = some { cls := .type "tuple", dict := dd, data := .seq items n, slots := sl } ∧ R (.ok (.ret (Value.ref l))) s) :=
  .of_wp fun prog w A R s h => by
    obtain ⟨hp, g, d, tk, os⟩ := s
    obtain ⟨hl, h⟩ := h
    have f1 := AutoSeq1.idx_int
    have c1 : (items.isEmpty || (1 : Int) == 1) = true := by simp
    wp_walk using wpAny_loadPart' hl
    repeat (first
      | (refine wpAny_ite_false (decide_eq_false (by decide)) ?_; wp_walk using wpAny_loadPart' hl)
      | (refine wpAny_ite_true (decide_eq_true c1) ?_; wp_walk using wpAny_loadPart' hl))
    exact ⟨_, rfl, h⟩
def rRepT1 (K : PySem.W.Frag) : R2 := fun x y H Q => ∃ l xs, x = .ref l ∧ y = .int 1 ∧ SqT K H l xs ∧ Q (.ref l) H
theorem op_repT1 {X : Cx} : OpR X (binaryOp .Mult) (rRepT1 X.K) := by
  intro pins s σ H x y v u Q I rx ry h
  obtain ⟨l, xs, rfl, rfl, hT, q⟩ := h
  cases rx
  obtain ⟨t, rfl⟩ := ry
  obtain ⟨its, r, ⟨⟨cls, dd, data, sl⟩, ho, hc, n, hd⟩, hs⟩ := I.tuple hT
  simp only at hc hd
  subst hc hd
  exact wpAny_binaryOp_repeat_ref (T := "tuple") (U := "int") (by decide) ⟨_, ho, rfl⟩ (fun s' => typeIs_int s' 1 t) noFill_tuple_mul F.fills_int_mul F.slot_int_rmul repeat_tuple F.slot_int_index.lookup
    (call_meets F.slot_int_rmul (typeIs_int s 1 t) F.entry_int_rmul (F.args_int_rmul_2 _ _) (int_rmul_tuple 1 t l its.toArray n dd sl)
      ⟨ho, rfl, ⟨_, ho, rfl⟩, call_meets F.slot_tuple_mul ⟨_, ho, rfl⟩ F.entry_tuple_mul (F.args_tuple_mul_2 _ _) (tuple_mul1 l its.toArray n dd sl t) ⟨ho, ⟨.ref l, H, I, rfl, q⟩⟩⟩)
def oMul (x y : PyData) (P : PyData → Prop) : Prop := match x, y with
  | .int i, .int j => (Sz i ∧ Sz j) ∧ P (.int (i * j))
  | .tuple xs, .int k => (xs ≠ [] ∧ 1 ≤ k ∧ k ≤ 1000 ∧ xs.length ≤ 1000) ∧ P (.tuple (List.replicate k.toNat xs).flatten)
  | _, _ => False
theorem opd_mul {r : R2} (h : OpD K r oMulI) : OpD K (fun x y H Q => r x y H Q ∨ (rRepT1 K x y H Q ∨ rRepZ K x y H Q)) oMul := by
  intro _ g F env σ H vx vy dx dy P Q k rx ry p q
  unfold oMul at p
  split at p
  · exact .inl (h _ g F env σ H vx vy _ _ P Q k rx ry p q)
  · rename_i xs n
    cases ry.inv_int
    obtain ⟨a, us, rfl, h1, h2⟩ := rx.inv_tup
    obtain ⟨⟨z1, z2, z3, z4⟩, p⟩ := p
    by_cases e1 : n = 1
    · subst e1
      have e : (List.replicate (Int.toNat 1) xs).flatten = xs := by
        show (List.replicate 1 xs).flatten = xs
        simp
      rw [e] at p
      exact .inr (.inl ⟨a, us, rfl, rfl, Evl.ex_t k.fh h1, q _ _ F H p (Ex.refl F) k rx⟩)
    refine .inr (.inr ⟨a, n, us, rfl, rfl, Evl.ex_t k.fh h1, fun e => z1 ?_, by omega, z3, by rw [h2.length]; exact z4, fun x o hx ho => ?_⟩)
    · subst e
      cases h2
      rfl
    · obtain ⟨e2, k2, r2⟩ := k.newTup hx ho (DRs.flat h2 n.toNat)
      exact q _ _ _ _ p e2 k2 r2
  · exact p.elim
theorem dmul (ha : PE X a (liftE X.K Z wa)) (hb : PE X b (liftE X.K Z wb)) : PE X (.BinOp a .Mult b pos) (liftE X.K Z (dOp oMul wa wb)) := dop (OpR.or op_mulW (OpR.or op_repT1 op_repZ)) (opd_mul (opd_I (fun _ _ h => by have h1 := h.1.log; have h2 := h.2.log; unfold CMulW; omega) fun _ _ _ => .int _)) ha hb
/-- xs[::-1] of a list, that stays -/
def oRev (x : PyData) (P : PyData → Prop) : Prop := lstQ x fun ds => P (.list ds.reverse)
theorem drev {k : Nat} (he : PE X e (liftE X.K Z we)) : PE X (.Subscript e (.Slice none none (some (.UnaryOp .USub (.Constant (.int 1) k p1) p2)) p3) pos) (liftE X.K Z (dUn oRev we)) :=
  PE.of (dfrz (drevN he)) fun σ H Q ⟨g, F, env, P, kk, w, q⟩ => ⟨g, F, env, P, kk, w, q⟩
end
end DL

/-! The data layer, part 15: plain laws of the readings' words. -/
namespace DL
variable {Z : Zx}
open PySem PySem.Spec PyProof.Rows L2
section
variable {P K : PyData → Prop} {a b c : Int} {x y : PyData} {xs ys : List PyData} {T : Bool → Prop}
theorem q_bT : bT (.bool t) T = T t := rfl
theorem q_add : oAdd (.int a) (.int b) P = P (.int (a + b)) := rfl
theorem q_addT : oAdd (.tuple xs) (.tuple ys) P = (xs.length + ys.length ≤ 100000 ∧ P (.tuple (xs ++ ys))) := rfl
theorem q_addL : oAdd (.list xs) (.list ys) P = (xs.length + ys.length ≤ 100000 ∧ P (.list (xs ++ ys))) := rfl
theorem q_addS {i j : Str} : oAdd (.str i) (.str j) P = (i.length + j.length ≤ 100000 ∧ P (.str (i ++ j))) := rfl
theorem q_sub : oSub (.int a) (.int b) P = P (.int (a - b)) := rfl
theorem q_mul : oMul (.int a) (.int b) P = ((Sz a ∧ Sz b) ∧ P (.int (a * b))) := rfl
theorem q_mulT : oMul (.tuple xs) (.int b) P = ((xs ≠ [] ∧ 1 ≤ b ∧ b ≤ 1000 ∧ xs.length ≤ 1000) ∧ P (.tuple (List.replicate b.toNat xs).flatten)) := rfl
theorem q_div : oDiv (.int a) (.int b) P = ((0 < b ∧ Sz b) ∧ P (.int (a / b))) := rfl
theorem q_mod : oMod (.int a) (.int b) P = (0 < b ∧ P (.int (a % b))) := rfl
theorem q_pow : oPow (.int a) (.int b) P = ((Sz a ∧ 0 ≤ b ∧ b ≤ 10000) ∧ P (.int (a ^ b.toNat))) := rfl
theorem q_neg : oNeg (.int a) P = P (.int (-a)) := rfl
theorem q_lt : oLt (.int a) (.int b) P = P (.bool (decide (a < b))) := rfl
theorem q_le : oLe (.int a) (.int b) P = P (.bool (decide (a ≤ b))) := rfl
theorem q_gt : oGt (.int a) (.int b) P = P (.bool (decide (b < a))) := rfl
theorem q_ge : oGe (.int a) (.int b) P = P (.bool (decide (b ≤ a))) := rfl
theorem q_oI {f : Int → Int → PyData} : oI f (.int a) (.int b) P = P (f a b) := rfl
theorem shaped_int : SeqAt.shaped (.int a) = true := by unfold SeqAt.shaped; rfl
theorem q_eq : oEq (.int a) (.int b) P = P (.bool (decide (a = b))) := by
  show ((SeqAt.shaped (.int a) = true ∧ SeqAt.shaped (.int b) = true) ∧ P (.bool (eqD (.int a) (.int b)))) = _
  rw [eqD_int]
  simp only [shaped_int, and_self, true_and]
theorem q_ne : oNe (.int a) (.int b) P = P (.bool (!decide (a = b))) := by
  show ((SeqAt.shaped (.int a) = true ∧ SeqAt.shaped (.int b) = true) ∧ P (.bool (!eqD (.int a) (.int b)))) = _
  rw [eqD_int]
  simp only [shaped_int, and_self, true_and]
theorem shaped_bool {t : Bool} : SeqAt.shaped (.bool t) = true := by unfold SeqAt.shaped; rfl
theorem eqD_bool {t u : Bool} : eqD (.bool t) (.bool u) = decide (t = u) := by
  rw [eqD_eq]
  cases t <;> cases u <;> simp [PyData.eqv]
theorem q_eqB {t u : Bool} : oEq (.bool t) (.bool u) P = P (.bool (decide (t = u))) := by
  show ((SeqAt.shaped (.bool t) = true ∧ SeqAt.shaped (.bool u) = true) ∧ P (.bool (eqD (.bool t) (.bool u)))) = _
  rw [eqD_bool]
  simp only [shaped_bool, and_self, true_and]
theorem q_neB {t u : Bool} : oNe (.bool t) (.bool u) P = P (.bool (!decide (t = u))) := by
  show ((SeqAt.shaped (.bool t) = true ∧ SeqAt.shaped (.bool u) = true) ∧ P (.bool (!eqD (.bool t) (.bool u)))) = _
  rw [eqD_bool]
  simp only [shaped_bool, and_self, true_and]
theorem q_eqS {i j : Str} : oEq (.str i) (.str j) P = P (.bool (decide (i = j))) := rfl
theorem q_neS {i j : Str} : oNe (.str i) (.str j) P = P (.bool (!decide (i = j))) := rfl
theorem eqD_self (x : PyData) (h : PyData.eqv x x = true) : eqD x x = true := by rw [eqD_eq]; exact h
/-- == of like things -/
theorem eq_same (h : x = y) (hs : SeqAt.shaped x = true) (he : PyData.eqv x x = true) (k : P (.bool true)) : oEq x y P := by
  subst h
  unfold oEq
  split
  · rw [decide_eq_true rfl]; exact k
  · exact ⟨⟨hs, hs⟩, by rw [eqD_self _ he]; exact k⟩
theorem ne_same (h : x = y) (hs : SeqAt.shaped x = true) (he : PyData.eqv x x = true) (k : P (.bool false)) : oNe x y P := by
  subst h
  unfold oNe
  split
  · rw [decide_eq_true rfl]; exact k
  · exact ⟨⟨hs, hs⟩, by rw [eqD_self _ he]; exact k⟩
theorem q_isN : oIsN .none P = P (.bool true) := rfl
theorem q_isNi : oIsN (.int a) P = P (.bool false) := rfl
theorem q_isNt : oIsN (.tuple xs) P = P (.bool false) := rfl
theorem q_isNs {i : Str} : oIsN (.str i) P = P (.bool false) := rfl
theorem q_notN : oNotN .none P = P (.bool false) := rfl
theorem q_notNi : oNotN (.int a) P = P (.bool true) := rfl
theorem q_notNt : oNotN (.tuple xs) P = P (.bool true) := rfl
theorem q_ix : oIx (.tuple xs) (.int a) P = pick xs a P := rfl
theorem q_ixL : oIx (.list xs) (.int a) P = pick xs a P := rfl
theorem q_ixQ : ixQ xs (.int a) P = pick xs a P := rfl
theorem q_len : nLen [.list xs] P = P (.int (xs.length : Nat)) := rfl
theorem q_lenT : nLen [.tuple xs] P = P (.int (xs.length : Nat)) := rfl
theorem q_lenS {i : Str} : nLen [.str i] P = (i.length ≤ 100000 ∧ P (.int (i.length : Nat))) := rfl
theorem q_abs : nAbs [.int a] P = P (.int (if a < 0 then -a else a)) := rfl
theorem q_min : nMin2 [.int a, .int b] P = P (.int (if b < a then b else a)) := rfl
theorem q_max : nMax2 [.int a, .int b] P = P (.int (if b > a then b else a)) := rfl
theorem q_tupleOf : nTuple [.list xs] P = P (.tuple xs) := rfl
theorem q_tupleOfT : nTuple [.tuple xs] P = P (.tuple xs) := rfl
theorem q_int : nInt [.int a] P = P (.int a) := rfl
theorem q_intB {t : Bool} : nInt [.bool t] P = P (.int (if t then 1 else 0)) := rfl
theorem q_list {P : List PyData → Prop} : nList [.list xs] P = P xs := rfl
theorem q_listT {P : List PyData → Prop} : nList [.tuple xs] P = P xs := rfl
theorem q_tup {K : List PyData → Prop} : tupQ (.tuple xs) K = K xs := rfl
theorem q_cons {K : PyData → List PyData → Prop} : consQ (x :: xs) K = K x xs := rfl
theorem q_nil {p : Prop} : nilQ [] p = p := rfl
theorem q_so {K : Option Int → Prop} : soQ (.int a) K = K (some a) := rfl
theorem q_lst {K : List PyData → Prop} : lstQ (.list xs) K = K xs := rfl
theorem q_items {K : List PyData → Prop} : itemsQ (.list xs) K = K xs := At.eq
theorem q_itemsT {K : List PyData → Prop} : itemsQ (.tuple xs) K = K xs := At.eq
theorem q_slT {lo hi : Option Int} : oSl (.tuple xs) lo hi P = P (.tuple (DL.cutD xs lo hi)) := rfl
theorem q_slL {lo hi : Option Int} : oSl (.list xs) lo hi P = P (.list (DL.cutD xs lo hi)) := rfl
theorem q_rev : oRev (.list xs) P = P (.list xs.reverse) := rfl
theorem q_zip {K : List PyData → Prop} : zipQ [.list xs, .list ys] K = K (zipD xs ys) := At.eq
theorem q_zipT {K : List PyData → Prop} : zipQ [.tuple xs, .tuple ys] K = K (zipD xs ys) := At.eq
theorem q_rng1 {K : List PyData → Prop} : rng1 [.int a] K = ((-1000000 ≤ a ∧ a ≤ 1000000) ∧ K (rangeD 0 a.toNat)) := by
  show (_ ∧ At _ _) = _
  rw [At.eq]
theorem q_rng2 {K : List PyData → Prop} : rng2 [.int a, .int b] K = ((-1000000 ≤ a ∧ a ≤ 1000000 ∧ -1000000 ≤ b ∧ b ≤ 1000000) ∧ K (rangeD a (b - a).toNat)) := by
  show (_ ∧ At _ _) = _
  rw [At.eq]
theorem q_all : nAll [.list xs] P = (match boolsD xs with | some bs => P (.bool (bs.all id)) | none => False) := rfl
theorem q_any : nAny [.list xs] P = (match boolsD xs with | some bs => P (.bool (bs.any id)) | none => False) := rfl
theorem q_sum : nSum [.list xs] P = (match intsD xs with | some bs => P (.int bs.sum) | none => False) := rfl
theorem q_sumT : nSum [.tuple xs] P = (match intsD xs with | some bs => P (.int bs.sum) | none => False) := rfl
theorem q_ap {K : List PyData → Prop} : apQ xs x K = (xs.length < 100000 ∧ K (xs ++ [x])) := rfl
theorem bools_map (ds : List PyData) (f : PyData → Bool) : boolsD (ds.map fun d => .bool (f d)) = some (ds.map f) := by
  induction ds with
  | nil => rfl
  | cons d ds ih => simp [boolsD, ih]
theorem ints_map (ns : List Int) : intsD (ns.map .int) = some ns := by
  induction ns with
  | nil => rfl
  | cons d ds ih => simp [intsD, ih]
theorem q_sumI {ns : List Int} : nSum [.list (ns.map .int)] P = P (.int ns.sum) := by rw [q_sum, ints_map]
theorem q_sumTI {ns : List Int} : nSum [.tuple (ns.map .int)] P = P (.int ns.sum) := by rw [q_sumT, ints_map]
theorem q_allB {ds : List PyData} {f : PyData → Bool} : nAll [.list (ds.map fun d => .bool (f d))] P = P (.bool (ds.all f)) := by
  rw [q_all, bools_map]
  simp only [List.all_map]
  rfl
theorem q_anyB {ds : List PyData} {f : PyData → Bool} : nAny [.list (ds.map fun d => .bool (f d))] P = P (.bool (ds.any f)) := by
  rw [q_any, bools_map]
  simp only [List.any_map]
  rfl
theorem ints0 : intsD [] = some [] := rfl
theorem ints1 {r : List PyData} : intsD (.int a :: r) = (intsD r).map (a :: ·) := rfl
theorem bools0 : boolsD [] = some [] := rfl
theorem bools1 {t : Bool} {r : List PyData} : boolsD (.bool t :: r) = (boolsD r).map (t :: ·) := rfl
theorem cut1 {a : PyData} {l : List PyData} : DL.cutD (a :: l) (some 1) none = l := by
  unfold DL.cutD HT.sIx
  simp
theorem cut_len {xs : List PyData} {lo hi : Option Int} : (DL.cutD xs lo hi).length ≤ xs.length := by
  unfold DL.cutD
  rw [List.length_take, List.length_drop]
  omega
/-! ### truths -/
section
variable {S : Prop} {t : Bool} {u : (Bool → Prop) → Prop} {v : (PyData → Prop) → Prop} {K : Bool → Prop} {L : PyData → Prop}
theorem q_same {I S : Type} {i : I} {N : S → Prop} {s : S} : same i N i s = N s := propext ⟨fun h => h.2, fun h => ⟨rfl, h⟩⟩
theorem q_jn {α : Type} {f : α → Prop} {k : α} : jn f k = f k := rfl
theorem q_tAnd_k {b c : Bool} {K : Bool → Prop} : tAnd b (fun k => k c) K = K (b && c) := by cases b <;> rfl
theorem q_tOr_k {b c : Bool} {K : Bool → Prop} : tOr b (fun k => k c) K = K (b || c) := by cases b <;> rfl
theorem q_vAnd_k {b c : Bool} : vAnd b (fun k => k (.bool c)) L = L (.bool (b && c)) := by cases b <;> rfl
theorem q_vOr_k {b c : Bool} : vOr b (fun k => k (.bool c)) L = L (.bool (b || c)) := by cases b <;> rfl
theorem q_tAnd_s {b c : Bool} {K : Bool → Prop} {S : Prop} : tAnd b (fun k => S ∧ k c) K = ((b = true → S) ∧ K (b && c)) := by
  cases b
  · simp only [Bool.false_eq_true, false_imp_iff, true_and]; rfl
  · simp only [true_imp_iff, Bool.true_and]; rfl
theorem q_tOr_s {b c : Bool} {K : Bool → Prop} {S : Prop} : tOr b (fun k => S ∧ k c) K = ((b = false → S) ∧ K (b || c)) := by
  cases b
  · simp only [true_imp_iff, Bool.false_or]; rfl
  · simp only [Bool.true_eq_false, false_imp_iff, true_and]; rfl
theorem q_vAnd_s {b c : Bool} {S : Prop} : vAnd b (fun k => S ∧ k (.bool c)) L = ((b = true → S) ∧ L (.bool (b && c))) := by
  cases b
  · simp only [Bool.false_eq_true, false_imp_iff, true_and]; rfl
  · simp only [true_imp_iff, Bool.true_and]; rfl
theorem q_vOr_s {b c : Bool} {S : Prop} : vOr b (fun k => S ∧ k (.bool c)) L = ((b = false → S) ∧ L (.bool (b || c))) := by
  cases b
  · simp only [true_imp_iff, Bool.false_or]; rfl
  · simp only [Bool.true_eq_false, false_imp_iff, true_and]; rfl
theorem q_vIf_k {b : Bool} {x y : PyData} : vIf b (fun k => k x) (fun k => k y) L = L (if b then x else y) := by cases b <;> rfl
theorem q_tAnd_t {K : Bool → Prop} : tAnd true u K = u K := rfl
theorem q_tAnd_f {K : Bool → Prop} : tAnd false u K = K false := rfl
theorem q_tOr_t {K : Bool → Prop} : tOr true u K = K true := rfl
theorem q_tOr_f {K : Bool → Prop} : tOr false u K = u K := rfl
theorem q_vAnd_t : vAnd true v L = v L := rfl
theorem q_vAnd_f : vAnd false v L = L (.bool false) := rfl
theorem q_vOr_t : vOr true v L = L (.bool true) := rfl
theorem q_vOr_f : vOr false v L = v L := rfl
theorem q_vIf_t {v' : (PyData → Prop) → Prop} : vIf true v v' L = v L := rfl
theorem q_vIf_f {v' : (PyData → Prop) → Prop} : vIf false v v' L = v' L := rfl
theorem bIf_of {b : Bool} {p q : Prop} (h1 : b = true → p) (h2 : b = false → q) : bIf b p q := by
  cases b
  · exact h2 rfl
  · exact h1 rfl
theorem bIf_d {c : Prop} [Decidable c] {p q : Prop} (h1 : c → p) (h2 : ¬ c → q) : bIf (decide c) p q := by
  by_cases h : c
  · rw [decide_eq_true h]; exact h1 h
  · rw [decide_eq_false h]; exact h2 h
end
/-! ### items by place -/
theorem pick_lit {xs : List PyData} (n : Nat) {d : PyData} (e : xs[n]? = some d) : pick xs (n : Int) P = P d := pick_eq (by
  unfold atI
  rw [ixN_in (by omega) (by have := (List.getElem?_eq_some_iff.mp e).1; omega)]
  exact e)
theorem at0 {a : PyData} {l : List PyData} : pick (a :: l) 0 P = P a := pick_lit 0 rfl
theorem at1 {a b : PyData} {l : List PyData} : pick (a :: b :: l) 1 P = P b := pick_lit 1 rfl
theorem at2 {a b c : PyData} {l : List PyData} : pick (a :: b :: c :: l) 2 P = P c := pick_lit 2 rfl
theorem at3 {a b c d : PyData} {l : List PyData} : pick (a :: b :: c :: d :: l) 3 P = P d := pick_lit 3 rfl
theorem at4 {a b c d e : PyData} {l : List PyData} : pick (a :: b :: c :: d :: e :: l) 4 P = P e := pick_lit 4 rfl
theorem at5 {a b c d e f : PyData} {l : List PyData} : pick (a :: b :: c :: d :: e :: f :: l) 5 P = P f := pick_lit 5 rfl
theorem at6 {a b c d e f g : PyData} {l : List PyData} : pick (a :: b :: c :: d :: e :: f :: g :: l) 6 P = P g := pick_lit 6 rfl
theorem atLast {xs : List PyData} {d : PyData} : pick (xs ++ [d]) (-1) P = P d := pick_eq (by
  unfold atI ixN
  rw [if_neg (by decide), if_pos (by simp; omega)]
  show (xs ++ [d])[((-1 : Int) + ((xs ++ [d]).length : Nat)).toNat]? = some d
  rw [show ((-1 : Int) + ((xs ++ [d]).length : Nat)).toNat = xs.length by simp; omega]
  simp)
/-- any item -/
theorem pick_mem {xs : List PyData} {k : Int} (h0 : 0 ≤ k) (h1 : k < xs.length) (h : ∀ d ∈ xs, P d) : pick xs k P := at_of h0 h1 h
theorem st0 {x a : PyData} {r : List PyData} {K : List PyData → Prop} : stQ (a :: r) (.int 0) x K = K (x :: r) := by
  show (match ixN (a :: r).length 0 with | some j => K ((a :: r).set j x) | none => False) = _
  rw [ixN_in (by decide) (by simp)]
  rfl
theorem st1 {x a b : PyData} {r : List PyData} {K : List PyData → Prop} : stQ (a :: b :: r) (.int 1) x K = K (a :: x :: r) := by
  show (match ixN (a :: b :: r).length 1 with | some j => K ((a :: b :: r).set j x) | none => False) = _
  rw [ixN_in (by decide) (by simp; omega)]
  rfl
theorem st2 {x a b c : PyData} {r : List PyData} {K : List PyData → Prop} : stQ (a :: b :: c :: r) (.int 2) x K = K (a :: b :: x :: r) := by
  show (match ixN (a :: b :: c :: r).length 2 with | some j => K ((a :: b :: c :: r).set j x) | none => False) = _
  rw [ixN_in (by decide) (by simp; omega)]
  rfl
theorem st3 {x a b c d : PyData} {r : List PyData} {K : List PyData → Prop} : stQ (a :: b :: c :: d :: r) (.int 3) x K = K (a :: b :: c :: x :: r) := by
  show (match ixN (a :: b :: c :: d :: r).length 3 with | some j => K ((a :: b :: c :: d :: r).set j x) | none => False) = _
  rw [ixN_in (by decide) (by simp; omega)]
  rfl
theorem st4 {x a b c d e : PyData} {r : List PyData} {K : List PyData → Prop} : stQ (a :: b :: c :: d :: e :: r) (.int 4) x K = K (a :: b :: c :: d :: x :: r) := by
  show (match ixN (a :: b :: c :: d :: e :: r).length 4 with | some j => K ((a :: b :: c :: d :: e :: r).set j x) | none => False) = _
  rw [ixN_in (by decide) (by simp; omega)]
  rfl
theorem st_in {x : PyData} {k : Int} {K : List PyData → Prop} (h0 : 0 ≤ k) (h1 : k < xs.length) (h : K (xs.set k.toNat x)) : stQ xs (.int k) x K := by
  show (match ixN xs.length k with | some j => K (xs.set j x) | none => False)
  rw [ixN_in h0 h1]
  exact h
end
/-! ### of what kind -/
theorem isi_non_int : isiB .none "int" = false := rfl
theorem isi_non_bool : isiB .none "bool" = false := rfl
theorem isi_non_str : isiB .none "str" = false := rfl
theorem isi_non_list : isiB .none "list" = false := rfl
theorem isi_non_tuple : isiB .none "tuple" = false := rfl
theorem isi_non_dict : isiB .none "dict" = false := rfl
theorem isi_bl_int {t : Bool} : isiB (.bool t) "int" = true := rfl
theorem isi_bl_bool {t : Bool} : isiB (.bool t) "bool" = true := rfl
theorem isi_bl_str {t : Bool} : isiB (.bool t) "str" = false := rfl
theorem isi_bl_list {t : Bool} : isiB (.bool t) "list" = false := rfl
theorem isi_bl_tuple {t : Bool} : isiB (.bool t) "tuple" = false := rfl
theorem isi_bl_dict {t : Bool} : isiB (.bool t) "dict" = false := rfl
theorem isi_int_int {a : Int} : isiB (.int a) "int" = true := rfl
theorem isi_int_bool {a : Int} : isiB (.int a) "bool" = false := rfl
theorem isi_int_str {a : Int} : isiB (.int a) "str" = false := rfl
theorem isi_int_list {a : Int} : isiB (.int a) "list" = false := rfl
theorem isi_int_tuple {a : Int} : isiB (.int a) "tuple" = false := rfl
theorem isi_int_dict {a : Int} : isiB (.int a) "dict" = false := rfl
theorem isi_str_int {x : Str} : isiB (.str x) "int" = false := rfl
theorem isi_str_bool {x : Str} : isiB (.str x) "bool" = false := rfl
theorem isi_str_str {x : Str} : isiB (.str x) "str" = true := rfl
theorem isi_str_list {x : Str} : isiB (.str x) "list" = false := rfl
theorem isi_str_tuple {x : Str} : isiB (.str x) "tuple" = false := rfl
theorem isi_str_dict {x : Str} : isiB (.str x) "dict" = false := rfl
theorem isi_lst_int {xs : List PyData} : isiB (.list xs) "int" = false := rfl
theorem isi_lst_bool {xs : List PyData} : isiB (.list xs) "bool" = false := rfl
theorem isi_lst_str {xs : List PyData} : isiB (.list xs) "str" = false := rfl
theorem isi_lst_list {xs : List PyData} : isiB (.list xs) "list" = true := rfl
theorem isi_lst_tuple {xs : List PyData} : isiB (.list xs) "tuple" = false := rfl
theorem isi_lst_dict {xs : List PyData} : isiB (.list xs) "dict" = false := rfl
theorem isi_tup_int {xs : List PyData} : isiB (.tuple xs) "int" = false := rfl
theorem isi_tup_bool {xs : List PyData} : isiB (.tuple xs) "bool" = false := rfl
theorem isi_tup_str {xs : List PyData} : isiB (.tuple xs) "str" = false := rfl
theorem isi_tup_list {xs : List PyData} : isiB (.tuple xs) "list" = false := rfl
theorem isi_tup_tuple {xs : List PyData} : isiB (.tuple xs) "tuple" = true := rfl
theorem isi_tup_dict {xs : List PyData} : isiB (.tuple xs) "dict" = false := rfl
theorem isi_dct_int : isiB (.dict []) "int" = false := rfl
theorem isi_dct_bool : isiB (.dict []) "bool" = false := rfl
theorem isi_dct_str : isiB (.dict []) "str" = false := rfl
theorem isi_dct_list : isiB (.dict []) "list" = false := rfl
theorem isi_dct_tuple : isiB (.dict []) "tuple" = false := rfl
theorem isi_dct_dict : isiB (.dict []) "dict" = true := rfl
end DL

/-! The data layer, part 16: == [] and == (), is True, {}, t[::-1]. -/
namespace DL
variable {Z : Zx}
open PySem PySem.Spec PyProof.Rows L2
open Evl (Ex)
section
variable {X : Cx} {a b e : Expr} {es : List Expr} {we wa wb : DE} {was : DA} {pos p p1 p2 p3 p0 : Pos} {K : PySem.W.Frag} {m : Nat}
/-! ### like nothing -/
def rEmp (K : PySem.W.Frag) (n : Bool) : R2 := fun x y H Q => ∃ a b xs, x = .ref a ∧ y = .ref b ∧ ((SqL K H a xs ∧ SqL K H b []) ∨ (SqT K H a xs ∧ SqT K H b [])) ∧ Q (.bl (xs.isEmpty != n)) H
theorem op_empE (hu : X.A.units + 64 < cLine) : OpR X (compareOp .Eq) (rEmp X.K false) := by
  intro pins s σ H x y v u Q I rx ry h
  obtain ⟨a, b, xs, rfl, rfl, h, q⟩ := h
  cases rx
  cases ry
  have hu2 : X.A.units < cLine := by omega
  rcases h with ⟨h1, h2⟩ | ⟨h1, h2⟩
  · obtain ⟨its, r1, t1, _⟩ := I.list h1
    obtain ⟨its2, r2, t2, _⟩ := I.list h2
    cases r2
    cases r1 with
    | nil => exact SeqAt.RcAt.lists (e := fun _ => true) t1.isList t2.isList rfl hu2 (fun j h1 => absurd h1 (by simp)) _ _ _ _ ⟨.bl true, H, I, rfl, q⟩
    | cons _ _ => exact SeqAt.RcAt.lists_lengths t1.isList t2.isList (by simp) hu2 _ _ _ _ ⟨.bl false, H, I, rfl, q⟩
  · obtain ⟨its, r1, t1, _⟩ := I.tuple h1
    obtain ⟨its2, r2, t2, _⟩ := I.tuple h2
    cases r2
    refine SeqAt.RcAt.tuples (e := fun _ => true) t1 t2 hu2 (fun j h1 h2 => absurd h2 (by simp)) _ _ _ _ ?_
    cases r1 with
    | nil => exact ⟨.bl true, H, I, rfl, q⟩
    | cons _ _ => exact ⟨.bl false, H, I, rfl, q⟩
theorem op_empN (hu : X.A.units + 64 < cLine) : OpR X (compareOp .NotEq) (rEmp X.K true) := by
  intro pins s σ H x y v u Q I rx ry h
  obtain ⟨a, b, xs, rfl, rfl, h, q⟩ := h
  cases rx
  cases ry
  have hu2 : X.A.units < cLine := by omega
  rcases h with ⟨h1, h2⟩ | ⟨h1, h2⟩
  · obtain ⟨its, r1, t1, _⟩ := I.list h1
    obtain ⟨its2, r2, t2, _⟩ := I.list h2
    cases r2
    cases r1 with
    | nil => exact SeqAt.RcNeAt.lists (e := fun _ => true) t1.isList t2.isList rfl hu2 (fun j h1 => absurd h1 (by simp)) _ _ _ _ ⟨.bl false, H, I, rfl, q⟩
    | cons _ _ => exact SeqAt.RcNeAt.lists_lengths t1.isList t2.isList (by simp) hu2 _ _ _ _ ⟨.bl true, H, I, rfl, q⟩
  · obtain ⟨its, r1, t1, _⟩ := I.tuple h1
    obtain ⟨its2, r2, t2, _⟩ := I.tuple h2
    cases r2
    refine SeqAt.RcNeAt.tuples (e := fun _ => true) t1 t2 hu2 (fun j h1 h2 => absurd h2 (by simp)) _ _ _ _ ?_
    cases r1 with
    | nil => exact ⟨.bl false, H, I, rfl, q⟩
    | cons _ _ => exact ⟨.bl true, H, I, rfl, q⟩
/-- x == [] of a list, x == () of a tuple -/
def oEmp (n : Bool) (x y : PyData) (P : PyData → Prop) : Prop := match x, y with
  | .list xs, .list [] => P (.bool (xs.isEmpty != n))
  | .tuple xs, .tuple [] => P (.bool (xs.isEmpty != n))
  | _, _ => False
theorem drs_empty {F : Hp} {vs : List V} {ds : List PyData} (r : DRs K F vs ds) : vs.isEmpty = ds.isEmpty := by cases r <;> rfl
theorem opd_emp {n : Bool} : OpD K (rEmp K n) (oEmp n) := by
  intro _ g F env σ H vx vy dx dy P Q k rx ry p q
  unfold oEmp at p
  split at p
  · obtain ⟨a, us, rfl, h1, h2⟩ := rx.inv_lst
    obtain ⟨b, ws, rfl, h3, h4⟩ := ry.inv_lst
    cases h4
    exact ⟨a, b, us, rfl, rfl, .inl ⟨(h1.mono k.fh).sq, (h3.mono k.fh).sq⟩, q _ _ F H (by rw [drs_empty h2]; exact p) (Ex.refl F) k (.bl _)⟩
  · obtain ⟨a, us, rfl, h1, h2⟩ := rx.inv_tup
    obtain ⟨b, ws, rfl, h3, h4⟩ := ry.inv_tup
    cases h4
    exact ⟨a, b, us, rfl, rfl, .inr ⟨Evl.ex_t k.fh h1, Evl.ex_t k.fh h3⟩, q _ _ F H (by rw [drs_empty h2]; exact p) (Ex.refl F) k (.bl _)⟩
  · exact p.elim
theorem q_empL {n : Bool} {xs : List PyData} {P : PyData → Prop} : oEmp n (.list xs) (.list []) P = P (.bool (xs.isEmpty != n)) := rfl
theorem q_empT {n : Bool} {xs : List PyData} {P : PyData → Prop} : oEmp n (.tuple xs) (.tuple []) P = P (.bool (xs.isEmpty != n)) := rfl
/-- x == [] of a name's own cell -/
def dEmpC (n : Bool) (i : Nat) (env : List SD) (P : PyData → List SD → Prop) : Prop := match env[i]? with
  | some (.cel _ xs) => P (.bool (xs.isEmpty != n)) env
  | _ => False
theorem lift_empC {n : Bool} {i : Nat} {σ : L2.St} {H : Hp} {Q : VK} (h : liftE K Z (dEmpC n i) σ H Q) : tOp (rEmp K n) (tVar i) (tLst tNil) σ H Q := by
  obtain ⟨g, F, env, P, k, w, q⟩ := h
  unfold dEmpC at w
  split at w
  · rename_i p xs e
    obtain ⟨a0, vs, h1, h2, h3, h4, h5⟩ := k.cel i p xs e
    refine ⟨_, h1, Nat.zero_le _, fun p hp => ?_⟩
    have ne : a0 ≠ p := ne_of_none h3 hp
    refine ⟨a0, p, vs, rfl, rfl, .inl ⟨SqL.of (by rw [upd_ne ne]; exact h3), SqL.of upd_same⟩, ?_⟩
    rw [drs_empty h4]
    exact q _ env _ _ _ w (Ex.refl F) (k.extra hp) (.bl _)
  · exact w.elim
variable {x : Str}
theorem dempC (i : Nat) {pl : Pos} (hu : X.A.units + 64 < cLine) (hN : X.N[i]? = some x := by rfl) (hv : Vis X.env.scope x := by first | exact Or.inl rfl | exact Or.inr (Or.inl rfl) | exact Or.inr (Or.inr rfl)) (hd : (x == ("__debug__" : Str)) = false := by decide)
    (hcd : (x == ("__classdict__" : Str)) = false := by decide) : PE X (.Compare (.Name x p0) [.Eq] [.List [] pl] pos) (liftE X.K Z (dEmpC false i)) := PE.of (pe_cmpR (op_empE hu) (pe_var hN hv hd hcd) (pe_lst pa_nil) (nomark _)) fun _ _ _ h => lift_empC h
theorem dempCn (i : Nat) {pl : Pos} (hu : X.A.units + 64 < cLine) (hN : X.N[i]? = some x := by rfl) (hv : Vis X.env.scope x := by first | exact Or.inl rfl | exact Or.inr (Or.inl rfl) | exact Or.inr (Or.inr rfl)) (hd : (x == ("__debug__" : Str)) = false := by decide)
    (hcd : (x == ("__classdict__" : Str)) = false := by decide) : PE X (.Compare (.Name x p0) [.NotEq] [.List [] pl] pos) (liftE X.K Z (dEmpC true i)) := PE.of (pe_cmpR (op_empN hu) (pe_var hN hv hd hcd) (pe_lst pa_nil) (nomark _)) fun _ _ _ h => lift_empC h
theorem tempC (i : Nat) {pl : Pos} (hu : X.A.units + 64 < cLine) (hN : X.N[i]? = some x := by rfl) (hv : Vis X.env.scope x := by first | exact Or.inl rfl | exact Or.inr (Or.inl rfl) | exact Or.inr (Or.inr rfl)) (hd : (x == ("__debug__" : Str)) = false := by decide)
    (hcd : (x == ("__classdict__" : Str)) = false := by decide) : PT X (.Compare (.Name x p0) [.Eq] [.List [] pl] pos) (liftT X.K Z (dTest (dEmpC false i))) := PT.of (pt_cmpR (op_empE hu) (pe_var hN hv hd hcd) (pe_lst pa_nil) (nomark _)) fun _ _ _ h => lift_test (fun _ _ _ h => lift_empC h) h
theorem tempCn (i : Nat) {pl : Pos} (hu : X.A.units + 64 < cLine) (hN : X.N[i]? = some x := by rfl) (hv : Vis X.env.scope x := by first | exact Or.inl rfl | exact Or.inr (Or.inl rfl) | exact Or.inr (Or.inr rfl)) (hd : (x == ("__debug__" : Str)) = false := by decide)
    (hcd : (x == ("__classdict__" : Str)) = false := by decide) : PT X (.Compare (.Name x p0) [.NotEq] [.List [] pl] pos) (liftT X.K Z (dTest (dEmpC true i))) := PT.of (pt_cmpR (op_empN hu) (pe_var hN hv hd hcd) (pe_lst pa_nil) (nomark _)) fun _ _ _ h => lift_test (fun _ _ _ h => lift_empC h) h

/-! ### is True, is False -/
def oIsB (n t : Bool) (x : PyData) (P : PyData → Prop) : Prop := match x with
  | .bool b => P (.bool (decide (b = t) != n))
  | _ => False
theorem q_isB {n t b : Bool} {P : PyData → Prop} : oIsB n t (.bool b) P = P (.bool (decide (b = t) != n)) := rfl
theorem lift_isB {t : Bool} {σ : L2.St} {H : Hp} {Q : VK} (h : liftE K Z (dUn (oIsB false t) wa) σ H Q) : tOp rIsB (liftE K Z wa) (tC (.bl t)) σ H Q := by
  obtain ⟨g, F, env, P, k, w, q⟩ := h
  refine ⟨g, F, env, _, k, w, fun d env1 v F1 H1 p e1 k1 r1 => ?_⟩
  unfold oIsB at p
  split at p
  · cases r1.inv_bool
    refine ⟨_, _, rfl, rfl, q _ env1 _ F1 H1 ?_ e1 k1 (.bl _)⟩
    simpa using p
  · exact p.elim
theorem lift_isBn {t : Bool} {σ : L2.St} {H : Hp} {Q : VK} (h : liftE K Z (dUn (oIsB true t) wa) σ H Q) : tOp rNotB (liftE K Z wa) (tC (.bl t)) σ H Q := by
  obtain ⟨g, F, env, P, k, w, q⟩ := h
  refine ⟨g, F, env, _, k, w, fun d env1 v F1 H1 p e1 k1 r1 => ?_⟩
  unfold oIsB at p
  split at p
  · cases r1.inv_bool
    refine ⟨_, _, rfl, rfl, q _ env1 _ F1 H1 ?_ e1 k1 (.bl _)⟩
    simpa using p
  · exact p.elim
theorem disB {t : Bool} {j pos'} (ha : PE X a (liftE X.K Z wa)) : PE X (.Compare a [.Is] [.Constant (.bool t) j pos'] pos) (liftE X.K Z (dUn (oIsB false t) wa)) := PE.of (pe_cmpR op_isBl ha pe_bl (nomark _)) fun _ _ _ h => lift_isB h
theorem dnotB {t : Bool} {j pos'} (ha : PE X a (liftE X.K Z wa)) : PE X (.Compare a [.IsNot] [.Constant (.bool t) j pos'] pos) (liftE X.K Z (dUn (oIsB true t) wa)) := PE.of (pe_cmpR op_notBl ha pe_bl (nomark _)) fun _ _ _ h => lift_isBn h
theorem tisB {t : Bool} {j pos'} (ha : PE X a (liftE X.K Z wa)) : PT X (.Compare a [.Is] [.Constant (.bool t) j pos'] pos) (liftT X.K Z (dTest (dUn (oIsB false t) wa))) := PT.of (pt_cmpR op_isBl ha pe_bl (nomark _)) fun _ _ _ h => lift_test (fun _ _ _ h => lift_isB h) h
theorem tnotB {t : Bool} {j pos'} (ha : PE X a (liftE X.K Z wa)) : PT X (.Compare a [.IsNot] [.Constant (.bool t) j pos'] pos) (liftT X.K Z (dTest (dUn (oIsB true t) wa))) := PT.of (pt_cmpR op_notBl ha pe_bl (nomark _)) fun _ _ _ h => lift_test (fun _ _ _ h => lift_isBn h) h

/-! ### {} -/
theorem ddict0 : PE X (.Dict [] [] pos) (liftE X.K Z (dC (.dict []))) := PE.of pe_dnewK fun σ H Q ⟨g, F, env, P, k, w, q⟩ => fun p hp =>
  q _ env _ (upd F p (.dK [])) _ w (Ex.new (fnone k.fh hp)) (k.alloc hp) (.dct upd_same)
end

/-! ### t[::-1] -/
section
variable {prog : Program} {w : World} {A : Around} {E : Value → Shared → Prop} {s : Shared}
theorem sliceApplied_rev {sl : Addr} {t : Tok} {n : Nat} {Q : Int × Int × Nat → Shared → Prop} (hs : s.heap.IsSliceOf sl .none .none (.int (-1) t))
    (h : Q ((n : Int) - 1, -1, n) s) : wpAny (model prog w) A (Builtin.Slice.sliceApplied (.ref sl) (pure (n : Int))) Q E s := by
  obtain ⟨os, hos, hcs, hds⟩ := id hs
  unfold Builtin.Slice.sliceApplied Builtin.Slice.sliceFields
  refine wpAny_bind (wpAny_bind (wpAny_field hos hds (x := .none) rfl (wpAny_bind (wpAny_field hos hds (x := .none) rfl (wpAny_bind (wpAny_field hos hds (x := .int (-1) t) rfl (wpAny_pure ?_)))))))
  refine wpAny_bind (HT.slicePart_ (.int (-1) t) ?_)
  show wpAny _ _ (if ((-1 : Int) == 0) = true then _ else _) _ _ s
  rw [if_neg (by decide)]
  refine wpAny_bind (HT.slicePart_ .none (wpAny_bind (HT.slicePart_ .none (wpAny_bind (wpAny_pure ?_)))))
  show wpAny _ _ (match Builtin.Slice.sliceAdjust none none (-1) (n : Int) with | (lo, hi) => pure (lo, (-1 : Int), Builtin.Slice.slicePlaces lo hi (-1))) _ _ s
  have e1 : Builtin.Slice.sliceAdjust none none (-1) (n : Int) = ((n : Int) - 1, -1) := by
    unfold Builtin.Slice.sliceAdjust
    simp
  rw [e1]
  have e2 : Builtin.Slice.slicePlaces ((n : Int) - 1) (-1) (-1) = n := by
    unfold Builtin.Slice.slicePlaces
    have h1 : ¬ ((-1 : Int) > 0) := by decide
    simp only [h1, if_false, show (- -1 : Int) = 1 from by decide, Int.ediv_one]
    split <;> omega
  show wpAny _ _ (pure ((n : Int) - 1, (-1 : Int), Builtin.Slice.slicePlaces ((n : Int) - 1) (-1) (-1))) _ _ s
  rw [e2]
  exact wpAny_pure h
theorem fm_congr {α β : Type} {f g : α → Option β} : ∀ {l : List α}, (∀ m ∈ l, f m = g m) → l.filterMap f = l.filterMap g
  | [], _ => rfl
  | a :: l, h => by
    rw [List.filterMap_cons, List.filterMap_cons, h a List.mem_cons_self, fm_congr fun m hm => h m (List.mem_cons_of_mem _ hm)]
theorem pick_rev (xs : Array Value) : ((List.range xs.size).filterMap fun (m : Nat) => xs[(((xs.size : Int) - 1) + (m : Int) * (-1)).toNat]?).toArray = xs.toList.reverse.toArray := by
  have e : (List.range xs.size).filterMap (fun (m : Nat) => xs[(((xs.size : Int) - 1) + (m : Int) * (-1)).toNat]?) = ((List.range xs.size).map fun k => xs.size - 1 - k).filterMap (xs[·]?) := by
    rw [List.filterMap_map]
    refine fm_congr fun m hm => ?_
    have hm := List.mem_range.mp hm
    have : (((xs.size : Int) - 1) + (m : Int) * (-1)).toNat = xs.size - 1 - m := by omega
    show xs[(((xs.size : Int) - 1) + (m : Int) * (-1)).toNat]? = xs[xs.size - 1 - m]?
    rw [this]
  rw [e, PySem.W.krv_range, List.filterMap_reverse, PySem.W.krv_all]
theorem getItem_tuple_rev {t sl : Addr} {tk : Tok} {items : Array Value} {Q : Value → Shared → Prop} (ht : IsTup s.heap t items) (hs : s.heap.IsSliceOf sl .none .none (.int (-1) tk))
    (h : Q (.ref s.heap.objs.size) { s with heap := s.heap.push { cls := .type "tuple", data := .seq items.toList.reverse.toArray } })
    (hsz : items.size ≤ sizeLine) : wpAny (model prog w) A (getItem (.ref t) (.ref sl)) Q E s := by
  have htake : sizeOk (.seq items.toList.reverse.toArray) := by
    show items.toList.reverse.toArray.size ≤ sizeLine
    rw [List.size_toArray, List.length_reverse, Array.length_toList]
    exact hsz
  obtain ⟨os, hos, hcs, hds⟩ := id hs
  have hTs : s.TypeIs (.ref sl) "slice" := ⟨os, hos, hcs⟩
  unfold getItem
  try with_reducible refine wpAny_holding ?_
  first | refine wpAny_bind (wpAny_pure ?_) | skip
  refine wpAny_bind (wpAny_sequenceKey ht.typeIs (by decide) ?_)
  refine wpAny_bind (wpAny_callSpecial?_slot (name := Str.ofString "__getitem__") ht.typeIs PyProof.Rows.slot_tuple_getitem
    (wpAny_call_entry PyProof.Rows.slot_tuple_getitem ht.typeIs entry_tuple_getitem ?_ (args_tuple_getitem _ _)))
  show wpAny _ _ (Builtin.Tuple.tupleItemsOf (.ref t) >>= _) _ _ s
  refine wpAny_bind (tupleItemsOf_ ht ?_)
  refine wpAny_bind (wpAny_typeOf hTs ?_)
  rw [if_pos (by decide)]
  refine wpAny_bind (sliceApplied_rev hs ?_)
  have hno : ¬ ((((items.size : Int) - 1) == 0 && (-1 : Int) == 1 && items.size == items.size) = true) := by
    intro q
    rw [Bool.and_eq_true, Bool.and_eq_true] at q
    exact absurd q.1.2 (by decide)
  show wpAny _ _ (if (((items.size : Int) - 1) == 0 && (-1 : Int) == 1 && items.size == items.size) = true then _ else _) _ _ s
  rw [if_neg hno, pick_rev]
  first
    | exact wpAny_bind (m := Builtin.Tuple.tupleExact _) (wpAny_newObj_type (wpAny_pure ⟨_, rfl, wpAny_pure h⟩) htake)
    | exact wpAny_bind (m := Builtin.Tuple.tupleExact _) (wpAny_newObj_type (wpAny_bind (wpAny_pure (wpAny_pure ⟨_, rfl, wpAny_pure h⟩))) htake)
    | exact wpAny_bind (wpAny_bind (m := Builtin.Tuple.tupleExact _) (wpAny_newObj_type (wpAny_pure (wpAny_pure ⟨_, rfl, wpAny_pure h⟩)) htake))
    | exact wpAny_bind (wpAny_bind (m := Builtin.Tuple.tupleExact _) (wpAny_newObj_type (wpAny_pure ⟨_, rfl, wpAny_pure h⟩) htake))
end
end DL

/-! The data layer, part 17: x[::-1] of a list or a tuple. -/
namespace DL
variable {Z : Zx}
open PySem PySem.Spec PyProof.Rows L2
open Evl (Ex)
section
variable {X : Cx} {a b e : Expr} {es : List Expr} {we wa wb : DE} {was : DA} {pos p p1 p2 p3 p0 : Pos} {K : PySem.W.Frag} {m : Nat}
def tRevA (K : PySem.W.Frag) (te : TE) : TE := fun σ H Q => te σ H fun x H1 => (∃ a xs, x = .ref a ∧ SqL K H1 a xs ∧ ∀ p, H1 p = none → Q (.ref p) (upd H1 p (.lst xs.reverse))) ∨ ∃ a xs, x = .ref a ∧ SqT K H1 a xs ∧ NewZ H1 xs.reverse Q
theorem pe_revA {te : TE} {k : Nat} (he : PE X e te) : PE X (.Subscript e (.Slice none none (some (.UnaryOp .USub (.Constant (.int 1) k p1) p2)) p3) pos) (tRevA X.K te) := by
  refine ⟨fun pins s σ H Q I h => ?_⟩
  refine Subscript_ (thn (he.run pins s σ H _ I h) fun v s1 ⟨x, H1, I1, r1, q1⟩ => ?_)
  have hst : PO X (some (.UnaryOp .USub (.Constant (.int 1) k p1) p2)) (tPart (tUn (rU fun i => .int (-i)) (tC (.int 1)))) := po_some (pe_un un_neg pe_int)
  rcases q1 with ⟨a, xs, ex, hx, q⟩ | ⟨a, xs, ex, hx, q⟩
  · subst ex
    cases r1
    refine wpAny_Slice (thn (po_none.run pins s1 σ H1 (fun o H2 => o = none ∧ H2 = H1) I1 ⟨rfl, rfl⟩) fun vl s2 ⟨l, H2, I2, pl, el, e2⟩ => ?_)
    subst el e2
    refine thn (po_none.run pins s2 σ H2 (fun o H3 => o = none ∧ H3 = H2) I2 ⟨rfl, rfl⟩) fun vu s3 ⟨u, H3, I3, pu, eu, e3⟩ => ?_
    subst eu e3
    refine thn (hst.run pins s3 σ H3 (fun o H4 => o = some (-1) ∧ H4 = H3) I3 ⟨1, rfl, -1, rfl, rfl, rfl⟩) fun vs s4 ⟨o, H4, I4, ps, eo, e4⟩ => ?_
    subst eo e4
    have I5 : Inv X pins σ H4 { s4 with heap := s4.heap.push { cls := .type "slice", data := .fields #[vl, vu, vs] } } := I4.kept (t' := s4.toks) fun b ob q => Heap.get?_push_of_some _ q
    obtain ⟨its, r, ht, hz⟩ := I5.list hx
    have hlen := r.length
    show wpAny (model X.prog X.w) X.A (subscriptTail e (.Slice none none (some (.UnaryOp .USub (.Constant (.int 1) k p1) p2)) p3) (.ref a) (.ref s4.heap.objs.size)) (EP X pins σ Q) X.xe { s4 with heap := s4.heap.push { cls := .type "slice", data := .fields #[vl, vu, vs] } }
    refine tail_any (ops := [.ref a, .ref s4.heap.objs.size]) ht.isList.typeIs (PySem.slot_list_getitem.lookup) ?_ (by with_unfolding_all rfl)
    refine wpAny_getItem_list_slice ht.isList (Heap.IsSliceOf.new _ vl vu vs) pl pu ps (by decide) ?_ (by rw [List.size_toArray]; omega)
    rw [PySem.W.krv_pick]
    refine ⟨.ref _, _, I5.laid (t' := s4.toks) (o := .lst xs.reverse) (fun b ob q => Heap.get?_push_of_some _ q) (Nat.le_refl _) ?_, rfl, q _ (I5.hok.fresh (Nat.le_refl _))⟩
    exact ⟨by rw [List.length_reverse]; exact hz, _, 0, r.reverse, Heap.get?_push_size _ rfl⟩
  · subst ex
    cases r1
    refine wpAny_Slice (thn (po_none.run pins s1 σ H1 (fun o H2 => o = none ∧ H2 = H1) I1 ⟨rfl, rfl⟩) fun vl s2 ⟨l, H2, I2, pl, el, e2⟩ => ?_)
    subst el e2
    refine thn (po_none.run pins s2 σ H2 (fun o H3 => o = none ∧ H3 = H2) I2 ⟨rfl, rfl⟩) fun vu s3 ⟨u, H3, I3, pu, eu, e3⟩ => ?_
    subst eu e3
    refine thn (hst.run pins s3 σ H3 (fun o H4 => o = some (-1) ∧ H4 = H3) I3 ⟨1, rfl, -1, rfl, rfl, rfl⟩) fun vs s4 ⟨o, H4, I4, ps, eo, e4⟩ => ?_
    subst eo e4
    have I5 : Inv X pins σ H4 { s4 with heap := s4.heap.push { cls := .type "slice", data := .fields #[vl, vu, vs] } } := I4.kept (t' := s4.toks) fun b ob q => Heap.get?_push_of_some _ q
    obtain ⟨its, r, ht, hz⟩ := I5.tuple hx
    have hlen := r.length
    show wpAny (model X.prog X.w) X.A (subscriptTail e (.Slice none none (some (.UnaryOp .USub (.Constant (.int 1) k p1) p2)) p3) (.ref a) (.ref s4.heap.objs.size)) (EP X pins σ Q) X.xe { s4 with heap := s4.heap.push { cls := .type "slice", data := .fields #[vl, vu, vs] } }
    refine tail_any (ops := [.ref a, .ref s4.heap.objs.size]) ht.typeIs (PyProof.Rows.slot_tuple_getitem.lookup) ?_ (by with_unfolding_all rfl)
    cases pl
    cases pu
    cases ps with
    | int _ t =>
    refine getItem_tuple_rev (items := its.toArray) ht (Heap.IsSliceOf.new _ .none .none (.int (-1) t)) ?_ (by rw [List.size_toArray]; omega)
    exact endZ (tk := s4.toks) I5 r.reverse rfl (by rw [List.length_reverse]; exact hz) q
def oRevA (x : PyData) (P : PyData → Prop) : Prop := match x with
  | .list ds => P (.list ds.reverse)
  | .tuple ds => P (.tuple ds.reverse)
  | _ => False
theorem q_revL {ds : List PyData} {P : PyData → Prop} : oRevA (.list ds) P = P (.list ds.reverse) := rfl
theorem q_revT {ds : List PyData} {P : PyData → Prop} : oRevA (.tuple ds) P = P (.tuple ds.reverse) := rfl
theorem drevA {k : Nat} (he : PE X e (liftE X.K Z we)) : PE X (.Subscript e (.Slice none none (some (.UnaryOp .USub (.Constant (.int 1) k p1) p2)) p3) pos) (liftE X.K Z (dUn oRevA we)) :=
  PE.of (pe_revA he) fun σ H Q ⟨g, F, env, P, kk, w, q⟩ => ⟨g, F, env, _, kk, w, fun d env1 v F1 H1 p e1 k1 r1 => by
    unfold oRevA at p
    split at p
    · obtain ⟨a, us, rfl, h1, h2⟩ := r1.inv_lst
      refine .inl ⟨a, us, rfl, (h1.mono k1.fh).sq, fun x hx => ?_⟩
      obtain ⟨e4, k4, r4⟩ := k1.newLst hx h2.rev
      exact q _ env1 _ _ _ p (e1.trans e4) k4 r4
    · obtain ⟨a, us, rfl, h1, h2⟩ := r1.inv_tup
      refine .inr ⟨a, us, rfl, Evl.ex_t k1.fh h1, fun x o hx ho => ?_⟩
      obtain ⟨e4, k4, r4⟩ := k1.newTup hx ho h2.rev
      exact q _ env1 _ _ _ p (e1.trans e4) k4 r4
    · exact p.elim⟩
end
end DL

/-! The data layer, part 18: x[i] += e, [e] * n. -/
namespace DL
variable {Z : Zx}
open PySem PySem.Spec PyProof.Rows L2
open Evl (Ex)
section
variable {X : Cx} {a b e : Expr} {es : List Expr} {we wa wb : DE} {was : DA} {pos p p1 p2 p3 p0 : Pos} {K : PySem.W.Frag} {m : Nat}
def rGetL (K : PySem.W.Frag) : V → V → Hp → VK → Prop := fun x y H Q => ∃ p xs i v, x = .ref p ∧ y = .int i ∧ SqL K H p xs ∧ atI xs i = some v ∧ Q v H
theorem get_list : PGet X (rGetL X.K) := by
  intro pins s σ H o i ov iv Q I ro ri h
  obtain ⟨p, xs, i, z, rfl, rfl, hq, he, q⟩ := h
  cases ro
  obtain ⟨t, rfl⟩ := ri
  obtain ⟨its, r, pl, hz⟩ := I.list hq
  obtain ⟨j, h1, h2, h3, h4, h5⟩ := atI_get he
  obtain ⟨w, ew, rw'⟩ := r.get h2
  have hl := r.length
  have hn := line63
  have fin : EP X pins σ Q w s := ⟨z, H, I, rw', q⟩
  by_cases h0 : 0 ≤ i
  · have hj : i.toNat = j := by
      rw [seqIndex_of h0 h5] at h1
      exact Option.some.inj h1
    exact wpAny_getItem_list pl.isList h0 (by omega) (by rw [hj]; simpa using ew) fin
  · have hj : (i + (its.toArray.size : Int)).toNat = j := by
      rw [seqIndex_neg (by omega) h4] at h1
      rw [List.size_toArray, ← hl]
      exact Option.some.inj h1
    exact wpAny_getItem_list_neg pl.isList (by omega) (by rw [List.size_toArray] <;> omega) (by omega) (by rw [hj]; simpa using ew) fin
/-- x[i] op= e of a name's own cell, numbers -/
def dAugC (i : Nat) (f : Int → Int → Int) (wi we : DE) (E : DEnds) (env : List SD) : Prop := match env[i]? with
  | some (.cel _ _) => wi env fun y env1 => match env1[i]? with
    | some (.cel _ xs) => ixQ xs y fun x => we env1 fun d env2 => oI (fun n m => .int (f n m)) x d fun z => match env2[i]? with
      | some (.cel p xs2) => stQ xs2 y z fun xs' => E.nx (env2.set i (.cel p xs'))
      | _ => False
    | _ => False
  | _ => False
theorem saugC (i : Nat) {x : Str} {tpos : Pos} {op : Operator} {f : Int → Int → Int} (ho : PIp X op (ipI f)) (hi : PE X b (liftE X.K Z wb)) (he : PE X e (liftE X.K Z we)) (hN : X.N[i]? = some x := by rfl) (hv : Vis X.env.scope x := by first | exact Or.inl rfl | exact Or.inr (Or.inl rfl) | exact Or.inr (Or.inr rfl)) (hd : (x == ("__debug__" : Str)) = false := by decide)
    (hcd : (x == ("__classdict__" : Str)) = false := by decide)
    (ha : ∀ ov iv new, augStore b ov iv new = (do holding [new, ov, iv] (setItem ov iv new); release [new, ov, iv] []; pure .next) := by intros; rfl) : PS X (.AugAssign (.Subscript (.Name x p0) b tpos) op e pos) (liftS X.K Z m (dAugC i f wb we)) :=
  PS.of (ps_augS (pe_var hN hv hd hcd) hi get_list he ho set_list ha) fun D σ H ⟨g, F, env, P, k, w, q⟩ => by
    unfold dAugC at w
    split at w
    · rename_i p' xs' ex
      obtain ⟨a0, us0, b1, _⟩ := k.cel i p' xs' ex
      refine ⟨_, b1, g, F, env, _, k, w, fun y env1 v F1 H1 p1 e1 k1 r1 => ?_⟩
      split at p1
      · rename_i q1 xs ex1
        obtain ⟨n, rfl⟩ : ∃ n, y = .int n := by
          cases y <;> first | exact ⟨_, rfl⟩ | exact p1.elim
        cases r1.inv_int
        obtain ⟨d', ed, p1⟩ := pick_inv (show pick xs n _ from p1)
        obtain ⟨a1, ws, z1, z2, z3, z4, z5⟩ := k1.cel i _ _ ex1
        rw [b1] at z1
        cases z1
        obtain ⟨u, u1, u2⟩ := atI_rel z4 ed
        refine ⟨a0, ws, n, u, rfl, rfl, SqL.of z3, u1, g, F1, env1, _, k1, p1, fun d env2 v2 F2 H2 p2 e2 k2 r2 => ?_⟩
        unfold oI at p2
        split at p2
        · rename_i nx' dm
          cases u2.inv_int
          cases r2.inv_int
          refine ⟨_, _, rfl, rfl, ?_⟩
          split at p2
          · rename_i q3 xs2 ex2
            unfold stQ at p2
            dsimp only at p2
            split at p2
            · rename_i j ej
              obtain ⟨a3, us3, c1, c2, c3, c4, _⟩ := k2.cel i q3 xs2 ex2
              rw [b1] at c1
              cases c1
              exact ⟨a0, us3, n, j, rfl, rfl, c3, by rw [c4.length]; exact ej, q.nx _ σ F2 _ p2 (e1.trans e2) (k2.write ex2 b1 (c4.set j (.int _)))⟩
            · exact p2.elim
          · exact p2.elim
        · exact p2.elim
      · exact p1.elim
    · exact w.elim
/-- [e] * n, a new cell -/
def repQ (x y : PyData) (K : List PyData → Prop) : Prop := match y with
  | .int k => (-1000000 ≤ k ∧ k ≤ 100000) ∧ K (List.replicate k.toNat x)
  | _ => False
theorem q_rep {x : PyData} {k : Int} {K : List PyData → Prop} : repQ x (.int k) K = ((-1000000 ≤ k ∧ k ≤ 100000) ∧ K (List.replicate k.toNat x)) := rfl
def dRep (wa wb : DE) (env : List SD) (P : SD → List SD → Prop) : Prop := wa env fun x env1 => wb env1 fun y env2 => repQ x y fun xs => P (.cel false xs) env2
theorem rep_flat {α : Type} (x : α) : ∀ n : Nat, (List.replicate n [x]).flatten = List.replicate n x
  | 0 => rfl
  | n + 1 => by rw [List.replicate_succ, List.flatten_cons, rep_flat x n, List.replicate_succ]; rfl
theorem DRs.rep {F : Hp} {v : V} {d : PyData} (r : DR K F v d) : ∀ n : Nat, DRs K F (List.replicate n v) (List.replicate n d)
  | 0 => .nil
  | n + 1 => by rw [List.replicate_succ, List.replicate_succ]; exact .cons r (DRs.rep r n)
theorem drep {lp : Pos} (ha : PE X a (liftE X.K Z wa)) (hb : PE X b (liftE X.K Z wb)) (hs : starEach [a] X.env = (false, eval a X.env) :: starEach [] X.env := by rfl) : PE X (.BinOp (.List [a] lp) .Mult b pos) (liftX X.K Z (dRep wa wb)) :=
  PE.of (pe_op op_rep (pe_lst (pa_cons ha pa_nil hs)) hb) fun σ H Q ⟨g, F, env, P, k, w, q⟩ =>
    ⟨g, F, env, _, k, w, fun x env1 v F1 H1 p1 e1 k1 r1 => ⟨by show 1 ≤ sizeLine; decide, fun D hD => by
      obtain ⟨k2, rc⟩ := k1.newCell hD (DRs.one r1)
      obtain ⟨D', vs, eD, hF, hH, rr, h0, hpr, nw⟩ := rc
      cases eD
      refine ⟨_, F1, env1, _, k2.hide hF hH nw hpr, p1, fun y env2 v2 F2 H2 p2 e2 k3 r2 => ?_⟩
      obtain ⟨n, rfl, ⟨h1, h2⟩, p2⟩ : ∃ n, y = .int n ∧ (-1000000 ≤ n ∧ n ≤ 100000) ∧ P (.cel false (List.replicate n.toNat x)) env2 := by
        cases y <;> first | exact ⟨_, rfl, p2⟩ | exact p2.elim
      cases r2.inv_int
      obtain ⟨k4, z1, z2, z3⟩ := Ok.bare hpr k3
      have hvs : vs = [v] := by
        rw [upd_same] at hH
        cases hH
        rfl
      subst hvs
      refine ⟨D, n, [v], rfl, rfl, z2, by omega, by omega, ?_, fun p hp => ?_⟩
      · show 1 * n.toNat ≤ sizeLine
        exact Evl.sz_of (by omega)
      · rw [rep_flat]
        obtain ⟨k5, r5⟩ := k4.newCell hp (DRs.rep (r1.mono e2) n.toNat)
        exact q _ env2 _ _ _ p2 (e1.trans e2) k5 r5⟩⟩
end
theorem Dn.imp {P : Program} {w : World} {K : PySem.W.Frag} {mg : Str → Option Value} {base : Heap} {x : Str} {k : Nat} {ps : List Str} {S S' : DSp} (D : Dn P w K mg base x k ps S) (h : ∀ as Q, S' as Q → S as Q) : Dn P w K mg base x k ps S' :=
  ⟨let ⟨fd, F, b⟩ := D.ex; ⟨fd, F.imp h, b⟩, D.glo, D.kp⟩
theorem FnG.never {P : Program} {w : World} {K : PySem.W.Frag} {mg : Str → Option Value} {base : Heap} {k : Nat} {f : Addr} {fd : FuncData} {ps : List Str} {S : DSp} (h : ∀ as Q, ¬ S as Q) : FnG P w K mg base k f fd ps S :=
  ⟨fun as Q q => absurd q (h as Q), fun _ _ _ _ _ _ _ _ _ _ _ _ _ ⟨_, as, _, _, q, _⟩ => absurd q (h as _)⟩
end DL

/-! The data layer, part 19: // by a number of either sign. -/
namespace DL
variable {Z : Zx}
open PySem PySem.Spec PyProof.Rows L2
open Evl (Ex)
section
variable {X : Cx} {a b e : Expr} {wa wb : DE} {pos : Pos} {K : PySem.W.Frag}
theorem op_fdivA : OpR X (binaryOp .FloorDiv) (rI (fun _ j => j ≠ 0 ∧ j.natAbs.log2 < 9000) fun i j => .int (i.fdiv j)) := opI fun i j _ _ _ _ _ hc q => floordiv_int hc.1 q (.inl (PyProof.noPylong_of_log2 hc.2))
abbrev oFd : D2 := oIc (fun _ j => j ≠ 0 ∧ Sz j) fun i j => .int (i.fdiv j)
theorem q_fd {i j : Int} {P : PyData → Prop} : oFd (.int i) (.int j) P = ((j ≠ 0 ∧ Sz j) ∧ P (.int (i.fdiv j))) := rfl
theorem dfd (ha : PE X a (liftE X.K Z wa)) (hb : PE X b (liftE X.K Z wb)) : PE X (.BinOp a .FloorDiv b pos) (liftE X.K Z (dOp oFd wa wb)) :=
  dop op_fdivA (opd_I (fun _ _ h => ⟨h.1, Nat.lt_trans h.2.log (by decide)⟩) fun _ _ _ => .int _) ha hb
end
end DL

/-! The data layer, part 20: max and min of three, str of a whole number, enumerate, a list and a list as a new cell, cells lent to a call. -/
namespace DL
variable {Z : Zx}
open PySem PySem.Spec PyProof.Rows L2
open Evl (Ex)
section
variable {X : Cx} {a b e : Expr} {es : List Expr} {pos p : Pos} {was : DA} {wa wb we : DE} {K : PySem.W.Frag}
def max3 (i j k : Int) : Int := max (max i j) k
def min3 (i j k : Int) : Int := min (min i j) k
def nMax3 (xs : List PyData) (P : PyData → Prop) : Prop := match xs with
  | [.int i, .int j, .int k] => P (.int (max3 i j k))
  | _ => False
def nMin3 (xs : List PyData) (P : PyData → Prop) : Prop := match xs with
  | [.int i, .int j, .int k] => P (.int (min3 i j k))
  | _ => False
theorem q_max3 {i j k : Int} {P : PyData → Prop} : nMax3 [.int i, .int j, .int k] P = P (.int (max3 i j k)) := rfl
theorem q_min3 {i j k : Int} {P : PyData → Prop} : nMin3 [.int i, .int j, .int k] P = P (.int (min3 i j k)) := rfl
theorem DRs.inv3 {F : Hp} {vs : List V} {d e f : PyData} (h : DRs K F vs [d, e, f]) : ∃ v w u, vs = [v, w, u] ∧ DR K F v d ∧ DR K F w e ∧ DR K F u f := by
  cases h with
  | cons a b =>
    obtain ⟨w, u, rfl, r⟩ := b.inv2
    exact ⟨_, w, u, rfl, a, r⟩
theorem nuMax2_int (i j : Int) : nuMax2 (.int i) (.int j) = some (.int (max i j)) := by
  show some (if decide (i < j) = true then V.int j else V.int i) = some (V.int (max i j))
  by_cases h : i < j
  · rw [if_pos (by simpa using h), Int.max_eq_right (by omega)]
  · rw [if_neg (by simpa using h), Int.max_eq_left (by omega)]
theorem nuMin2_int (i j : Int) : nuMin2 (.int i) (.int j) = some (.int (min i j)) := by
  show some (if decide (j < i) = true then V.int j else V.int i) = some (V.int (min i j))
  by_cases h : j < i
  · rw [if_pos (by simpa using h), Int.min_eq_right (by omega)]
  · rw [if_neg (by simpa using h), Int.min_eq_left (by omega)]
theorem nuMax3_int (i j k : Int) : nuMax3 (.int i) (.int j) (.int k) = some (.int (max3 i j k)) := by
  unfold nuMax3 max3
  rw [nuMax2_int]
  exact nuMax2_int _ _
theorem nuMin3_int (i j k : Int) : nuMin3 (.int i) (.int j) (.int k) = some (.int (min3 i j k)) := by
  unfold nuMin3 min3
  rw [nuMin2_int]
  exact nuMin2_int _ _
theorem dmax3 (hm : X.mg "max" = none) (hc : X.calm = true) (ha : PA X (e :: es) (liftA X.K Z was)) (hg : Gl X "max" := by rfl)
    (he : starEach (e :: es) X.env = (false, eval e X.env) :: starEach es X.env := by rfl) (hpl : (backTo pos (starEach es X.env)).any (·.1) = false := by rfl) : PE X (.Call (.Name "max" p) (e :: es) [] pos) (liftE X.K Z (dB nMax3 was)) :=
  dcb (call_max3Nu hc) (fun _ g F env σ H vs ds P Q k r f q => by
    unfold nMax3 at f
    split at f
    · obtain ⟨v, w, u, rfl, r1, r2, r3⟩ := r.inv3
      cases r1.inv_int
      cases r2.inv_int
      cases r3.inv_int
      exact ⟨_, _, _, _, rfl, nuMax3_int _ _ _, q _ _ F H f (Ex.refl F) k (.int _)⟩
    · exact f.elim) hm (by decide +kernel) ha hg (by decide) (by decide) he hpl
theorem dmin3 (hm : X.mg "min" = none) (hc : X.calm = true) (ha : PA X (e :: es) (liftA X.K Z was)) (hg : Gl X "min" := by rfl)
    (he : starEach (e :: es) X.env = (false, eval e X.env) :: starEach es X.env := by rfl) (hpl : (backTo pos (starEach es X.env)).any (·.1) = false := by rfl) : PE X (.Call (.Name "min" p) (e :: es) [] pos) (liftE X.K Z (dB nMin3 was)) :=
  dcb (call_min3Nu hc) (fun _ g F env σ H vs ds P Q k r f q => by
    unfold nMin3 at f
    split at f
    · obtain ⟨v, w, u, rfl, r1, r2, r3⟩ := r.inv3
      cases r1.inv_int
      cases r2.inv_int
      cases r3.inv_int
      exact ⟨_, _, _, _, rfl, nuMin3_int _ _ _, q _ _ F H f (Ex.refl F) k (.int _)⟩
    · exact f.elim) hm (by decide +kernel) ha hg (by decide) (by decide) he hpl
/-! ### str of a whole number -/
/-- the figures of a whole number -/
@[irreducible] def shInt (i : Int) : Str := toString i
def nStr (xs : List PyData) (P : PyData → Prop) : Prop := match xs with
  | [.int i] => i.natAbs < 10 ^ 250 ∧ P (.str (shInt i))
  | _ => False
theorem q_str {i : Int} {P : PyData → Prop} : nStr [.int i] P = (i.natAbs < 10 ^ 250 ∧ P (.str (shInt i))) := rfl
theorem dstrOf (hm : X.mg "str" = none) (ha : PA X (e :: es) (liftA X.K Z was)) (hg : Gl X "str" := by rfl)
    (he : starEach (e :: es) X.env = (false, eval e X.env) :: starEach es X.env := by rfl) (hpl : (backTo pos (starEach es X.env)).any (·.1) = false := by rfl) : PE X (.Call (.Name "str" p) (e :: es) [] pos) (liftE X.K Z (dB nStr was)) :=
  dct call_str_int (fun _ g F env σ H vs ds P Q k r f q => by
    unfold nStr at f
    split at f
    · obtain ⟨v, rfl, r1⟩ := r.inv1
      cases r1.inv_int
      refine ⟨_, rfl, Nat.lt_trans (log250 f.1) (by decide), q _ _ F H f.2 (Ex.refl F) k ?_⟩
      unfold shInt
      exact .str _
    · exact f.elim) hm (by decide +kernel) ha hg (by decide) (by decide) he hpl
/-! ### a list and a list as a new cell -/
def catQ (xs : List PyData) (y : PyData) (K : List PyData → Prop) : Prop := match y with
  | .list ys => xs.length + ys.length ≤ 100000 ∧ K (xs ++ ys)
  | _ => False
theorem q_cat {xs ys : List PyData} {K : List PyData → Prop} : catQ xs (.list ys) K = (xs.length + ys.length ≤ 100000 ∧ K (xs ++ ys)) := rfl
theorem catQ_inv {xs : List PyData} {y : PyData} {K : List PyData → Prop} (h : catQ xs y K) : ∃ ys, y = .list ys ∧ xs.length + ys.length ≤ 100000 ∧ K (xs ++ ys) := by
  cases y <;> first | exact ⟨_, rfl, h⟩ | exact h.elim
def dCatC (i : Nat) (wb : DE) (env : List SD) (P : SD → List SD → Prop) : Prop := match env[i]? with
  | some (.cel _ _) => wb env fun y env1 => match env1[i]? with
    | some (.cel _ xs) => catQ xs y fun zs => P (.cel false zs) env1
    | _ => False
  | _ => False
theorem dcatC (i : Nat) {x : Str} {p0 : Pos} (hb : PE X b (liftE X.K Z wb)) (hN : X.N[i]? = some x := by rfl) (hv : Vis X.env.scope x := by first | exact Or.inl rfl | exact Or.inr (Or.inl rfl) | exact Or.inr (Or.inr rfl)) (hd : (x == ("__debug__" : Str)) = false := by decide)
    (hcd : (x == ("__classdict__" : Str)) = false := by decide) : PE X (.BinOp (.Name x p0) .Add b pos) (liftX X.K Z (dCatC i wb)) :=
  PE.of (pe_op op_catL (pe_var hN hv hd hcd) hb) fun σ H Q h => by
    obtain ⟨g, F, env, P, k, w, q⟩ := h
    unfold dCatC at w
    split at w
    · rename_i p xs e
      obtain ⟨a0, vs, h1, _⟩ := k.cel i p xs e
      refine ⟨_, h1, g, F, env, _, k, w, fun d env1 v F1 H1 p1 e1 k1 r1 => ?_⟩
      split at p1
      · rename_i p' ys e'
        obtain ⟨zs, rfl, hz, p1⟩ := catQ_inv p1
        obtain ⟨a1, ws, z1, z2, z3, z4, z5⟩ := k1.cel i _ _ e'
        rw [h1] at z1
        cases z1
        obtain ⟨b1, us, rfl, y1, y2⟩ := r1.inv_lst
        refine ⟨a0, b1, ws, us, rfl, rfl, RdL.of z3, y1.mono k1.fh, by rw [z4.length, y2.length]; exact sz2 hz, fun p hp => ?_⟩
        obtain ⟨k2, r2⟩ := k1.newCell hp (z4.append y2)
        exact q _ env1 _ _ _ p1 e1 k2 r2
      · exact p1.elim
    · exact w.elim
def dCatN (wa wb : DE) (env : List SD) (P : SD → List SD → Prop) : Prop := wa env fun x env1 => wb env1 fun y env2 => match x with
  | .list xs => catQ xs y fun zs => P (.cel false zs) env2
  | _ => False
/-- a list, as a row of items -/
def catN (x y : PyData) (K : List PyData → Prop) : Prop := match x with
  | .list xs => catQ xs y K
  | _ => False
theorem q_catN {xs ys : List PyData} {K : List PyData → Prop} : catN (.list xs) (.list ys) K = (xs.length + ys.length ≤ 100000 ∧ K (xs ++ ys)) := rfl
theorem dcatN (ha : PE X a (liftE X.K Z wa)) (hb : PE X b (liftE X.K Z wb)) : PE X (.BinOp a .Add b pos) (liftX X.K Z (dCatN wa wb)) :=
  PE.of (pe_op op_catL ha hb) fun σ H Q ⟨g, F, env, P, k, w, q⟩ => ⟨g, F, env, _, k, w, fun x env1 v F1 H1 p1 e1 k1 r1 => ⟨g, F1, env1, _, k1, p1, fun y env2 v2 F2 H2 p2 e2 k2 r2 => by
    split at p2
    · obtain ⟨zs, rfl, hz, p2⟩ := catQ_inv p2
      obtain ⟨a1, us, rfl, y1, y2⟩ := r1.inv_lst
      obtain ⟨b1, ws, rfl, y3, y4⟩ := r2.inv_lst
      refine ⟨a1, b1, us, ws, rfl, rfl, y1.mono (e2.trans k2.fh), y3.mono k2.fh, by rw [y2.length, y4.length]; exact sz2 hz, fun p hp => ?_⟩
      obtain ⟨k3, r3⟩ := k2.newCell hp ((y2.mono e2).append y4)
      exact q _ env2 _ _ _ p2 (e1.trans e2) k3 r3
    · exact p2.elim⟩⟩
/-! ### cells lent: within an expression they are data that stay; its answer is no list -/
def scalQ (d : PyData) (p : Prop) : Prop := match d with
  | .none => p
  | .bool _ => p
  | .int _ => p
  | .str _ => p
  | _ => False
theorem q_scalN {p : Prop} : scalQ .none p = p := rfl
theorem q_scalB {b : Bool} {p : Prop} : scalQ (.bool b) p = p := rfl
theorem q_scalI {i : Int} {p : Prop} : scalQ (.int i) p = p := rfl
theorem q_scalS {x : Str} {p : Prop} : scalQ (.str x) p = p := rfl
theorem scalQ_inv {d : PyData} {p : Prop} (h : scalQ d p) : p ∧ ∀ {F F' : Hp} {v : V}, DR K F v d → DR K F' v d := by
  cases d with
  | none => exact ⟨h, fun r => by cases r; exact .non⟩
  | bool b => exact ⟨h, fun r => by cases r; exact .bl b⟩
  | int i => exact ⟨h, fun r => by cases r; exact .int i⟩
  | str x => exact ⟨h, fun r => by cases r; exact .str x⟩
  | list _ => exact h.elim
  | tuple _ => exact h.elim
  | dict _ => exact h.elim
def frz1 : SD → SD
  | .cel _ xs => .dat (.list xs)
  | .dic _ => .un
  | s => s
def frz (env : List SD) : List SD := env.map frz1
def dBor (w : DE) (env : List SD) (P : PyData → List SD → Prop) : Prop := w (frz env) fun d _ => scalQ d (P d env)
def tBor (w : DT) (env : List SD) (P : Bool → List SD → Prop) : Prop := w (frz env) fun b _ => P b env
theorem Ok.later {g : Gx Z} {F : Hp} {env : List SD} {σ : L2.St} {H H' : Hp} (k : Ok K g F env σ H) (e : Ex H H') : Ok K g F env σ H' where
  len := k.len
  fh := k.fh.trans e
  dat := k.dat
  cel := fun i q xs h => by
    obtain ⟨a, vs, h1, h2, h3, h4, h5⟩ := k.cel i q xs h
    exact ⟨a, vs, h1, h2, e _ _ h3, h4, h5⟩
  sep := k.sep
  pin := k.pin
  frame := fun a u h n => e _ _ (k.frame a u h n)
  newF := k.newF
  oldF := k.oldF
  prot := fun a u h => by
    obtain ⟨z1, z2, z3⟩ := k.prot a u h
    exact ⟨e _ _ z1, z2, z3⟩
  dic := k.dic.keep (Ex.refl F) (fun _ _ _ z => z) fun a xs h n => ⟨n, (e _ _ h).trans h.symm⟩
theorem Ok.lend {g : Gx Z} {F : Hp} {env : List SD} {σ : L2.St} {H : Hp} (k : Ok K g F env σ H) : ∃ (Z' : Zx) (g' : Gx Z') (F' : Hp), Ok K g' F' (frz env) σ H ∧ Z'.H0 = H ∧ (∀ i, Z'.A0 i = none) := by
  classical
  let c : Addr → Prop := fun a => ∃ (i : Nat) (p : Bool) (xs : List PyData), env[i]? = some (.cel p xs) ∧ σ[i]? = some (some (.ref a))
  let F' : Hp := fun a => if c a then H a else F a
  have ex : Ex F F' := fun a o h => by
    show (if c a then H a else F a) = some o
    by_cases z : c a
    · rw [if_pos z]
      exact k.fh a o h
    · rw [if_neg z]
      exact h
  have fh : Ex F' H := fun a o h => by
    have h : (if c a then H a else F a) = some o := h
    by_cases z : c a
    · rw [if_pos z] at h
      exact h
    · rw [if_neg z] at h
      exact k.fh a o h
  refine ⟨⟨F', H, fun _ => none, fun _ => none, Z.P, Z.w⟩, ⟨fun _ => none, fun _ _ h => h⟩, F', ⟨?_, fh, fun i d h => ?_, fun i p xs h => ?_, fun i j p q xs ys a h => ?_, fun i a h => ?_, fun a o h _ => h, fun a o h => .inl h, Ex.refl _, fun a o h => ?_, fun i kvs h => ?_⟩, rfl, fun _ => rfl⟩
  · unfold frz
    rw [List.length_map]
    exact k.len
  · unfold frz at h
    rw [List.getElem?_map] at h
    cases e : env[i]? with
    | none => rw [e] at h; cases h
    | some s =>
      rw [e] at h
      cases s with
      | un => cases h
      | dic _ => cases h
      | dat d' =>
        cases h
        obtain ⟨v, h1, h2⟩ := k.dat i _ e
        exact ⟨v, h1, h2.mono ex⟩
      | cel p xs =>
        cases h
        obtain ⟨a, vs, h1, h2, h3, h4, h5⟩ := k.cel i p xs e
        refine ⟨_, h1, .lst (RdL.of (xs := vs) ?_) (h4.mono ex)⟩
        show (if c a then H a else F a) = _
        rw [if_pos ⟨i, p, xs, e, h1⟩]
        exact h3
  · unfold frz at h
    rw [List.getElem?_map] at h
    cases e : env[i]? with
    | none => rw [e] at h; cases h
    | some s => rw [e] at h; cases s <;> cases h
  · unfold frz at h
    rw [List.getElem?_map] at h
    cases e : env[i]? with
    | none => rw [e] at h; cases h
    | some s => rw [e] at h; cases s <;> cases h
  · cases h
  · cases h
  · unfold frz at h
    rw [List.getElem?_map] at h
    cases e : env[i]? with
    | none => rw [e] at h; cases h
    | some s => rw [e] at h; cases s <;> cases h
theorem PE.anyZ {ι : Type} {t : ι → TE} (h : ∀ i, PE X e (t i)) : PE X e (fun σ H Q => ∃ i, t i σ H Q) := ⟨fun pins s σ H Q I ⟨i, w⟩ => (h i).run pins s σ H Q I w⟩
theorem PT.anyZ {ι : Type} {t : ι → TT} (h : ∀ i, PT X e (t i)) : PT X e (fun σ H Q => ∃ i, t i σ H Q) := ⟨fun pins s σ H Q I ⟨i, w⟩ => (h i).run pins s σ H Q I w⟩
theorem dbor {w : DE} (h : ∀ {Z : Zx}, PE X e (liftE X.K Z w)) : PE X e (liftE X.K Z (dBor w)) := PE.of (PE.anyZ fun Z => h (Z := Z)) fun σ H Q ⟨g, F, env, P, k, w, q⟩ => by
  obtain ⟨Z', g', F', k', e1, e2⟩ := k.lend
  refine ⟨Z', g', F', frz env, _, k', w, fun d env1 v F1 H1 p e3 k1 r1 => ?_⟩
  obtain ⟨p, hr⟩ := scalQ_inv p
  have eh : Ex H H1 := fun a o h => k1.frame a o (by rw [show g'.H0 = H from e1]; exact h) fun i z => by rw [show g'.A0 i = none from e2 i] at z; cases z
  exact q d env v F H1 p (Ex.refl F) (k.later eh) (hr r1)
theorem tbor {w : DT} (h : ∀ {Z : Zx}, PT X e (liftT X.K Z w)) : PT X e (liftT X.K Z (tBor w)) := PT.of (PT.anyZ fun Z => h (Z := Z)) fun σ H Q ⟨g, F, env, P, k, w, q⟩ => by
  obtain ⟨Z', g', F', k', e1, e2⟩ := k.lend
  refine ⟨Z', g', F', frz env, _, k', w, fun d env1 F1 H1 p e3 k1 => ?_⟩
  have eh : Ex H H1 := fun a o h => k1.frame a o (by rw [show g'.H0 = H from e1]; exact h) fun i z => by rw [show g'.A0 i = none from e2 i] at z; cases z
  exact q d env F H1 p (Ex.refl F) (k.later eh)
/-! ### enumerate -/
/-- the tuple at a as it stands at each turn, each item in a new pair -/
def IteT (K : PySem.W.Frag) (a : Addr) : It :=
  ⟨fun i H => ∃ (xs : List V) (x : V), SqT K H a xs ∧ xs[i]? = some x, fun i H v H' => ∃ T x, v = .ref T ∧ H T = none ∧ H' = upd H T (.tup [.int (i : Nat), x]) ∧ ∀ xs, SqT K H a xs → xs[i]? = some x, fun i H => ∃ xs : List V, SqT K H a xs ∧ xs.length ≤ i⟩
theorem turn_enumT {P : Program} {w : World} {K : PySem.W.Frag} {elts : List Expr} {kk : Nat} {tpos : Pos} (a e it : Addr) (hai : a ≠ it) (hae : e ≠ a) :
    Turn P w K (.Tuple elts kk tpos) (IteT K a) [e, it] e (fun i h => (∃ old, IsEnum h e it ((i : Nat) : Int) old) ∧ h.IsTupleIter it a i ∧ e ≠ it) where
  mem := by simp
  obj := fun i h st b hb => by
    obtain ⟨⟨old, he⟩, ⟨o, ho, hc, hd⟩, _⟩ := st
    have e' : b = e ∨ b = it := by simpa using hb
    rcases e' with z | z
    · rw [z]; exact ⟨_, he, fun v q => nomatch q⟩
    · rw [z]; exact ⟨o, ho, fun v q => by rw [hd] at q; cases q⟩
  keep := fun i h h' st k => let ⟨⟨old, he⟩, hi, hne⟩ := st; ⟨⟨old, k e (by simp) _ he⟩, hi.at fun o q => k it (by simp) o q, hne⟩
  item := by
    intro X hP hw hK hc i pins s σ H E I hf st hg
    subst hP hw hK
    obtain ⟨⟨old, he⟩, hit, hne⟩ := st
    obtain ⟨xs, x, hq, hx⟩ := hg
    obtain ⟨its, rv, p, hz⟩ := I.tuple hq
    obtain ⟨u, hu, ru⟩ := rv.get hx
    have hel : e < s.heap.objs.size := Heap.lt_size he
    have hil : it < s.heap.objs.size := by obtain ⟨_, q, _⟩ := hit; exact Heap.lt_size q
    have hii : i < its.toArray.size := by
      rcases Nat.lt_or_ge i its.toArray.size with z | z
      · exact z
      · rw [List.getElem?_eq_none (by simpa using z)] at hu; cases hu
    refine wpAny_pyNext_enum_itemD (Draws.tuple (A := X.A.in1) (show X.A.in1.handled = none from I.ok.hd hc) it a hai its.toArray) he ⟨hit, p⟩ hii hne (by simp [hne, hae]) fun y h' tk hy ho hit' hT hsz hk => ?_
    have hyu : y = u := by
      have : its.toArray[i]? = some u := by simpa using hu
      rw [this] at hy
      exact (Option.some.inj hy).symm
    subst hyu
    refine ⟨_, rfl, wpAny_letOwnedTupleGo_enum (s := { s with heap := h', toks := tk + 1 }) ho fun h'' he' sb => ?_⟩
    have hT2 : h''.get? s.heap.objs.size = some { cls := .type "tuple", data := .seq #[.int i tk, y] } := (sb.2 _ (Nat.ne_of_gt hel)).trans hT
    have new : ObjOk X.prog X.w (upd H s.heap.objs.size (.tup [.int (i : Nat), x])) h'' s.heap.objs.size (.tup [.int (i : Nat), x]) :=
      ⟨by show 2 ≤ sizeLine; decide, [.int i tk, y], .cons ⟨_, rfl⟩ (.cons ru .nil), ⟨_, hT2, rfl, _, rfl⟩⟩
    have I1 : Inv X pins σ (upd H s.heap.objs.size (.tup [.int (i : Nat), x])) { s with heap := h'', toks := tk + 1 } :=
      I.turnedNew (ch := [e, it]) (fun b ob hb q => (sb.2 b (fun z => hb (by simp [z]))).trans (hk b ob (fun z => hb (by simp [z])) (fun z => hb (by simp [z])) q)) hf (Nat.le_refl _) new
    refine ⟨.ref s.heap.objs.size, _, I1, rfl, ⟨_, x, rfl, I.hok.fresh (Nat.le_refl _), rfl, fun ys hy => by rw [I.tuple_inj hy hq]; exact hx⟩, ⟨⟨y, ?_⟩, hit'.1.at fun o q => (sb.2 it (Ne.symm hne)).trans q, hne⟩, fun b hb => ?_⟩
    · have e1 : ((i + 1 : Nat) : Int) = (i : Int) + 1 := by omega
      rw [e1]; exact he'
    · have hb' : b < s.heap.objs.size := by
        have e' : b = e ∨ b = it := by simpa using hb
        rcases e' with z | z
        · rw [z]; exact hel
        · rw [z]; exact hil
      rw [upd_ne (Nat.ne_of_lt hb')]
      exact (hf b hb).1
  done := by
    intro X hP hw hK hc i pins s σ H E I hf st hg
    subst hP hw hK
    obtain ⟨⟨old, he⟩, hit, hne⟩ := st
    obtain ⟨xs, hq, hx⟩ := hg
    obtain ⟨its, rv, p, hz⟩ := I.tuple hq
    obtain ⟨f0, f1, f2, f3, f4, f5⟩ := hf it (by simp)
    have hl := rv.length
    have hd : X.A.handled = none := I.ok.hd hc
    have hT : s.TypeIs (.ref e) "enumerate" := ⟨_, he, rfl⟩
    unfold pyNext
    refine wpAny_bind (wpAny_attempt (wpAny_callSpecial?_slot (name := Str.ofString "__next__") hT F.slot_enumerate_next
      (wpAny_call_entry F.slot_enumerate_next hT F.entry_enumerate_next ?_ (F.args_enumerate_next_1 _))))
    show wpAny _ _ (field (.ref e) 2 >>= _) _ _ _
    refine wpAny_bind (wpAny_field he rfl (x := .ref it) rfl ?_)
    refine wpAny_bind (RZ.nextOf_tuple_end hd hit p (by simp; omega) fun h' x he' hx' => ?_)
    obtain ⟨o, ho, hc⟩ := hx'
    refine wpAny_bind (wpAny_isInstance (T := "StopIteration") (b := true) ⟨o, ho, hc⟩ isSubtype_stop ?_)
    exact wpAny_pure ⟨rfl, I.turned (t' := s.toks) (fun b o hb q => he' b o hb q) f0 f1 f3 f4 f5⟩
  self := fun A i s Q E st h => let ⟨⟨_, he⟩, _⟩ := st; wpAny_pyIter_enum he h
set_option maxHeartbeats 1000000 in
theorem meets_enumerate_new1 {v : Value} {o : Obj} {H : Heap → Prop} (B : Begins v o H) :
    Meets (Builtin.«enumerate.__new__» ⟨[.type "enumerate", v], []⟩) (fun _ R s => H s.heap ∧
      R (.ok (.ret (.ref (s.heap.push o).objs.size))) { s with heap := (s.heap.push o).push { cls := .type "enumerate", data := .fields #[.none, .bool false, .ref s.heap.objs.size, rawInt 0, .none, .none] } }) :=
  .of_wp fun prog w A R s h => by
    obtain ⟨hp, g, d, tk, os⟩ := s; obtain ⟨h1, h⟩ := h
    have hsub := sub_enumerate
    have q1 : ∀ {A' : Around} {E : Value → Shared → Prop} {Q : Value → Shared → Prop}, Q (.ref hp.objs.size) ⟨hp.push o, g, d, tk, os⟩ → wpAny (model prog w) A' (pyIter v) Q E ⟨hp, g, d, tk, os⟩ :=
      fun q => B.iter prog w _ _ ⟨hp, g, d, tk, os⟩ _ h1 q
    wp_walk using q1
    refine wpAny_stack_any fun st => wpAny_pure ?_
    split
    · rename_i c _ _ _ _ _
      cases (c == Value.type "enumerate")
      · wp_walk using q1
        exact ⟨_, rfl, h⟩
      · wp_walk using q1
        exact ⟨_, rfl, h⟩
    · wp_walk using q1
      exact ⟨_, rfl, h⟩
theorem enum_begins1 {prog : Program} {w : World} {A : Around} {E : Value → Shared → Prop} {s : Shared} {v : Value} {o : Obj} {H : Heap → Prop} {Q : Value → Shared → Prop} (B : Begins v o H) (h1 : H s.heap)
    (h : ∀ h', IsEnum h' (s.heap.objs.size + 1) s.heap.objs.size 0 .none → h'.get? s.heap.objs.size = some o → h'.objs.size = s.heap.objs.size + 2 →
      (∀ b o, s.heap.get? b = some o → h'.get? b = some o) → Q (.ref (s.heap.objs.size + 1)) { s with heap := h' }) :
    wpAny (model prog w) A (call (.type "enumerate") [v]) Q E s := by
  refine callType_new F.called_enumerate (by decide) (F.typeCall_enumerate_1 _) (F.newCall_enumerate_1 _) (fun obj => F.args_object_init_2 obj _) F.entry_enumerate_new
    (meets_enumerate_new1 B) ⟨h1, ?_⟩
  have hz : (s.heap.push o).objs.size = s.heap.objs.size + 1 := Heap.size_push ..
  show _ ∧ _
  rw [hz]
  have he : IsEnum ((s.heap.push o).push { cls := .type "enumerate", data := .fields #[.none, .bool false, .ref s.heap.objs.size, rawInt 0, .none, .none] }) (s.heap.objs.size + 1) s.heap.objs.size 0 .none := by
    have := Heap.get?_push_size (s.heap.push o) (o := { cls := .type "enumerate", data := .fields #[.none, .bool false, .ref s.heap.objs.size, rawInt 0, .none, .none] }) rfl
    rw [hz] at this; exact this
  refine ⟨⟨_, he, rfl⟩, h _ he (Heap.get?_push_of_some _ (Heap.get?_push_size _ B.free)) (by rw [Heap.size_push, hz]) fun b o x => Heap.get?_push_of_some _ (Heap.get?_push_of_some _ x)⟩
def iEnumA (K : PySem.W.Frag) (ta : TA) : TI := fun σ H R => ta σ H fun vs H1 => ∃ a xs, vs = [.ref a] ∧ ((SqL K H1 a xs ∧ R (Ite K a) H1) ∨ (SqT K H1 a xs ∧ R (IteT K a) H1))
theorem pi_enumA {ta : TA} {tpos : Pos} {elts : List Expr} {kk : Nat} (hg : Gl X "enumerate") (hm : X.mg "enumerate" = none) (ha : PA X [e] ta) (hs : starEach [e] X.env = [(false, eval e X.env)] := by rfl) :
    PI X (.Tuple elts kk tpos) (.Call (.Name "enumerate" p) [e] [] pos) (iEnumA X.K ta) := by
  refine ⟨fun pins s σ H R I h => ?_⟩
  refine Call_ (ld_blt I hg hm boot_enumerate (PyProof.Rows.callWith_type1 (thn (ha.run pos pins s σ H _ I h) fun us s1 ⟨vs, H1, I1, r1, q1⟩ => ?_) hs rfl))
  obtain ⟨a, xs, ex, q1⟩ := q1
  subst ex
  cases r1 with
  | cons r rr =>
    cases rr
    cases r
    rcases q1 with ⟨hq, q⟩ | ⟨hq, q⟩
    · obtain ⟨its, rv, p', hz⟩ := I1.list hq
      refine call_enumerate_list p'.isList fun h' he hit hsz hk => wpAny_pyIter_enum he ?_
      have I2 : Inv X pins σ H1 { s1 with heap := h' } := I1.kept (t' := s1.toks) hk
      refine ⟨s1.heap.objs.size + 1, [s1.heap.objs.size + 1, s1.heap.objs.size], _, _, H1, rfl, I2, turn_enum a (s1.heap.objs.size + 1) s1.heap.objs.size, ⟨⟨.none, he⟩, hit, Nat.succ_ne_self _⟩, fun b hb => ?_, q⟩
      have e' : b = s1.heap.objs.size + 1 ∨ b = s1.heap.objs.size := by simpa using hb
      have hle : s1.heap.objs.size ≤ b := by
        rcases e' with z | z
        · rw [z]; exact Nat.le_add_right _ _
        · rw [z]; exact Nat.le_refl _
      exact I1.fpOk hle (I1.hok.fresh hle)
    · obtain ⟨its, rv, p', hz⟩ := I1.tuple hq
      have hal : a < s1.heap.objs.size := by obtain ⟨_, z, _⟩ := p'; exact Heap.lt_size z
      refine enum_begins1 (begins_tuple a its.toArray) p' fun h' he hit hsz hk => wpAny_pyIter_enum he ?_
      have I2 : Inv X pins σ H1 { s1 with heap := h' } := I1.kept (t' := s1.toks) hk
      refine ⟨s1.heap.objs.size + 1, [s1.heap.objs.size + 1, s1.heap.objs.size], _, _, H1, rfl, I2, turn_enumT a (s1.heap.objs.size + 1) s1.heap.objs.size (Nat.ne_of_lt hal) (Nat.ne_of_gt (Nat.lt_succ_of_lt hal)), ⟨⟨.none, he⟩, ⟨_, hit, rfl, rfl⟩, Nat.succ_ne_self _⟩, fun b hb => ?_, q⟩
      have e' : b = s1.heap.objs.size + 1 ∨ b = s1.heap.objs.size := by simpa using hb
      have hle : s1.heap.objs.size ≤ b := by
        rcases e' with z | z
        · rw [z]; exact Nat.le_add_right _ _
        · rw [z]; exact Nat.le_refl _
      exact I1.fpOk hle (I1.hok.fresh hle)
/-- 0, 1, .. beside the items -/
def enumD : Nat → List PyData → List PyData
  | _, [] => []
  | n, x :: xs => .tuple [.int (n : Nat), x] :: enumD (n + 1) xs
theorem enumD_length : ∀ (xs : List PyData) (n : Nat), (enumD n xs).length = xs.length
  | [], _ => rfl
  | _ :: xs, n => congrArg (· + 1) (enumD_length xs (n + 1))
theorem enumD_get : ∀ {xs : List PyData} {n i : Nat} {d : PyData}, (enumD n xs)[i]? = some d → ∃ x, xs[i]? = some x ∧ d = .tuple [.int ((n + i : Nat) : Int), x]
  | [], _, _, _, h => by simp [enumD] at h
  | x :: xs, n, 0, d, h => by simp [enumD] at h; exact ⟨x, rfl, h.symm⟩
  | x :: xs, n, i + 1, d, h => by
    obtain ⟨u, h1, h2⟩ := enumD_get (xs := xs) (n := n + 1) (i := i) (d := d) (by simpa [enumD] using h)
    exact ⟨u, by simpa using h1, by rw [h2, show n + 1 + i = n + (i + 1) by omega]⟩
def enumQ (ds : List PyData) (K : List PyData → Prop) : Prop := match ds with
  | [.list xs] => At (enumD 0 xs) K
  | [.tuple xs] => At (enumD 0 xs) K
  | _ => False
theorem q_enumL {xs : List PyData} {K : List PyData → Prop} : enumQ [.list xs] K = K (enumD 0 xs) := At.eq
theorem q_enumT {xs : List PyData} {K : List PyData → Prop} : enumQ [.tuple xs] K = K (enumD 0 xs) := At.eq
theorem walkD_enumL {F : Hp} {a : Addr} {us : List V} {xs : List PyData} (h1 : RdL K F a us) (h2 : DRs K F us xs) : WalkD K true F (Ite K a) (enumD 0 xs) := by
  refine ⟨fun H => SqL K H a us, fun i H v H' => ∃ T x, v = .ref T ∧ H T = none ∧ H' = upd H T (.tup [.int (i : Nat), x]) ∧ us[i]? = some x, ⟨fun i H hi q => ?_, fun H q => ?_, fun i H x H' hi q y => ?_⟩, fun H e => (h1.mono e).sq, fun i H x H' d _ e y => ?_⟩
  · rw [enumD_length, ← h2.length] at hi
    exact ⟨us, us[i]'hi, q, by simp [hi]⟩
  · exact ⟨us, q, by rw [enumD_length, ← h2.length]; exact Nat.le_refl _⟩
  · obtain ⟨T, u, z1, z2, z3, z4⟩ := y
    exact ⟨T, u, z1, z2, z3, z4 us q⟩
  · obtain ⟨T, u, z1, z2, z3, z4⟩ := y
    obtain ⟨dx, e1, rfl⟩ := enumD_get e
    obtain ⟨u', y1, y2⟩ := h2.get e1
    rw [z4] at y1
    cases y1
    refine .inr ⟨rfl, T, _, _, z1, z2, z3, rfl, .cons ?_ (.one y2)⟩
    rw [Nat.zero_add]
    exact .int _
theorem walkD_enumT {F : Hp} {a : Addr} {us : List V} {xs : List PyData} (h1 : SqT K F a us) (h2 : DRs K F us xs) : WalkD K true F (IteT K a) (enumD 0 xs) := by
  refine ⟨fun H => SqT K H a us, fun i H v H' => ∃ T x, v = .ref T ∧ H T = none ∧ H' = upd H T (.tup [.int (i : Nat), x]) ∧ us[i]? = some x, ⟨fun i H hi q => ?_, fun H q => ?_, fun i H x H' hi q y => ?_⟩, fun H e => Evl.ex_t e h1, fun i H x H' d _ e y => ?_⟩
  · rw [enumD_length, ← h2.length] at hi
    exact ⟨us, us[i]'hi, q, by simp [hi]⟩
  · exact ⟨us, q, by rw [enumD_length, ← h2.length]; exact Nat.le_refl _⟩
  · obtain ⟨T, u, z1, z2, z3, z4⟩ := y
    exact ⟨T, u, z1, z2, z3, z4 us q⟩
  · obtain ⟨T, u, z1, z2, z3, z4⟩ := y
    obtain ⟨dx, e1, rfl⟩ := enumD_get e
    obtain ⟨u', y1, y2⟩ := h2.get e1
    rw [z4] at y1
    cases y1
    refine .inr ⟨rfl, T, _, _, z1, z2, z3, rfl, .cons ?_ (.one y2)⟩
    rw [Nat.zero_add]
    exact .int _
theorem ienum {elts : List Expr} {kk : Nat} {tpos : Pos} (hm : X.mg "enumerate" = none) (ha : PA X [a] (liftA X.K Z was)) (hg : Gl X "enumerate" := by rfl) (hs : starEach [a] X.env = [(false, eval a X.env)] := by rfl) :
    PI X (.Tuple elts kk tpos) (.Call (.Name "enumerate" p) [a] [] pos) (liftI X.K Z true (dIt enumQ was)) :=
  PI.of (pi_enumA hg hm ha hs) fun σ H R ⟨g, F, env, P, k, w, q⟩ => ⟨g, F, env, _, k, w, fun ds env1 vs F1 H1 p e1 k1 r1 => by
    unfold enumQ at p
    split at p
    · obtain ⟨v, rfl, r2⟩ := r1.inv1
      obtain ⟨a, us, rfl, h1, h2⟩ := r2.inv_lst
      exact ⟨a, us, rfl, .inl ⟨(h1.mono k1.fh).sq, q _ env1 _ F1 H1 p.out e1 k1 (walkD_enumL h1 h2)⟩⟩
    · obtain ⟨v, rfl, r2⟩ := r1.inv1
      obtain ⟨a, us, rfl, h1, h2⟩ := r2.inv_tup
      exact ⟨a, us, rfl, .inr ⟨Evl.ex_t k1.fh h1, q _ env1 _ F1 H1 p.out e1 k1 (walkD_enumT h1 h2)⟩⟩
    · exact p.elim⟩
end
end DL

/-! The data layer, part 21: max and min of a list or tuple of whole numbers; in, not in. -/
namespace DL
variable {Z : Zx}
open PySem PySem.Spec PyProof.Rows L2
open Evl (Ex)
section
variable {X : Cx} {a b e : Expr} {es : List Expr} {pos p : Pos} {was : DA} {wa wb we : DE} {K : PySem.W.Frag}
theorem maxOf_int (x : Int) : ∀ xs : List Int, PySem.W.maxOf x xs ∈ x :: xs ∧ ∀ a ∈ x :: xs, a ≤ PySem.W.maxOf x xs := by
  intro xs
  unfold PySem.W.maxOf
  induction xs generalizing x with
  | nil => exact ⟨by simp, fun a h => by simp at h; subst h; exact Int.le_refl _⟩
  | cons y ys ih =>
    rw [List.foldl_cons]
    by_cases h : x < y
    · rw [if_pos (show PySem.W.DatumOrd.lt x y = true from decide_eq_true h)]
      obtain ⟨h1, h2⟩ := ih y
      refine ⟨List.mem_cons_of_mem _ h1, fun a ha => ?_⟩
      rcases List.mem_cons.mp ha with rfl | ha
      · have := h2 y (by simp)
        omega
      · exact h2 a ha
    · rw [if_neg (show ¬ PySem.W.DatumOrd.lt x y = true from fun z => h (of_decide_eq_true z))]
      obtain ⟨h1, h2⟩ := ih x
      refine ⟨?_, fun a ha => ?_⟩
      · rcases List.mem_cons.mp h1 with z | z
        · rw [z]; simp
        · exact List.mem_cons_of_mem _ (List.mem_cons_of_mem _ z)
      · rcases List.mem_cons.mp ha with rfl | ha
        · exact h2 _ (by simp)
        · rcases List.mem_cons.mp ha with rfl | ha
          · have := h2 x (by simp)
            omega
          · exact h2 a (List.mem_cons_of_mem _ ha)
theorem minOf_int (x : Int) : ∀ xs : List Int, PySem.W.minOf x xs ∈ x :: xs ∧ ∀ a ∈ x :: xs, PySem.W.minOf x xs ≤ a := by
  intro xs
  unfold PySem.W.minOf
  induction xs generalizing x with
  | nil => exact ⟨by simp, fun a h => by simp at h; subst h; exact Int.le_refl _⟩
  | cons y ys ih =>
    rw [List.foldl_cons]
    by_cases h : y < x
    · rw [if_pos (show PySem.W.DatumOrd.lt y x = true from decide_eq_true h)]
      obtain ⟨h1, h2⟩ := ih y
      refine ⟨List.mem_cons_of_mem _ h1, fun a ha => ?_⟩
      rcases List.mem_cons.mp ha with rfl | ha
      · have := h2 y (by simp)
        omega
      · exact h2 a ha
    · rw [if_neg (show ¬ PySem.W.DatumOrd.lt y x = true from fun z => h (of_decide_eq_true z))]
      obtain ⟨h1, h2⟩ := ih x
      refine ⟨?_, fun a ha => ?_⟩
      · rcases List.mem_cons.mp h1 with z | z
        · rw [z]; simp
        · exact List.mem_cons_of_mem _ (List.mem_cons_of_mem _ z)
      · rcases List.mem_cons.mp ha with rfl | ha
        · exact h2 _ (by simp)
        · rcases List.mem_cons.mp ha with rfl | ha
          · have := h2 x (by simp)
            omega
          · exact h2 a (List.mem_cons_of_mem _ ha)
theorem readsAll_ints {h : Heap} : ∀ {its : List Value} {ns : List Int}, Vals (ns.map V.int) its → ∃ as, PySem.ReadsAll h its (ns.map PySem.W.Datum.toD) as
  | its, [], r => by cases r; exact ⟨_, .nil⟩
  | its, n :: ns, r => by
    cases r with
    | cons r1 r2 =>
      obtain ⟨t, rfl⟩ := r1
      obtain ⟨as, q⟩ := readsAll_ints r2
      exact ⟨_, .cons (.int _ _) q⟩
def rMaxD (K : PySem.W.Frag) : List V → Hp → VK → Prop := fun vs H Q => ∃ (a : Addr) (ns : List Int), vs = [.ref a] ∧ (SqL K H a (ns.map V.int) ∨ SqT K H a (ns.map V.int)) ∧ 0 < ns.length ∧ ∀ m, m ∈ ns → (∀ a ∈ ns, a ≤ m) → Q (.int m) H
def rMinD (K : PySem.W.Frag) : List V → Hp → VK → Prop := fun vs H Q => ∃ (a : Addr) (ns : List Int), vs = [.ref a] ∧ (SqL K H a (ns.map V.int) ∨ SqT K H a (ns.map V.int)) ∧ 0 < ns.length ∧ ∀ m, m ∈ ns → (∀ a ∈ ns, m ≤ a) → Q (.int m) H
theorem call_maxD (hc : X.calm = true) (hu : X.A.units + 64 < cLine) : CallR X (.builtin "max") (rMaxD X.K) := by
  intro pins s σ H xs us Q I r h
  obtain ⟨a, ns, rfl, h | h, hn, q⟩ := h
  · exact cr_max hc pins s σ H _ us Q I r ⟨a, ns, rfl, h, hn, q⟩
  · cases r.ref1
    obtain ⟨its, rv, ht, hz⟩ := I.tuple h
    cases ns with
    | nil => simp at hn
    | cons n ns =>
      have ht2 : s.heap.IsTuple a its.toArray := ht
      refine PySem.W.max_tuple_datum (I.ok.hd hc) ht2 (x := n) (xs := ns) (readsAll_ints (ns := n :: ns) rv) (by show X.A.units + 1 + 0 < cLine; omega) fun i v h' tk hv hh hk => ?_
      obtain ⟨as, hh⟩ := hh
      have hh : PySem.Reads h' v (.int (PySem.W.maxOf n ns)) as := hh
      cases hh
      obtain ⟨h1, h2⟩ := maxOf_int n ns
      exact ⟨.int _, H, I.kept hk, ⟨_, rfl⟩, q _ h1 h2⟩
theorem call_minD (hc : X.calm = true) (hu : X.A.units + 64 < cLine) : CallR X (.builtin "min") (rMinD X.K) := by
  intro pins s σ H xs us Q I r h
  obtain ⟨a, ns, rfl, h | h, hn, q⟩ := h
  · exact cr_min hc pins s σ H _ us Q I r ⟨a, ns, rfl, h, hn, q⟩
  · cases r.ref1
    obtain ⟨its, rv, ht, hz⟩ := I.tuple h
    cases ns with
    | nil => simp at hn
    | cons n ns =>
      have ht2 : s.heap.IsTuple a its.toArray := ht
      refine PySem.W.min_tuple_datum (I.ok.hd hc) ht2 (x := n) (xs := ns) (readsAll_ints (ns := n :: ns) rv) (by show X.A.units + 1 + 0 < cLine; omega) fun i v h' tk hv hh hk => ?_
      obtain ⟨as, hh⟩ := hh
      have hh : PySem.Reads h' v (.int (PySem.W.minOf n ns)) as := hh
      cases hh
      obtain ⟨h1, h2⟩ := minOf_int n ns
      exact ⟨.int _, H, I.kept hk, ⟨_, rfl⟩, q _ h1 h2⟩
/-- what max tells of whole numbers -/
def maxQ (o : Option (List Int)) (P : PyData → Prop) : Prop := match o with
  | some ns => 0 < ns.length ∧ ∀ m, m ∈ ns → (∀ a ∈ ns, a ≤ m) → P (.int m)
  | none => False
def minQ (o : Option (List Int)) (P : PyData → Prop) : Prop := match o with
  | some ns => 0 < ns.length ∧ ∀ m, m ∈ ns → (∀ a ∈ ns, m ≤ a) → P (.int m)
  | none => False
def nMaxL (xs : List PyData) (P : PyData → Prop) : Prop := match xs with
  | [.list ds] => maxQ (intsD ds) P
  | [.tuple ds] => maxQ (intsD ds) P
  | _ => False
def nMinL (xs : List PyData) (P : PyData → Prop) : Prop := match xs with
  | [.list ds] => minQ (intsD ds) P
  | [.tuple ds] => minQ (intsD ds) P
  | _ => False
theorem dmaxL (hm : X.mg "max" = none) (hc : X.calm = true) (hu : X.A.units + 64 < cLine) (ha : PA X (e :: es) (liftA X.K Z was)) (hg : Gl X "max" := by rfl)
    (he : starEach (e :: es) X.env = (false, eval e X.env) :: starEach es X.env := by rfl) (hpl : (backTo pos (starEach es X.env)).any (·.1) = false := by rfl) : PE X (.Call (.Name "max" p) (e :: es) [] pos) (liftE X.K Z (dB nMaxL was)) :=
  dcb (call_maxD hc hu) (fun _ g F env σ H vs ds P Q k r f q => by
    unfold nMaxL at f
    split at f
    · obtain ⟨v, rfl, r0⟩ := r.inv1
      obtain ⟨a, us, rfl, h1, h2⟩ := r0.inv_lst
      unfold maxQ at f
      split at f
      · rename_i ns e
        cases ints_rel h2 e
        exact ⟨a, ns, rfl, .inl (h1.mono k.fh).sq, f.1, fun m z1 z2 => q _ _ F H (f.2 m z1 z2) (Ex.refl F) k (.int _)⟩
      · exact f.elim
    · obtain ⟨v, rfl, r0⟩ := r.inv1
      obtain ⟨a, us, rfl, h1, h2⟩ := r0.inv_tup
      unfold maxQ at f
      split at f
      · rename_i ns e
        cases ints_rel h2 e
        exact ⟨a, ns, rfl, .inr (Evl.ex_t k.fh h1), f.1, fun m z1 z2 => q _ _ F H (f.2 m z1 z2) (Ex.refl F) k (.int _)⟩
      · exact f.elim
    · exact f.elim) hm (by decide +kernel) ha hg (by decide) (by decide) he hpl
theorem dminL (hm : X.mg "min" = none) (hc : X.calm = true) (hu : X.A.units + 64 < cLine) (ha : PA X (e :: es) (liftA X.K Z was)) (hg : Gl X "min" := by rfl)
    (he : starEach (e :: es) X.env = (false, eval e X.env) :: starEach es X.env := by rfl) (hpl : (backTo pos (starEach es X.env)).any (·.1) = false := by rfl) : PE X (.Call (.Name "min" p) (e :: es) [] pos) (liftE X.K Z (dB nMinL was)) :=
  dcb (call_minD hc hu) (fun _ g F env σ H vs ds P Q k r f q => by
    unfold nMinL at f
    split at f
    · obtain ⟨v, rfl, r0⟩ := r.inv1
      obtain ⟨a, us, rfl, h1, h2⟩ := r0.inv_lst
      unfold minQ at f
      split at f
      · rename_i ns e
        cases ints_rel h2 e
        exact ⟨a, ns, rfl, .inl (h1.mono k.fh).sq, f.1, fun m z1 z2 => q _ _ F H (f.2 m z1 z2) (Ex.refl F) k (.int _)⟩
      · exact f.elim
    · obtain ⟨v, rfl, r0⟩ := r.inv1
      obtain ⟨a, us, rfl, h1, h2⟩ := r0.inv_tup
      unfold minQ at f
      split at f
      · rename_i ns e
        cases ints_rel h2 e
        exact ⟨a, ns, rfl, .inr (Evl.ex_t k.fh h1), f.1, fun m z1 z2 => q _ _ F H (f.2 m z1 z2) (Ex.refl F) k (.int _)⟩
      · exact f.elim
    · exact f.elim) hm (by decide +kernel) ha hg (by decide) (by decide) he hpl
/-! ### in, not in -/
@[irreducible] def memD (x : PyData) (ds : List PyData) : Bool := ds.any fun z => PyData.eqv z x
theorem memD_eq {x : PyData} {ds : List PyData} : memD x ds = ds.any fun z => eqD z x := by
  unfold memD eqD
  rfl
theorem memD_raw {x : PyData} {ds : List PyData} : memD x ds = ds.any fun z => PyData.eqv z x := by
  unfold memD
  rfl
/-- a text within a text -/
@[irreducible] def inStr (a z : Str) : Bool := !(Builtin.Str.occurrences z a 0 z.length 1).isEmpty
def rIn2 (K : PySem.W.Frag) (n : Bool) : R2 := fun x y H Q => (∃ d ds, Dp K H x d ∧ (Dp K H y (.list ds) ∨ Dp K H y (.tuple ds)) ∧ SeqAt.shaped d = true ∧ SeqAt.shaped (.list ds) = true ∧ Q (.bl (memD d ds != n)) H)
theorem op_in2 (hu : X.A.units + 65 < cLine) : OpR X (compareOp .In) (rIn2 X.K false) := by
  intro pins s σ H x y v u Q I rx ry h
  obtain ⟨d, ds, hd, he, sd, se, q⟩ := h
  obtain ⟨as, r1⟩ := Dp.reads I d x v hd rx
  rw [memD_raw, show ∀ b : Bool, (b != false) = b by decide] at q
  rcases he with he | he
  · obtain ⟨bs, r2⟩ := Dp.reads I (.list ds) y u he ry
    exact SeqAt.in_list_reads r2 r1 (SeqAt.canLay_of_shaped se) (SeqAt.canLay_of_shaped sd) (room_in_shaped sd hu) ⟨.bl _, H, I, rfl, q⟩
  · obtain ⟨bs, r2⟩ := Dp.reads I (.tuple ds) y u he ry
    exact SeqAt.in_tuple_reads r2 r1 (SeqAt.canLay_of_shaped se) (SeqAt.canLay_of_shaped sd) (room_in_shaped sd hu) ⟨.bl _, H, I, rfl, q⟩
theorem op_nin2 (hu : X.A.units + 65 < cLine) : OpR X (compareOp .NotIn) (rIn2 X.K true) := by
  intro pins s σ H x y v u Q I rx ry h
  obtain ⟨d, ds, hd, he, sd, se, q⟩ := h
  obtain ⟨as, r1⟩ := Dp.reads I d x v hd rx
  rw [memD_raw, show ∀ b : Bool, (b != true) = !b by decide] at q
  rcases he with he | he
  · obtain ⟨bs, r2⟩ := Dp.reads I (.list ds) y u he ry
    exact SeqAt.notIn_list_reads r2 r1 (SeqAt.canLay_of_shaped se) (SeqAt.canLay_of_shaped sd) (room_in_shaped sd hu) ⟨.bl _, H, I, rfl, q⟩
  · obtain ⟨bs, r2⟩ := Dp.reads I (.tuple ds) y u he ry
    exact SeqAt.notIn_tuple_reads r2 r1 (SeqAt.canLay_of_shaped se) (SeqAt.canLay_of_shaped sd) (room_in_shaped sd hu) ⟨.bl _, H, I, rfl, q⟩
def rInA (K : PySem.W.Frag) : R2 := fun x y H Q => rIn2 K false x y H Q ∨ ∃ i j, x = .str i ∧ y = .str j ∧ Q (.bl (!(Builtin.Str.occurrences j i 0 j.length 1).isEmpty)) H
def rNinA (K : PySem.W.Frag) : R2 := fun x y H Q => rIn2 K true x y H Q ∨ ∃ i j, x = .str i ∧ y = .str j ∧ Q (.bl (!(!(Builtin.Str.occurrences j i 0 j.length 1).isEmpty))) H
theorem op_inA (hu : X.A.units + 65 < cLine) : OpR X (compareOp .In) (rInA X.K) := OpR.or (op_in2 hu) op_in_str
theorem op_ninA (hu : X.A.units + 65 < cLine) : OpR X (compareOp .NotIn) (rNinA X.K) := OpR.or (op_nin2 hu) op_notIn_str
/-- may be looked for -/
def shp (x : PyData) (ds : List PyData) : Prop := SeqAt.shaped x = true ∧ SeqAt.shaped (.list ds) = true
def oMem (n : Bool) (x y : PyData) (P : PyData → Prop) : Prop := match y with
  | .list ds => shp x ds ∧ P (.bool (memD x ds != n))
  | .tuple ds => shp x ds ∧ P (.bool (memD x ds != n))
  | .str z => (match x with
    | .str a => P (.bool (inStr a z != n))
    | _ => False)
  | _ => False
def oIn (x y : PyData) (P : PyData → Prop) : Prop := oMem false x y P
def oNin (x y : PyData) (P : PyData → Prop) : Prop := oMem true x y P
theorem q_inL {x : PyData} {ds : List PyData} {P : PyData → Prop} : oIn x (.list ds) P = (shp x ds ∧ P (.bool (memD x ds != false))) := rfl
theorem q_inT {x : PyData} {ds : List PyData} {P : PyData → Prop} : oIn x (.tuple ds) P = (shp x ds ∧ P (.bool (memD x ds != false))) := rfl
theorem q_inS {a z : Str} {P : PyData → Prop} : oIn (.str a) (.str z) P = P (.bool (inStr a z != false)) := rfl
theorem q_ninL {x : PyData} {ds : List PyData} {P : PyData → Prop} : oNin x (.list ds) P = (shp x ds ∧ P (.bool (memD x ds != true))) := rfl
theorem q_ninT {x : PyData} {ds : List PyData} {P : PyData → Prop} : oNin x (.tuple ds) P = (shp x ds ∧ P (.bool (memD x ds != true))) := rfl
theorem q_ninS {a z : Str} {P : PyData → Prop} : oNin (.str a) (.str z) P = P (.bool (inStr a z != true)) := rfl
theorem mem_reads {g : Gx Z} {F : Hp} {env : List SD} {σ : L2.St} {H : Hp} (k : Ok K g F env σ H) {vx vy : V} {x : PyData} {ds : List PyData} {n : Bool} {Q : VK} (rx : DR K F vx x) (ry : DR K F vy (.list ds) ∨ DR K F vy (.tuple ds)) (h : shp x ds) (q : Q (.bl (memD x ds != n)) H) :
    rIn2 K n vx vy H Q := by
  refine ⟨x, ds, DR.dp (drH k rx) (dict_of_shaped h.1), ?_, h.1, h.2, q⟩
  have z : PyData.hasDictAll ds = false := by simpa [PyData.hasDict] using dict_of_shaped h.2
  rcases ry with ry | ry
  · exact .inl (DR.dp (drH k ry) (by simpa [PyData.hasDict] using z))
  · exact .inr (DR.dp (drH k ry) (by simpa [PyData.hasDict] using z))
theorem opd_in : OpD K (rInA K) oIn := by
  intro _ g F env σ H vx vy dx dy P Q k rx ry p q
  unfold oIn oMem at p
  split at p
  · exact .inl (mem_reads k rx (.inl ry) p.1 (q _ _ F H p.2 (Ex.refl F) k (.bl _)))
  · exact .inl (mem_reads k rx (.inr ry) p.1 (q _ _ F H p.2 (Ex.refl F) k (.bl _)))
  · split at p
    · rename_i a
      cases rx.inv_str
      cases ry.inv_str
      refine .inr ⟨_, _, rfl, rfl, q _ _ F H p (Ex.refl F) k ?_⟩
      unfold inStr
      rw [show ∀ b : Bool, (b != false) = b by decide]
      exact .bl _
    · exact p.elim
  · exact p.elim
theorem opd_nin : OpD K (rNinA K) oNin := by
  intro _ g F env σ H vx vy dx dy P Q k rx ry p q
  unfold oNin oMem at p
  split at p
  · exact .inl (mem_reads k rx (.inl ry) p.1 (q _ _ F H p.2 (Ex.refl F) k (.bl _)))
  · exact .inl (mem_reads k rx (.inr ry) p.1 (q _ _ F H p.2 (Ex.refl F) k (.bl _)))
  · split at p
    · rename_i a
      cases rx.inv_str
      cases ry.inv_str
      refine .inr ⟨_, _, rfl, rfl, q _ _ F H p (Ex.refl F) k ?_⟩
      unfold inStr
      rw [show ∀ b : Bool, (b != true) = !b by decide]
      exact .bl _
    · exact p.elim
  · exact p.elim
theorem _root_.L2.Room.u65 {k : Nat} {A : Around} (r : Room k A) : A.units + 65 < cLine := by have := r.un; omega
theorem din {k : Nat} (hr : Room k X.A) (ha : PE X a (liftE X.K Z wa)) (hb : PE X b (liftE X.K Z wb)) (hm : behindInMarks .In b = false := by rfl) : PE X (.Compare a [.In] [b] pos) (liftE X.K Z (dOp oIn wa wb)) := dcmp (op_inA hr.u65) opd_in ha hb hm
theorem dnin {k : Nat} (hr : Room k X.A) (ha : PE X a (liftE X.K Z wa)) (hb : PE X b (liftE X.K Z wb)) (hm : behindInMarks .NotIn b = false := by rfl) : PE X (.Compare a [.NotIn] [b] pos) (liftE X.K Z (dOp oNin wa wb)) := dcmp (op_ninA hr.u65) opd_nin ha hb hm
theorem tin {k : Nat} (hr : Room k X.A) (ha : PE X a (liftE X.K Z wa)) (hb : PE X b (liftE X.K Z wb)) (hm : behindInMarks .In b = false := by rfl) : PT X (.Compare a [.In] [b] pos) (liftT X.K Z (dTest (dOp oIn wa wb))) := dcmpT (op_inA hr.u65) opd_in ha hb hm
theorem tnin {k : Nat} (hr : Room k X.A) (ha : PE X a (liftE X.K Z wa)) (hb : PE X b (liftE X.K Z wb)) (hm : behindInMarks .NotIn b = false := by rfl) : PT X (.Compare a [.NotIn] [b] pos) (liftT X.K Z (dTest (dOp oNin wa wb))) := dcmpT (op_ninA hr.u65) opd_nin ha hb hm
end
end DL

/-! The data layer, part 22: small data, that can be shown. -/
namespace DL
variable {Z : Zx}
open PySem PySem.Spec PyProof.Rows L2
structure Sm (b k : Nat) (d : PyData) : Prop where
  rp : rp d = true
  bulk : d.bulk ≤ b
  depth : d.depth ≤ k
theorem Sm.mono {b k b' k' : Nat} {d : PyData} (h : Sm b k d) (hb : b ≤ b' := by omega) (hk : k ≤ k' := by omega) : Sm b' k' d := ⟨h.rp, Nat.le_trans h.bulk hb, Nat.le_trans h.depth hk⟩
theorem sm_all {b k : Nat} : ∀ {xs : List PyData}, (∀ x ∈ xs, Sm b k x) → rpAll xs = true ∧ PyData.bulkAll xs ≤ xs.length * (b + 1) ∧ PyData.depthAll xs ≤ k
  | [], _ => ⟨by simp [rpAll], by simp [PyData.bulkAll], by simp [PyData.depthAll]⟩
  | x :: xs, h => by
    obtain ⟨h1, h2, h3⟩ := sm_all (xs := xs) fun y hy => h y (List.mem_cons_of_mem _ hy)
    have hx := h x List.mem_cons_self
    refine ⟨?_, ?_, ?_⟩
    · rw [rpAll, hx.rp, h1]; rfl
    · rw [PyData.bulkAll, List.length_cons, Nat.add_mul]
      have := hx.bulk
      omega
    · rw [PyData.depthAll]
      have := hx.depth
      omega
theorem Sm.tup {n b k : Nat} {xs : List PyData} (hl : xs.length ≤ n) (h : ∀ x ∈ xs, Sm b k x) : Sm (n * (b + 1)) (k + 1) (.tuple xs) := by
  obtain ⟨h1, h2, h3⟩ := sm_all h
  refine ⟨by simpa only [DL.rp] using h1, ?_, ?_⟩
  · rw [PyData.bulk]
    exact Nat.le_trans h2 (Nat.mul_le_mul_right _ hl)
  · rw [PyData.depth]
    omega
theorem Sm.lst {n b k : Nat} {xs : List PyData} (hl : xs.length ≤ n) (h : ∀ x ∈ xs, Sm b k x) : Sm (n * (b + 1)) (k + 1) (.list xs) := by
  obtain ⟨h1, h2, h3⟩ := sm_all h
  refine ⟨by simpa only [DL.rp] using h1, ?_, ?_⟩
  · rw [PyData.bulk]
    exact Nat.le_trans h2 (Nat.mul_le_mul_right _ hl)
  · rw [PyData.depth]
    omega
theorem Sm.int {i : Int} (h : i.natAbs < 10 ^ 250) (b k : Nat) : Sm b k (.int i) := ⟨by simpa only [DL.rp, decide_eq_true_eq] using h, by rw [PyData.bulk]; omega, by rw [PyData.depth]; omega⟩
theorem Sm.int' {i : Int} {b k : Nat} (h0 : -(10 ^ 100) ≤ i) (h1 : i ≤ 10 ^ 100) : Sm b k (.int i) := Sm.int (lt_of h0 h1) b k
theorem Sm.bool {t : Bool} (b k : Nat) : Sm b k (.bool t) := ⟨rfl, by rw [PyData.bulk]; omega, by rw [PyData.depth]; omega⟩
theorem Sm.none (b k : Nat) : Sm b k .none := ⟨rfl, by rw [PyData.bulk]; omega, by rw [PyData.depth]; omega⟩
theorem Sm.dict0 (b k : Nat) : Sm b (k + 1) (.dict []) := ⟨rfl, by rw [PyData.bulk, PyData.bulkKv]; omega, by rw [PyData.depth, PyData.depthKv]; omega⟩
theorem rp_mem : ∀ {xs : List PyData}, rpAll xs = true → ∀ x ∈ xs, rp x = true
  | [], _, x, h => by simp at h
  | y :: ys, e, x, h => by
    simp only [rpAll, Bool.and_eq_true] at e
    rcases List.mem_cons.mp h with rfl | h
    · exact e.1
    · exact rp_mem e.2 x h
theorem bulk_mem : ∀ {xs : List PyData}, ∀ x ∈ xs, x.bulk ≤ PyData.bulkAll xs ∧ x.depth ≤ PyData.depthAll xs
  | [], x, h => by simp at h
  | y :: ys, x, h => by
    rw [PyData.bulkAll, PyData.depthAll]
    rcases List.mem_cons.mp h with rfl | h
    · omega
    · have := bulk_mem x h
      omega
/-- items of small data -/
theorem Sm.inT {b k : Nat} {xs : List PyData} (h : Sm b k (.tuple xs)) : ∀ x ∈ xs, Sm b k x := fun x hx => by
  have h1 := h.rp
  have h2 := h.bulk
  have h3 := h.depth
  rw [PyData.bulk] at h2
  rw [PyData.depth] at h3
  obtain ⟨z1, z2⟩ := bulk_mem x hx
  exact ⟨rp_mem (by simpa only [DL.rp] using h1) x hx, by omega, by omega⟩
theorem Sm.inL {b k : Nat} {xs : List PyData} (h : Sm b k (.list xs)) : ∀ x ∈ xs, Sm b k x := fun x hx => by
  have h1 := h.rp
  have h2 := h.bulk
  have h3 := h.depth
  rw [PyData.bulk] at h2
  rw [PyData.depth] at h3
  obtain ⟨z1, z2⟩ := bulk_mem x hx
  exact ⟨rp_mem (by simpa only [DL.rp] using h1) x hx, by omega, by omega⟩
theorem cut_mem {xs : List PyData} {lo hi : Option Int} {x : PyData} (h : x ∈ DL.cutD xs lo hi) : x ∈ xs := by
  unfold DL.cutD at h
  exact List.mem_of_mem_drop (List.mem_of_mem_take h)
/-- repr of small data -/
theorem repr_q {d : PyData} (h : Sm 50000 40 d) {K : PyData → Prop} (hK : K (.str d.shown)) : nRepr [d] K := ⟨⟨h.rp, h.bulk, h.depth⟩, hK⟩
theorem short_of {d : PyData} {b k : Nat} (h : Sm b k d) (hb : b ≤ 100000) : ∀ xs, d = .tuple xs → xs.length ≤ 100000 := fun xs e => by
  subst e
  have h2 := h.bulk
  rw [PyData.bulk] at h2
  have : ∀ ys : List PyData, ys.length ≤ PyData.bulkAll ys := fun ys => by
    induction ys with
    | nil => simp
    | cons y ys ih => rw [PyData.bulkAll, List.length_cons]; omega
  have := this xs
  omega
end DL

/-! The data layer, part 23: rows that a def made and still changes: found[i][j] = v. -/
namespace DL
variable {Z : Zx}
open PySem PySem.Spec PyProof.Rows L2
open Evl (Ex)

/-- a list that a def made and may still change -/
abbrev rowD (ds : List PyData) : PyData := .dict [(.none, .list ds)]
mutual
/-- no list in it -/
def lf : PyData → Bool
  | .none => true
  | .bool _ => true
  | .int _ => true
  | .str _ => true
  | .list _ => false
  | .tuple ds => lfs ds
  | .dict [] => true
  | .dict (_ :: _) => false
def lfs : List PyData → Bool
  | [] => true
  | d :: ds => lf d && lfs ds
end
section
variable {K : PySem.W.Frag} {F H : Hp} {b : Addr} {us us' : List V}
theorem keep_upd {F : Hp} {b a : Addr} {us us' : List V} {o : HO} (hb : F b = some (.lst us)) (ho : F a = some o) (n : ∀ xs, o ≠ .lst xs) : upd F b (.lst us') a = some o := by
  have ne : a ≠ b := fun z => by
    subst z
    rw [hb] at ho
    cases ho
    exact n _ rfl
  rw [upd_ne ne]
  exact ho
mutual
theorem DR.chg (hb : F b = some (.lst us)) : ∀ {d : PyData} {v : V}, lf d = true → DR K F v d → DR K (upd F b (.lst us')) v d
  | .none, _, _, .non => .non
  | .bool _, _, _, .bl b => .bl b
  | .int _, _, _, .int i => .int i
  | .str _, _, _, .str x => .str x
  | .list _, _, h, _ => by simp [lf] at h
  | .tuple ds, _, h, .tup s r => .tup (by
      rcases s with ⟨o, s, p⟩ | s
      · exact .inl ⟨o, keep_upd hb s (fun _ z => by cases z), p⟩
      · exact .inr s) (DRs.chg hb (by simpa only [lf] using h) r)
  | .dict [], _, _, .dct s => .dct (keep_upd hb s fun _ z => by cases z)
  | .dict (_ :: _), _, h, _ => by simp [lf] at h
theorem DRs.chg (hb : F b = some (.lst us)) : ∀ {ds : List PyData} {vs : List V}, lfs ds = true → DRs K F vs ds → DRs K (upd F b (.lst us')) vs ds
  | [], _, _, .nil => .nil
  | d :: ds, _, h, .cons x y => .cons (DR.chg hb (by simp only [lfs, Bool.and_eq_true] at h; exact h.1) x) (DRs.chg hb (by simp only [lfs, Bool.and_eq_true] at h; exact h.2) y)
end
/-- rows with no list in them -/
def rowB : PyData → Bool
  | .dict [(.none, .list ds)] => lfs ds
  | d => lf d
theorem rows_chg {ds' : List PyData} (hb : F b = some (.lst us)) (r' : DRs K (upd F b (.lst us')) us' ds') : ∀ {vs : List V} {xs : List PyData}, DRs K F vs xs → xs.all rowB = true →
    ∃ xs', xs'.length = xs.length ∧ (∀ d ∈ xs', d ∈ xs ∨ d = rowD ds') ∧ DRs K (upd F b (.lst us')) vs xs'
  | _, _, .nil, _ => ⟨[], rfl, fun d hd => by simp at hd, .nil⟩
  | v :: vs, d :: xs, .cons x y, h => by
    simp only [List.all_cons, Bool.and_eq_true] at h
    obtain ⟨ys, l, m, q⟩ := rows_chg hb r' y h.2
    have go : ∀ e : PyData, (e = d ∨ e = rowD ds') → DR K (upd F b (.lst us')) v e → ∃ xs', xs'.length = (d :: xs).length ∧ (∀ d' ∈ xs', d' ∈ d :: xs ∨ d' = rowD ds') ∧ DRs K (upd F b (.lst us')) (v :: vs) xs' := fun e he r => by
      refine ⟨e :: ys, by simp [l], fun d' hd => ?_, .cons r q⟩
      rcases List.mem_cons.mp hd with rfl | hd
      · rcases he with rfl | rfl
        · exact .inl (List.mem_cons_self ..)
        · exact .inr rfl
      · exact (m d' hd).imp (List.mem_cons_of_mem _) id
    by_cases hl : lf d = true
    · exact go d (.inl rfl) (DR.chg hb hl x)
    · have h1 := h.1
      unfold rowB at h1
      split at h1
      · rename_i ds
        cases x with
        | row s r =>
          rename_i a u0
          by_cases e : a = b
          · subst e
            exact go _ (.inr rfl) (.row upd_same r')
          · exact go _ (.inl rfl) (.row (by rw [upd_ne e]; exact s) (DRs.chg hb h1 r))
      · exact absurd h1 hl
/-- no list but in the cell at i -/
def lfE : List SD → Bool
  | [] => true
  | .un :: r => lfE r
  | .dat d :: r => lf d && lfE r
  | .cel _ xs :: r => lfs xs && lfE r
  | .dic _ :: _ => false
def lfX : List SD → Nat → Bool
  | [], _ => true
  | _ :: r, 0 => lfE r
  | .un :: r, i + 1 => lfX r i
  | .dat d :: r, i + 1 => lf d && lfX r i
  | .cel _ xs :: r, i + 1 => lfs xs && lfX r i
  | .dic _ :: _, _ + 1 => false
theorem lfE_get : ∀ {env : List SD} {j : Nat} {s : SD}, lfE env = true → env[j]? = some s → match s with | .un => True | .dat d => lf d = true | .cel _ xs => lfs xs = true | .dic _ => False
  | [], j, s, _, e => by simp at e
  | .un :: r, 0, s, h, e => by simp at e; subst e; trivial
  | .dat d :: r, 0, s, h, e => by simp only [lfE, Bool.and_eq_true] at h; simp at e; subst e; exact h.1
  | .cel p xs :: r, 0, s, h, e => by simp only [lfE, Bool.and_eq_true] at h; simp at e; subst e; exact h.1
  | .dic _ :: r, _, s, h, e => by simp [lfE] at h
  | .un :: r, j + 1, s, h, e => lfE_get (env := r) (j := j) h (by simpa using e)
  | .dat d :: r, j + 1, s, h, e => by simp only [lfE, Bool.and_eq_true] at h; exact lfE_get (env := r) (j := j) h.2 (by simpa using e)
  | .cel p xs :: r, j + 1, s, h, e => by simp only [lfE, Bool.and_eq_true] at h; exact lfE_get (env := r) (j := j) h.2 (by simpa using e)
theorem lfX_get : ∀ {env : List SD} {i j : Nat} {s : SD}, lfX env i = true → i ≠ j → env[j]? = some s → match s with | .un => True | .dat d => lf d = true | .cel _ xs => lfs xs = true | .dic _ => False
  | [], i, j, s, _, _, e => by simp at e
  | x :: r, 0, 0, s, _, n, _ => absurd rfl n
  | x :: r, 0, j + 1, s, h, n, e => lfE_get (env := r) (j := j) h (by simpa using e)
  | .un :: r, i + 1, 0, s, h, n, e => by simp at e; subst e; trivial
  | .dat d :: r, i + 1, 0, s, h, n, e => by simp only [lfX, Bool.and_eq_true] at h; simp at e; subst e; exact h.1
  | .cel p xs :: r, i + 1, 0, s, h, n, e => by simp only [lfX, Bool.and_eq_true] at h; simp at e; subst e; exact h.1
  | .dic _ :: r, i + 1, _, s, h, n, e => by simp [lfX] at h
  | .un :: r, i + 1, j + 1, s, h, n, e => lfX_get (env := r) (i := i) (j := j) h (by omega) (by simpa using e)
  | .dat d :: r, i + 1, j + 1, s, h, n, e => by simp only [lfX, Bool.and_eq_true] at h; exact lfX_get (env := r) (i := i) (j := j) h.2 (by omega) (by simpa using e)
  | .cel p xs :: r, i + 1, j + 1, s, h, n, e => by simp only [lfX, Bool.and_eq_true] at h; exact lfX_get (env := r) (i := i) (j := j) h.2 (by omega) (by simpa using e)
theorem Ok.nest {g : Gx Z} {env : List SD} {σ : L2.St} (k : Ok K g F env σ H) (h0 : ∀ a, g.F0 a = none) {i : Nat} {xs ds' : List PyData} (he : env[i]? = some (.cel false xs)) (hl : lfX env i = true) (hr : xs.all rowB = true)
    (hb : F b = some (.lst us)) (r' : DRs K (upd F b (.lst us')) us' ds') : ∃ xs', xs'.length = xs.length ∧ (∀ d ∈ xs', d ∈ xs ∨ d = rowD ds') ∧ Ok K g (upd F b (.lst us')) (env.set i (.cel false xs')) σ (upd H b (.lst us')) := by
  obtain ⟨a, vs, h1, h2, h3, h4, h5, h6⟩ := k.cel i false xs he
  obtain ⟨xs', l, m, r⟩ := rows_chg (us' := us') hb r' h4 hr
  have hb0 : g.H0 b = none := (k.newF b _ hb).elim (fun z => by rw [h0 b] at z; cases z) id
  have nb : ∀ {c : Addr}, F c = none → c ≠ b := fun {c} z e => by rw [e, hb] at z; cases z
  refine ⟨xs', l, m, by simp [k.len], fun c u q => ?_, fun j e hj => ?_, fun j q ys hj => ?_, fun j l q r us ws c z1 z2 z3 z4 => ?_, fun j c e => ?_, fun c o e n => ?_, fun c u q => ?_, fun c u q => ?_, fun c u e => ?_, fun j kvs e => ?_⟩
  · by_cases z : c = b
    · subst z
      rw [upd_same] at q ⊢
      exact q
    · rw [upd_ne z] at q ⊢
      exact k.fh c u q
  · rcases get_set hj with ⟨_, q⟩ | ⟨n, q⟩
    · cases q
    · obtain ⟨v, z1, z2⟩ := k.dat j e q
      exact ⟨v, z1, DR.chg hb (lfX_get hl n q) z2⟩
  · rcases get_set hj with ⟨rfl, q⟩ | ⟨n, q⟩
    · cases q
      exact ⟨a, vs, h1, by rw [upd_ne (nb h2)]; exact h2, by rw [upd_ne (nb h2)]; exact h3, r, h5, h6⟩
    · obtain ⟨c, ws, z1, z2, z3, z4, z5⟩ := k.cel j _ ys q
      exact ⟨c, ws, z1, by rw [upd_ne (nb z2)]; exact z2, by rw [upd_ne (nb z2)]; exact z3, DRs.chg hb (lfX_get hl n q) z4, z5⟩
  · have f : ∀ {j : Nat} {q : Bool} {us : List PyData}, (env.set i (SD.cel false xs'))[j]? = some (.cel q us) → ∃ q' us', env[j]? = some (.cel q' us') := fun {j q us} z => by
      rcases get_set z with ⟨rfl, _⟩ | ⟨_, z⟩
      · exact ⟨_, _, he⟩
      · exact ⟨_, _, z⟩
    obtain ⟨_, _, f1⟩ := f z1
    obtain ⟨_, _, f2⟩ := f z2
    exact k.sep j l _ _ _ _ c f1 f2 z3 z4
  · obtain ⟨us, q⟩ := k.pin j c e
    have n : i ≠ j := fun z => by subst z; rw [he] at q; cases q
    exact ⟨us, by rw [set_ne n]; exact q⟩
  · have ne : c ≠ b := fun z => by rw [z, hb0] at e; cases e
    rw [upd_ne ne]
    exact k.frame c o e n
  · by_cases z : c = b
    · subst z
      exact .inr hb0
    · rw [upd_ne z] at q
      exact k.newF c u q
  · rw [h0 c] at q
    cases q
  · obtain ⟨z1, z2, z3⟩ := k.prot c u e
    refine ⟨by rw [upd_ne (nb z2)]; exact z1, by rw [upd_ne (nb z2)]; exact z2, fun j q us hj => ?_⟩
    rcases get_set hj with ⟨rfl, _⟩ | ⟨_, z⟩
    · exact z3 _ _ xs he
    · exact z3 j q us z
  · rcases get_set e with ⟨_, q⟩ | ⟨n, q⟩
    · cases q
    · exact (lfX_get hl n q).elim
end
section
variable {X : Cx} {e b b2 : Expr} {we wb wb2 : DE} {wx : DX} {m : Nat} {pos : Pos}
/-- a new list as a row -/
def dRow (w : DX) (env : List SD) (P : PyData → List SD → Prop) : Prop := w env fun r env' => match r with
  | .cel _ xs => P (rowD xs) env'
  | _ => False
theorem drow (h : PE X e (liftX X.K Z wx)) : PE X e (liftE X.K Z (dRow wx)) := PE.of h fun σ H Q h => by
  obtain ⟨g, F, env, P, k, w, q⟩ := h
  refine ⟨g, F, env, _, k, w, fun r env1 v F1 H1 p e1 k1 r1 => ?_⟩
  cases r with
  | un => exact p.elim
  | dic _ => exact p.elim
  | dat d => exact p.elim
  | cel b xs =>
    obtain ⟨F2, e2, k2, _, r2⟩ := k1.freezeR r1
    exact q _ env1 v F2 H1 p (e1.trans e2) k2 r2
/-- x[i][j] = e, x the name's own cell of rows that the def made: the row's other names see it, too -/
def neQ (xs : List PyData) (r y d : PyData) (K : List PyData → Prop) : Prop := match r with
  | .dict [(.none, .list ds)] => bIf (xs.all rowB && lfs ds && lf d) (stQ ds y d fun ds' => ∀ xs', xs'.length = xs.length → (∀ z ∈ xs', z ∈ xs ∨ z = rowD ds') → K xs') False
  | _ => False
def dSetN (i : Nat) (wi wj we : DE) (E : DEnds) (env : List SD) : Prop := we env fun d env1 => dIxC i wi env1 fun r env2 => wj env2 fun y env3 => match env3[i]? with
  | some (.cel false xs) => bIf (E.nol && lfX env3 i) (neQ xs r y d fun xs' => E.nx (env3.set i (.cel false xs'))) False
  | _ => False
theorem neQ_inv {xs : List PyData} {r y d : PyData} {K : List PyData → Prop} (h : neQ xs r y d K) : ∃ ds n j, r = rowD ds ∧ y = .int n ∧ ixN ds.length n = some j ∧ xs.all rowB = true ∧ lfs ds = true ∧ lf d = true ∧
    ∀ xs', xs'.length = xs.length → (∀ z ∈ xs', z ∈ xs ∨ z = rowD (ds.set j d)) → K xs' := by
  unfold neQ at h
  split at h
  · rename_i ds
    obtain ⟨hc, h⟩ := bIf_and h
    simp only [Bool.and_eq_true] at hc
    cases y with
    | int n =>
      unfold stQ at h
      dsimp only at h
      split at h
      · rename_i j ej
        exact ⟨ds, n, j, rfl, rfl, ej, hc.1.1, hc.1.2, hc.2, h⟩
      · exact h.elim
    | _ => exact h.elim
  · exact h.elim
theorem lfs_set : ∀ {ds : List PyData} {j : Nat} {d : PyData}, lfs ds = true → lf d = true → lfs (ds.set j d) = true
  | [], _, _, h, _ => h
  | x :: ds, 0, d, h, hd => by simp only [lfs, Bool.and_eq_true, List.set] at h ⊢; exact ⟨hd, h.2⟩
  | x :: ds, j + 1, d, h, hd => by simp only [lfs, Bool.and_eq_true, List.set] at h ⊢; exact ⟨h.1, lfs_set h.2 hd⟩
theorem ssetN (i : Nat) {x : Str} {p0 p1 p2 : Pos} (he : PE X e (liftE X.K Z we)) (hi : PE X b (liftE X.K Z wb)) (hj : PE X b2 (liftE X.K Z wb2)) (hN : X.N[i]? = some x := by rfl) (hv : Vis X.env.scope x := by first | exact Or.inl rfl | exact Or.inr (Or.inl rfl) | exact Or.inr (Or.inr rfl)) (hd : (x == ("__debug__" : Str)) = false := by decide)
    (hcd : (x == ("__classdict__" : Str)) = false := by decide) (hpi : PlainIx b := by intro _ _; rfl)
    (hs : swapsWithSole [.Subscript (.Subscript (.Name x p0) b p1) b2 p2] e pos.line X.env = pure false := by rfl) (hw : swappedStores [.Subscript (.Subscript (.Name x p0) b p1) b2 p2] e X.env = pure none := by rfl)
    (h1 : (assignEach [.Subscript (.Subscript (.Name x p0) b p1) b2 p2] X.env).map (·.2) = [assign (.Subscript (.Subscript (.Name x p0) b p1) b2 p2) X.env] := by rfl)
    (ha : ∀ v, assign (.Subscript (.Subscript (.Name x p0) b p1) b2 p2) X.env v = (do
      let ov ← holding [v] (eval (.Subscript (.Name x p0) b p1) X.env)
      let iv ← holding [v, ov] (eval b2 X.env)
      standAt p2
      holding [v, ov, iv] (setItem ov iv v)
      release [v, ov, iv] []) := by intro _; rfl) : PS X (.Assign [.Subscript (.Subscript (.Name x p0) b p1) b2 p2] e pos) (liftS X.K Z m (dSetN i wb wb2 we)) :=
  PS.of (ps_asg he (pg_sub (dixC i hi hN hv hd hcd hpi) hj set_list ha) hs hw h1) fun D σ H ⟨g, F, env, P, k, w, q⟩ =>
  ⟨g, F, env, _, k, w, fun d env1 v F1 H1 p e1 k1 r1 => ⟨g, F1, env1, _, k1, p, fun r env2 v2 F2 H2 p2 e2 k2 r2 => ⟨g, F2, env2, _, k2, p2, fun y env3 v3 F3 H3 p3 e3 k3 r3 => by
    split at p3
    · rename_i xs ex
      obtain ⟨hb, p3⟩ := bIf_and p3
      rw [Bool.and_eq_true] at hb
      obtain ⟨ds, n, j, rfl, rfl, ej, c1, c2, c3, p3⟩ := neQ_inv p3
      cases r3.inv_int
      have r2 := r2.mono e3
      cases r2 with
      | row s rr =>
        rename_i a us
        have r4 : DRs X.K F3 (us.set j v) (ds.set j d) := rr.set j (r1.mono (e2.trans e3))
        have r5 := DRs.chg (us' := us.set j v) s (lfs_set c2 c3) r4
        obtain ⟨xs', l, mm, k4⟩ := k3.nest (q.free hb.1).1 ex hb.2 c1 s r5
        exact ⟨a, us, n, j, rfl, rfl, k3.fh _ _ s, by rw [rr.length]; exact ej, ((q.free hb.1).2 _).nx _ σ _ _ (p3 xs' l mm) (Ex.refl _) k4⟩
    · exact p3.elim⟩⟩⟩
end
/-! ### a def that is handed no list -/
section
variable {K : PySem.W.Frag} {F H : Hp} {vs : List V} {as : List SD}
def atB : PyData → Bool
  | .none => true
  | .bool _ => true
  | .int _ => true
  | .str _ => true
  | _ => false
def atoms : List SD → Bool
  | [] => true
  | .un :: r => atoms r
  | .dat d :: r => atB d && atoms r
  | .cel _ xs :: r => xs.all atB && atoms r
  | .dic _ :: _ => false
theorem atoms_get : ∀ {env : List SD} {j : Nat} {s : SD}, atoms env = true → env[j]? = some s → match s with | .un => True | .dat d => atB d = true | .cel _ xs => xs.all atB = true | .dic _ => False
  | [], j, s, _, e => by simp at e
  | .un :: r, 0, s, h, e => by simp at e; subst e; trivial
  | .dat d :: r, 0, s, h, e => by simp only [atoms, Bool.and_eq_true] at h; simp at e; subst e; exact h.1
  | .cel p xs :: r, 0, s, h, e => by simp only [atoms, Bool.and_eq_true] at h; simp at e; subst e; exact h.1
  | .dic _ :: r, _, s, h, e => by simp [atoms] at h
  | .un :: r, j + 1, s, h, e => atoms_get (env := r) (j := j) h (by simpa using e)
  | .dat d :: r, j + 1, s, h, e => by simp only [atoms, Bool.and_eq_true] at h; exact atoms_get (env := r) (j := j) h.2 (by simpa using e)
  | .cel p xs :: r, j + 1, s, h, e => by simp only [atoms, Bool.and_eq_true] at h; exact atoms_get (env := r) (j := j) h.2 (by simpa using e)
theorem at_any {F' : Hp} {v : V} {d : PyData} (h : atB d = true) (r : DR K F v d) : DR K F' v d := by
  cases r with
  | non => exact .non
  | bl b => exact .bl b
  | int i => exact .int i
  | str x => exact .str x
  | lst _ _ => cases h
  | tup _ _ => cases h
  | dct _ => cases h
  | row _ _ => cases h
  | exc _ _ => cases h
theorem ats_any {F' : Hp} : ∀ {vs : List V} {ds : List PyData}, ds.all atB = true → DRs K F vs ds → DRs K F' vs ds
  | _, _, _, .nil => .nil
  | _, _, h, .cons x y => by
    simp only [List.all_cons, Bool.and_eq_true] at h
    exact .cons (at_any h.1 x) (ats_any h.2 y)
abbrev noH : Hp := fun _ => none
theorem ArgsOk.bare (ha : ArgsOk K F H vs as) (h : atoms as = true) : ArgsOk K noH H vs as where
  len := ha.len
  fh := fun a o e => by cases e
  dat := fun i d e => by
    obtain ⟨v, h1, h2⟩ := ha.dat i d e
    exact ⟨v, h1, at_any (atoms_get h e) h2⟩
  cel := fun i p xs e => by
    obtain ⟨rfl, a, us, h1, h2, h3, h4⟩ := ha.cel i p xs e
    exact ⟨rfl, a, us, h1, rfl, h3, ats_any (atoms_get h e) h4⟩
  sep := ha.sep
  nod := ha.nod
/-- both -/
def joinH (F F' : Hp) : Hp := fun a => match F' a with
  | some o => some o
  | none => F a
theorem PostOk.back {F' H' : Hp} {as' : List SD} {v : V} {r : SD} (ha : ArgsOk K F H vs as) (p : PostOk K noH H vs as F' H' as' v r) : PostOk K F H vs as (joinH F F') H' as' v r := by
  have e1 : Ex F (joinH F F') := fun a o e => by
    unfold joinH
    split
    · rename_i u z
      rcases p.newF a u z with y | y
      · cases y
      · have := ha.fh a o e
        rw [y] at this
        cases this
    · exact e
  have e2 : Ex F' (joinH F F') := fun a o e => by
    unfold joinH
    rw [e]
  have nn : ∀ {a : Addr}, F a = none → F' a = none → joinH F F' a = none := fun {a} h1 h2 => by
    unfold joinH
    rw [h2]
    exact h1
  have fr : ∀ (a : Addr) (o : HO), F a = some o → F' a = none → H' a = some o := fun a o e n => p.frame a o (ha.fh a o e) fun i q xs z y => by
    obtain ⟨_, b, us, y1, y2, _⟩ := ha.cel i q xs z
    rw [y] at y1
    cases y1
    rw [e] at y2
    cases y2
  refine ⟨e1, fun a o e => ?_, fun a o e => ?_, p.frame, fun i q xs a z y => ?_, ?_⟩
  · unfold joinH at e
    split at e
    · rename_i u z
      cases e
      exact p.fh a _ z
    · exact fr a o e ‹_›
  · unfold joinH at e
    split at e
    · rename_i u z
      exact .inr ((p.newF a u z).elim (fun w => by cases w) id)
    · exact .inl e
  · obtain ⟨ys, us, c1, c2, c3, c4⟩ := p.cel i q xs a z y
    obtain ⟨_, b, us0, y1, y2, _⟩ := ha.cel i q xs z
    rw [y] at y1
    cases y1
    exact ⟨ys, us, c1, nn y2 c2, c3, c4.mono e2⟩
  · have := p.res
    cases r with
    | un => exact this
    | dat d => exact DR.mono e2 this
    | dic _ => exact this.elim
    | cel b xs =>
      obtain ⟨a, us, h1, h2, h3, h4, h5⟩ := this
      refine ⟨a, us, h1, nn ?_ h2, h3, h4.mono e2, h5⟩
      cases z : F a with
      | none => rfl
      | some o =>
        have := ha.fh a o z
        rw [h5] at this
        cases this
end
section
variable {P : Program} {w : World} {K : PySem.W.Frag} {mg : Str → Option Value} {base : Heap}
def defEndsN (m : Nat) (Q : SD → List SD → Prop) : DEnds := { nx := fun env => Q (.dat .none) (env.take m), rt := Q, nol := true }
theorem dfnN (m : Nat) {x qual : Str} {st : Stmt} {f : Addr} {fd : FuncData} {N ps : List Str} {k : Nat} {S : DSp} (Fn : Fun K x qual st f fd) (sc : FnScope N ps (defScope st)) (len : ∀ as Q, S as Q → as.length = ps.length) (cels : CelsIn m S)
    (hbody : ∀ {Z : Zx} (cdv : Value) (A : Around) (outer : List Env) (s : Shared) (H : Hp), Room k (A.deeper (envOfC qual (defScope st) s.heap.objs.size f cdv)) → (A.deeper (envOfC qual (defScope st) s.heap.objs.size f cdv)).guards = some [] →
      ∃ t : DS, PSs (cxOf CX0 P w K mg base N qual (defScope st) f cdv A outer s H E0).nox (defBody st) (liftS K Z m t) ∧
        ∀ as Q, S as Q → atoms as = true ∧ t (defEndsN m Q) (as ++ List.replicate (N.length - ps.length) .un)) : FnG P w K mg base (k + 1) f fd ps S := by
  obtain ⟨oc, od, kV, doc, pm, an, cdv, ct, osl, rfl, lk, hcd⟩ := Fn.ex
  refine ⟨len, fun A outer s H args us vs Q hr hg e0 hb rv ⟨F0, as, PP, ha, hS, hQ⟩ => ?_⟩
  have hl : vs.length = ps.length := ha.len.symm.trans (len as PP hS)
  have hpl : ps.length ≤ N.length := by
    have := congrArg List.length sc.pre
    rw [List.length_take] at this
    omega
  have KX : K.In s.heap := e0.mod.kin.keeps fun b o e => (e0.bs b o e).1
  refine codeAny_call_function hr.depth (KX _ _ lk) rfl sc.co sc.gen rfl (PySem.W.codeRec_of KX hcd) (hb _ _ _ _ (wpAny_newFunctionEnv_cells sc.kind (fun ⟨n, v⟩ hy => ?_) fun env he s1 x => ?_))
  · rcases sc.par n (List.of_mem_zip hy).1 with q | q
    · exact .inl q
    · exact .inr ⟨q, PySem.W.cellsFrom_some _ _ _ (.inl q)⟩
  · subst he
    obtain ⟨t, ht, hq⟩ := hbody (Z := entryZ P w noH H vs as) cdv A outer s H (hr.deeper _) hg
    have I : Inv (cxOf CX0 P w K mg base N qual (defScope st) f cdv A outer s H E0) [] (start N vs) H s1 := inv_start sc hr.hd e0 hl rv x
    refine ⟨(e0.mod.nolimit.keeps fun b o e => (e0.bs b o e).1).keeps x.toInCall.keep, codeAny_func (wpAny_mono (ht.nox.run [] s1 (start N vs) H { nx := fun _ H' => Q .non H', rt := Q } I ?_) (fun fl s' hs => ?_) fun e s' hs => hs)⟩
    · have al : as.length = ps.length := len as PP hS
      obtain ⟨hat, hq⟩ := hq as PP hS
      have hab := ha.bare hat
      have four : ∀ F2, Ends4 K m (entryG P w noH H vs as) F2 (defEndsN m PP) { nx := fun _ H' => Q .non H', rt := Q } := fun F2 =>
        .mk (fun env' σ' F' H' p _ k' => hQ _ _ _ _ _ p ((post_of (r := .dat .none) k' (cels _ _ hS) DR.non).back ha)) (fun _ _ _ _ p => p.elim) (fun _ _ _ _ p => p.elim) (fun r env' v σ' F' H' p _ k' r' => hQ _ _ _ _ _ p ((post_of k' (cels _ _ hS) r').back ha))
      exact ⟨entryG P w noH H vs as, noH, _, _, entry_ok hab al hpl, hq, four _, fun _ => ⟨fun _ => rfl, four⟩⟩
    · have fin : ∀ {σ' : L2.St} {H' : Hp} {v : V} {u : Value}, Inv (cxOf CX0 P w K mg base N qual (defScope st) f cdv A outer s H E0) [] σ' H' s' → RelV v u → Q v H' → CE outer P w H s Q u s' :=
        fun {σ' H' v u} J r q => ⟨v, H', J.os, J.bare, J.base, J.hok, r, q⟩
      match fl, hs with
      | .ret u, ⟨v, σ', H', J, r, q⟩ => exact fin J r q
      | .next, ⟨σ', H', J, q⟩ => exact fin (v := V.non) (u := Value.none) J rfl q
      | .brk, ⟨_, _, _, q⟩ => exact q.elim
      | .cont, ⟨_, _, _, q⟩ => exact q.elim
end
end DL

/-! The data layer, part 24: x.extend of a new list. -/
namespace DL
variable {Z : Zx}
open PySem PySem.Spec PyProof.Rows L2
open Evl (Ex)
section
variable {X : Cx} {e : Expr} {wx : DX} {m : Nat} {pos : Pos}
def exQ (xs ys : List PyData) (K : List PyData → Prop) : Prop := xs.length + ys.length ≤ 100000 ∧ K (xs ++ ys)
theorem q_ex {xs ys : List PyData} {K : List PyData → Prop} : exQ xs ys K = (xs.length + ys.length ≤ 100000 ∧ K (xs ++ ys)) := rfl
def dExt (i : Nat) (wx : DX) (E : DEnds) (env : List SD) : Prop := match env[i]? with
  | some (.cel _ _) => wx env fun r env1 => match r, env1[i]? with
    | .cel _ ys, some (.cel p xs) => exQ xs ys fun xs' => E.nx (env1.set i (.cel p xs'))
    | _, _ => False
  | _ => False
theorem sext (i : Nat) {x : Str} {p0 apos cpos : Pos} (he : PE X e (liftX X.K Z wx)) (hN : X.N[i]? = some x := by rfl) (hv : Vis X.env.scope x := by first | exact Or.inl rfl | exact Or.inr (Or.inl rfl) | exact Or.inr (Or.inr rfl)) (hd : (x == ("__debug__" : Str)) = false := by decide)
    (hcd : (x == ("__classdict__" : Str)) = false := by decide)
    (h1 : attributeBase (.Name x p0) "extend" X.env (eval (.Name x p0) X.env) = eval (.Name x p0) X.env := by rfl)
    (h2 : ((backTo cpos (starEach [e] X.env)).all (!·.1) && (backToKw cpos (keywordEach [] X.env)).all (·.1.isSome) && decide ([e].length + ([] : List Keyword).length + (if ([] : List Keyword).isEmpty then 0 else 1) < 30)) = true := by rfl)
    (h3 : (apos.endLine == cpos.line) = true := by rfl)
    (h4 : starEach [e] X.env = (false, eval e X.env) :: starEach [] X.env := by rfl) (h5 : (backTo cpos (starEach [] X.env)).any (·.1) = false := by rfl)
    (hs : swapsWith (.Call (.Attribute (.Name x p0) "extend" apos) [e] [] cpos) none pos.line X.env = pure false := by rfl) :
    PS X (.Expr (.Call (.Attribute (.Name x p0) "extend" apos) [e] [] cpos) pos) (liftS X.K Z m (dExt i wx)) :=
  PS.of (ps_expr (pe_bm PySem.F.plainAttrs_list PySem.F.slot_list_extend PySem.F.type_list_extend mt_extend (pe_var hN hv hd hcd) (pa_cons he pa_nil h4) h1 h2 h3 h4 h5) hs) fun D σ H ⟨g, F, env, P, k, w, q⟩ => by
    unfold dExt at w
    split at w
    · rename_i p' xs' ex
      obtain ⟨a0, us0, b1, _, b3, _⟩ := k.cel i p' xs' ex
      refine ⟨_, b1, .inl ⟨rfl, us0, SqL.of b3⟩, g, F, env, _, k, w, fun r env1 v F1 H1 p e1 k1 r1 => ?_⟩
      split at p
      · rename_i b2 ys p3 xs ex2
        obtain ⟨a1, us1, c1, c2, c3, c4, _⟩ := k1.cel i p3 xs ex2
        rw [b1] at c1
        cases c1
        obtain ⟨b, vs, rfl, hF, hH, r, h0, hpr, nw⟩ := r1
        exact ⟨a0, b, us1, vs, rfl, rfl, c3, hH, by rw [c4.length, r.length]; exact Evl.sz_of p.1, q.nx _ σ F1 _ p.2 e1 (k1.write ex2 b1 (c4.append r))⟩
      · exact p.elim
    · exact w.elim
end
end DL

/-! The data layer, part 25: more facts of the head (tuples of numbers at the module's top), pop, &. -/
namespace DL
variable {Z : Zx}
open PySem PySem.Spec PyProof.Rows L2
open Evl (Ex)
/-! ### more facts of the head -/
inductive Fx where
  | tup (x : Str) (ns : List Int)
  | exc (c : Str)
  | txt (x z : Str)
def intsB : List Value → List Int → Bool
  | [], [] => true
  | .int i _ :: r, n :: ns => decide (i = n) && intsB r ns
  | _, _ => false
theorem intsB_ok : ∀ {us : List Value} {ns : List Int}, intsB us ns = true → Vals (ns.map V.int) us
  | [], [], _ => .nil
  | .int i t :: r, n :: ns, h => by
    obtain ⟨h1, h2⟩ := He.ba (show (decide (i = n) && intsB r ns) = true from h)
    have e : i = n := of_decide_eq_true h1
    subst e
    exact .cons ⟨t, rfl⟩ (intsB_ok h2)
  | [], _ :: _, h => by cases h
  | .int _ _ :: _, [], h => by cases h
  | .none :: _, ns, h => by cases ns <;> cases h
  | .ellipsis :: _, ns, h => by cases ns <;> cases h
  | .notImplemented :: _, ns, h => by cases ns <;> cases h
  | .bool _ :: _, ns, h => by cases ns <;> cases h
  | .float _ _ :: _, ns, h => by cases ns <;> cases h
  | .str _ _ :: _, ns, h => by cases ns <;> cases h
  | .bytes _ _ :: _, ns, h => by cases ns <;> cases h
  | .type _ :: _, ns, h => by cases ns <;> cases h
  | .builtin _ :: _, ns, h => by cases ns <;> cases h
  | .ref _ :: _, ns, h => by cases ns <;> cases h
def tupB (K : PySem.W.Frag) (a : Addr) (ns : List Int) : Bool := match K.lookup a with
  | some ⟨c, none, .seq its _, _⟩ => decide (c = .type "tuple") && (decide (its.size ≤ 1000) && intsB its.toList ns)
  | _ => false
def Fx.ok (K : PySem.W.Frag) : Fx → Bool
  | .tup x ns => He.eqO (PySem.W.nsIn K mainGlobals x) (some (some (.ref (He.ga K x)))) && tupB K (He.ga K x) ns
  | .exc c => He.eqO (PySem.W.nsIn K mainGlobals c) (some (some (.ref (He.ga K c)))) && xcB K c
  | .txt x z => (He.Fa.str x z).ok K
theorem tupB_ok {K : PySem.W.Frag} {a : Addr} {ns : List Int} (h : tupB K a ns = true) (F : Hp) : TqT K F a (ns.map V.int) := by
  unfold tupB at h
  split at h
  · rename_i c its n sl e
    obtain ⟨h1, h⟩ := He.ba h
    obtain ⟨h2, h3⟩ := He.ba h
    have e1 : c = .type "tuple" := of_decide_eq_true h1
    have e2 : its.size ≤ 1000 := of_decide_eq_true h2
    exact .inr ⟨_, its, n, e, ⟨e1, rfl⟩, rfl, by rw [sizeLine_eq]; omega, intsB_ok h3⟩
  · cases h
def FxSays (fx : List Fx) (K : PySem.W.Frag) : Prop := fx.all (fun f => f.ok K) = true
def fxG (n : Nat) (fx : List Fx) (g : Addr → Option Obj) : Bool := match fx with
  | [] => true
  | f :: r => (f :: r).all fun f => f.ok (He.frG g (He.asG g n))
theorem fxG_all {n : Nat} {fx : List Fx} {g : Addr → Option Obj} (h : fxG n fx g = true) : FxSays fx (He.frG g (He.asG g n)) := by
  cases fx with
  | nil => rfl
  | cons f r => exact h
def hookX (n : Nat) (fa : List He.Fa) (fn : List He.FnD) (fx : List Fx) : PySem.W.Hook where
  α := He.Al × Bool × Bool
  obs := fun s => (He.obsG n fa fn s.heap.get?, sysB s.heap.get?, fxG n fx s.heap.get?)
  val := fun _ => (He.valE fn, true, true)
  says := fun _ h => (∃ K : PySem.W.Frag, K.In h ∧ He.SaysE fa fn K ∧ FxSays fx K) ∧ SysD h
  of := fun w s e => ⟨⟨He.frG s.heap.get? (He.asG s.heap.get? n), He.frG_in, congrArg Prod.fst e, fxG_all (congrArg (fun z => z.2.2) e)⟩, sysB_of (congrArg (fun z => z.2.1) e)⟩
  keeps := fun w h h' ⟨⟨K, hK, c⟩, o, es, ep, e, d⟩ k => ⟨⟨K, PySem.W.Frag.In.keeps hK k, c⟩, o, es, ep, k _ _ e, d⟩
theorem obsX_eq {n : Nat} {fa : List He.Fa} {fn : List He.FnD} {fx : List Fx} {g : Addr → Option Obj} {s : Shared} (h : ∀ a, g a = s.heap.get? a) : (He.obsG n fa fn g, sysB g, fxG n fx g) = (hookX n fa fn fx).obs s := by
  have e : g = s.heap.get? := funext h
  rw [e] <;> rfl
structure TopX (fa : List He.Fa) (fn : List He.FnD) (fx : List Fx) (K : PySem.W.Frag) (mg : Str → Option Value) : Prop extends Top fa fn K mg where
  more : FxSays fx K
theorem TopX.fact {fa : List He.Fa} {fn : List He.FnD} {fx : List Fx} {K : PySem.W.Frag} {mg : Str → Option Value} (T : TopX fa fn fx K mg) (i : Nat) {f : Fx} (h : fx[i]? = some f := by rfl) : f.ok K = true := List.all_eq_true.mp T.more f (List.mem_of_getElem? h)
/-- a tuple of whole numbers at the module's top -/
def CtT (K : PySem.W.Frag) (mg : Str → Option Value) (x : Str) (ns : List Int) : Prop := ∃ a, mg x = some (.ref a) ∧ tupB K a ns = true
theorem TopX.tup {fa : List He.Fa} {fn : List He.FnD} {fx : List Fx} {K : PySem.W.Frag} {mg : Str → Option Value} (T : TopX fa fn fx K mg) (x : Str) (ns : List Int) (i : Nat) (h : fx[i]? = some (.tup x ns) := by rfl) : CtT K mg x ns := by
  obtain ⟨hp, h1, h2⟩ := T.ns
  obtain ⟨c1, c2⟩ := He.ba (show (He.eqO (PySem.W.nsIn K mainGlobals x) (some (some (.ref (He.ga K x)))) && tupB K (He.ga K x) ns) = true from T.fact i h)
  exact ⟨_, PySem.W.mg_of h1 h2 (He.eqO_ok c1), c2⟩
/-- a class of refusals of the module -/
def CtE (K : PySem.W.Frag) (mg : Str → Option Value) (x : Str) : Prop := mg x = some (.ref (He.ga K x)) ∧ XcF K x
theorem TopX.exc {fa : List He.Fa} {fn : List He.FnD} {fx : List Fx} {K : PySem.W.Frag} {mg : Str → Option Value} (T : TopX fa fn fx K mg) (c : Str) (i : Nat) (h : fx[i]? = some (.exc c) := by rfl) : CtE K mg c := by
  obtain ⟨hp, h1, h2⟩ := T.ns
  obtain ⟨c1, c2⟩ := He.ba (show (He.eqO (PySem.W.nsIn K mainGlobals c) (some (some (.ref (He.ga K c)))) && xcB K c) = true from T.fact i h)
  exact ⟨PySem.W.mg_of h1 h2 (He.eqO_ok c1), xcB_ok c2⟩
/-- a text at the module's top -/
theorem TopX.txt {fa : List He.Fa} {fn : List He.FnD} {fx : List Fx} {K : PySem.W.Frag} {mg : Str → Option Value} (T : TopX fa fn fx K mg) (x z : Str) (i : Nat) (h : fx[i]? = some (.txt x z) := by rfl) : ∃ t, mg x = some (.str z t) := by
  obtain ⟨hp, h1, h2⟩ := T.ns
  exact He.str_ok h1 h2 (T.fact i h)
section
variable {X : Cx} {a b e : Expr} {we wa wb : DE} {pos : Pos}
theorem dtxt {x z : Str} (hm : ∃ t, X.mg x = some (.str z t)) (hg : Gl X x := by rfl) (hdb : (x == ("__debug__" : Str)) = false := by decide) : PE X (.Name x pos) (liftE X.K Z (dC (.str z))) := by
  obtain ⟨t, h⟩ := hm
  exact dglob (v := .str z) h ⟨t, rfl⟩ (fun _ => .str z) hg hdb
theorem dtupK {x : Str} {ns : List Int} (hm : CtT X.K X.mg x ns) (hg : Gl X x := by rfl) (hdb : (x == ("__debug__" : Str)) = false := by decide) : PE X (.Name x pos) (liftE X.K Z (dC (.tuple (ns.map .int)))) := by
  obtain ⟨a, h1, h2⟩ := hm
  exact dglob (v := .ref a) h1 rfl (fun F => .tup (tupB_ok h2 F) (drs_ints ns)) hg hdb
/-! ### & -/
def oBand (x y : PyData) (P : PyData → Prop) : Prop := oI (fun i j => .int (Builtin.bitAnd i j)) x y P
theorem dband (ha : PE X a (liftE X.K Z wa)) (hb : PE X b (liftE X.K Z wb)) : PE X (.BinOp a .BitAnd b pos) (liftE X.K Z (dOp oBand wa wb)) := dop op_and (opd_I0 (gv := fun i j => .int (Builtin.bitAnd i j)) (gd := fun i j => .int (Builtin.bitAnd i j)) fun _ _ _ => .int _) ha hb
theorem q_band {i j : Int} {P : PyData → Prop} : oBand (.int i) (.int j) P = P (.int (Builtin.bitAnd i j)) := rfl
/-! ### x.pop(i) -/
def popQ (xs : List PyData) (y : PyData) (K : PyData → List PyData → Prop) : Prop := match y with
  | .int k => match ixN xs.length k with
    | some j => match xs[j]? with
      | some d => xs.length ≤ 100000 ∧ K d (xs.eraseIdx j)
      | none => False
    | none => False
  | _ => False
def dPop (i : Nat) (we : DE) (env : List SD) (P : PyData → List SD → Prop) : Prop := match env[i]? with
  | some (.cel _ _) => we env fun y env1 => match env1[i]? with
    | some (.cel p xs) => popQ xs y fun d xs' => P d (env1.set i (.cel p xs'))
    | _ => False
  | _ => False
theorem DRs.erase {K : PySem.W.Frag} {F : Hp} : ∀ {vs : List V} {ds : List PyData} (n : Nat), DRs K F vs ds → DRs K F (vs.eraseIdx n) (ds.eraseIdx n)
  | _, _, _, .nil => .nil
  | _, _, 0, .cons a b => b
  | _, _, n + 1, .cons a b => .cons a (b.erase n)
theorem ix_seq {n j : Nat} {k : Int} (hn : n ≤ 100000) (h : ixN n k = some j) : -(2 ^ 63) ≤ k ∧ k < 2 ^ 63 ∧ seqIndex? k n = some j := by
  unfold ixN at h
  split at h
  · rename_i h0
    split at h
    · rename_i h1
      cases h
      refine ⟨by omega, by omega, ?_⟩
      exact seqIndex_of h0 h1
    · cases h
  · rename_i h0
    split at h
    · rename_i h1
      cases h
      refine ⟨by omega, by omega, ?_⟩
      rw [seqIndex_neg (by omega) (by omega)]
    · cases h
theorem dpop (i : Nat) {x : Str} {p0 apos cpos : Pos} (he : PE X e (liftE X.K Z we)) (hN : X.N[i]? = some x := by rfl) (hv : Vis X.env.scope x := by first | exact Or.inl rfl | exact Or.inr (Or.inl rfl) | exact Or.inr (Or.inr rfl)) (hd : (x == ("__debug__" : Str)) = false := by decide)
    (hcd : (x == ("__classdict__" : Str)) = false := by decide)
    (h1 : attributeBase (.Name x p0) "pop" X.env (eval (.Name x p0) X.env) = eval (.Name x p0) X.env := by rfl)
    (h2 : ((backTo cpos (starEach [e] X.env)).all (!·.1) && (backToKw cpos (keywordEach [] X.env)).all (·.1.isSome) && decide ([e].length + ([] : List Keyword).length + (if ([] : List Keyword).isEmpty then 0 else 1) < 30)) = true := by rfl)
    (h3 : (apos.endLine == cpos.line) = true := by rfl)
    (h4 : starEach [e] X.env = (false, eval e X.env) :: starEach [] X.env := by rfl) (h5 : (backTo cpos (starEach [] X.env)).any (·.1) = false := by rfl) :
    PE X (.Call (.Attribute (.Name x p0) "pop" apos) [e] [] cpos) (liftE X.K Z (dPop i we)) :=
  PE.of (pe_bm PySem.F.plainAttrs_list PySem.F.slot_list_pop PySem.F.type_list_pop mt_popAt (pe_var hN hv hd hcd) (pa_cons he pa_nil h4) h1 h2 h3 h4 h5) fun σ H Q ⟨g, F, env, P, k, w, q⟩ => by
    unfold dPop at w
    split at w
    · rename_i p' xs' ex
      obtain ⟨a0, us0, b1, _, b3, _⟩ := k.cel i p' xs' ex
      refine ⟨_, b1, .inl ⟨rfl, us0, SqL.of b3⟩, g, F, env, _, k, w, fun y env1 v F1 H1 p e1 k1 r1 => ?_⟩
      split at p
      · rename_i p3 xs ex2
        obtain ⟨a1, us1, c1, c2, c3, c4, _⟩ := k1.cel i p3 xs ex2
        rw [b1] at c1
        cases c1
        unfold popQ at p
        split at p
        · rename_i n
          cases r1.inv_int
          split at p
          · rename_i j ej
            split at p
            · rename_i d ed
              obtain ⟨u, hu, ru⟩ := c4.get ed
              obtain ⟨z1, z2, z3⟩ := ix_seq p.1 ej
              exact ⟨a0, us1, n, j, u, rfl, rfl, c3, z1, z2, by rw [c4.length]; exact z3, hu, q _ _ _ F1 _ p.2 e1 (k1.write ex2 b1 (c4.erase j)) ru⟩
            · exact p.elim
          · exact p.elim
        · exact p.elim
      · exact p.elim
    · exact w.elim
end
end DL

/-! The data layer, part 26: tuple(range(..)), list(range(..)). -/
namespace DL
variable {Z : Zx}
open PySem PySem.Spec PyProof.Rows L2
open Evl (Ex)
section
variable {X : Cx} {a b e : Expr} {we wa wb : DE} {pos : Pos}
theorem drs_rg {K : PySem.W.Frag} {F : Hp} {lo : Int} : ∀ l : List Nat, DRs K F (l.map fun i => V.int (lo + (i : Nat))) (l.map fun i : Nat => PyData.int (lo + (i : Int)))
  | [] => .nil
  | i :: l => .cons (.int _) (drs_rg l)
def dTupRg (wa : DE) (env : List SD) (P : PyData → List SD → Prop) : Prop := wa env fun d env1 => rng1 [d] fun l => P (.tuple l) env1
def dLstRg (wa : DE) (env : List SD) (P : SD → List SD → Prop) : Prop := wa env fun d env1 => rng1 [d] fun l => P (.cel false l) env1
theorem dtupRg {p p2 pos2 : Pos} (hc : X.calm = true) (hm : X.mg "tuple" = none) (hm2 : X.mg "range" = none) (ha : PE X a (liftE X.K Z wa)) (hg : Gl X "tuple" := by rfl) (hg2 : Gl X "range" := by rfl)
    (na : starEach [a] X.env = (false, eval a X.env) :: starEach [] X.env := by rfl) (nb : starEach [.Call (.Name "range" p2) [a] [] pos2] X.env = (false, eval (.Call (.Name "range" p2) [a] [] pos2) X.env) :: starEach [] X.env := by rfl) :
    PE X (.Call (.Name "tuple" p) [.Call (.Name "range" p2) [a] [] pos2] [] pos) (liftE X.K Z (dTupRg wa)) :=
  PE.of (pe_tupRgZ hc hg hm (prg_1 hg2 hm2 ha na) nb) fun σ H Q ⟨g, F, env, P, k, w, q⟩ => ⟨g, F, env, _, k, w, fun d env1 v F1 H1 p e1 k1 r1 => by
    unfold rng1 at p
    split at p
    · rename_i n he
      simp only [List.cons.injEq, and_true] at he
      subst he
      cases r1.inv_int
      have p1 := p.1
      refine ⟨n, rfl, ⟨by omega, by omega, by omega, by omega, by omega⟩, fun D o hD ho => ?_⟩
      obtain ⟨e4, k4, r4⟩ := k1.newTup (vs := rgV 0 n) (xs := rangeD 0 n.toNat) hD ho (by
        unfold rgV rangeD
        rw [show (n - 0).toNat = n.toNat by omega]
        exact drs_rg _)
      exact q _ _ _ _ _ p.2.out (e1.trans e4) k4 r4
    · exact p.elim⟩
theorem dlstRg {p p2 pos2 : Pos} (hc : X.calm = true) (hm : X.mg "list" = none) (hm2 : X.mg "range" = none) (ha : PE X a (liftE X.K Z wa)) (hg : Gl X "list" := by rfl) (hg2 : Gl X "range" := by rfl)
    (na : starEach [a] X.env = (false, eval a X.env) :: starEach [] X.env := by rfl) (nb : starEach [.Call (.Name "range" p2) [a] [] pos2] X.env = (false, eval (.Call (.Name "range" p2) [a] [] pos2) X.env) :: starEach [] X.env := by rfl) :
    PE X (.Call (.Name "list" p) [.Call (.Name "range" p2) [a] [] pos2] [] pos) (liftX X.K Z (dLstRg wa)) :=
  PE.of (pe_listRg hc hg hm (prg_1 hg2 hm2 ha na) nb) fun σ H Q ⟨g, F, env, P, k, w, q⟩ => ⟨g, F, env, _, k, w, fun d env1 v F1 H1 p e1 k1 r1 => by
    unfold rng1 at p
    split at p
    · rename_i n he
      simp only [List.cons.injEq, and_true] at he
      subst he
      cases r1.inv_int
      have p1 := p.1
      refine ⟨n, rfl, ⟨by omega, by omega, by omega, by omega, by omega⟩, fun D hD => ?_⟩
      obtain ⟨k4, r4⟩ := k1.newCell (vs := rgV 0 n) (xs := rangeD 0 n.toNat) hD (by
        unfold rgV rangeD
        rw [show (n - 0).toNat = n.toNat by omega]
        exact drs_rg _)
      exact q _ _ _ _ _ p.2.out e1 k4 r4
    · exact p.elim⟩
end
end DL

/-! The data layer, part 27: sorted(set(xs)), xs a list of whole numbers. -/
namespace DL
variable {Z : Zx}
open PySem PySem.Spec PyProof.Rows L2
open Evl (Ex)
/-- set() as it is laid -/
def nset (w : World) : Obj := { cls := .type "set", dict := none, data := .set #[] 0 (.fresh 0 0 (!w.params.followText "set-order")) }
section
variable {P : Program} {w : World} {A : Around} {E : Value → Shared → Prop} {s : Shared}
/-- what is left of set.__init__: from an empty set at S on -/
theorem set_fill {S l : Addr} {its : List Value} {ns : List Int} {R : Value → Shared → Prop} (hh : A.handled = none) (hS : s.heap.get? S = some (nset w)) (hl : s.heap.IsList l its.toArray) (hi : IntsAre its ns) (hb : ns.length + 1 < scanBound) (hne : l ≠ S)
    (h : ∀ (h' : Heap) (tk c : Nat), SetR w h' S (fun j => decide (j ∈ ns)) c → c ≤ ns.length → (∀ b o, b ≠ S → s.heap.get? b = some o → h'.get? b = some o) → R .none { s with heap := h', toks := tk }) :
    codeAny (model P w) A (.call (.builtin "set.__init__") ⟨[.ref S, .ref l], []⟩) (wants R E) s := by
  have ty : s.TypeIs (.ref S) "set" := ⟨_, hS, rfl⟩
  have lenI : its.length = ns.length := IntsAre.length hi
  have ltS : S < s.heap.objs.size := Heap.lt_size hS
  refine codeAny_call_builtin F.called_set.init.plain F.entry_set_init (check_set_init_1 ty ?_)
  obtain ⟨lo, elo, elc, ln, eld⟩ := id hl
  have ltl : l < s.heap.objs.size := Heap.lt_size elo
  obtain ⟨c0, d0, dt0, sl0⟩ := lo
  dsimp only at elc eld
  subst elc eld
  have n1 := F.sub_list_set
  have n2 := F.sub_list_frozenset
  have n3 : (Value.type "list" == Value.type "dict") = false := by decide
  unfold Builtin.«set.__init__» noKeywords Builtin.Frozenset.updateFrom
  generalize eP : pyIter = PI
  wp_walk
  subst eP
  refine wpAny_pyIter_list hl (wpAny_bind (wpAny_runValue ?_))
  have h3 : A.in1.in1.handled = none := by simp [hh]
  have nI : l ≠ s.heap.objs.size := Nat.ne_of_lt ltl
  have nf : S ∉ [s.heap.objs.size, l] := by
    simp only [List.mem_cons, List.not_mem_nil, or_false, not_or]
    exact ⟨Nat.ne_of_lt ltS, Ne.symm hne⟩
  have vals : ∀ (i : Nat) (v : Value), its.toArray[i]? = some v → ∃ k t, ns[i]? = some k ∧ v = .int k t := fun i v hv => by
    have hv2 : its[i]? = some v := by simpa using hv
    obtain ⟨t, e⟩ := PyProof.Rows.IntsAre.int_at hi i v hv2
    have hil : i < ns.length := by rw [← lenI]; exact (List.getElem?_eq_some_iff.mp hv2).1
    exact ⟨ns[i], t, List.getElem?_eq_getElem hil, by rw [e, List.getD_eq_getElem?_getD, List.getElem?_eq_getElem hil] <;> rfl⟩
  refine set_update_ints ((Walks.list h3 _ l nI its.toArray).toS) S nf ns (by simpa using lenI) hb vals (its.toArray.size - 0) 0 _ (by omega) (Nat.zero_le _) ⟨⟨_, Heap.get?_push_size _ rfl, rfl, rfl⟩, (hl.push _)⟩ ⟨0, Nat.le_refl 0, ?_⟩ ?_
  · exact setR_new_at (Heap.get?_push_of_some _ hS)
  · intro s' c hm hc hR
    obtain ⟨h', g2, d', tk', os'⟩ := s'
    have e1 : g2 = s.gens := hm.gens
    have e2 : d' = s.drawn := hm.drawn
    have e3 : os' = s.os := hm.os
    subst e1 e2 e3
    refine wpAny_pure (wpAny_pure ?_)
    refine h h' tk' c hR (by simpa [lenI] using hc) fun b o nb e => ?_
    exact hm.heap b o (by simp only [List.mem_cons, List.not_mem_nil, or_false, not_or]; exact ⟨nb, Nat.ne_of_lt (Heap.lt_size e)⟩) (Heap.get?_push_of_some _ e)
/-- set(xs) -/
theorem call_set_ints {l : Addr} {its : List Value} {ns : List Int} {Q : Value → Shared → Prop} (hh : A.handled = none) (hl : s.heap.IsList l its.toArray) (hi : IntsAre its ns) (hb : ns.length + 1 < scanBound)
    (h : ∀ (h' : Heap) (tk c : Nat), SetR w h' s.heap.objs.size (fun j => decide (j ∈ ns)) c → c ≤ ns.length → (∀ b o, s.heap.get? b = some o → h'.get? b = some o) → Q (.ref s.heap.objs.size) { s with heap := h', toks := tk }) :
    wpAny (model P w) A (call (.type "set") [.ref l]) Q E s := by
  have ll : l < s.heap.objs.size := by obtain ⟨_, e, _⟩ := id hl; exact Heap.lt_size e
  obtain ⟨mc, mt, q1⟩ := F.called_set.mro
  have q2 := F.called_set.made
  have q3 := F.called_set.sub
  have q4 := F.called_set.notType
  have q5 := F.called_set.canCreate
  have q6 := F.typeCall_set_1 (.ref l)
  apply wpAny_call
  apply codeAny_of_tree
  show wpAny _ _ (callAny (.type "set") _) _ _ _
  apply wpAny_pure
  refine ⟨Code.quiet_builtin _ (by decide +kernel), codeAny_builtin F.entry_type_call ?_⟩
  rw [show A.under _ = _ from Around.under_plain (weight_type_call_type "set" [.ref l] []) rfl]
  repeat any_goals first | assumption | wp_step
  refine codeAny_mono (code_set_led1 (.ref l) (E := E) (Q₁ := fun o z => o = .ref s.heap.objs.size ∧ z = { s with heap := s.heap.push (nset w) }) ⟨rfl, rfl⟩) fun r z hr => ?_
  match r, hr with
  | .error e, hr => exact hr
  | .ok (.ret o), hr =>
    obtain ⟨rfl, rfl⟩ := hr
    have w1 := F.called_set.init.lookup
    have w2 := F.called_set.init.bind (.ref s.heap.objs.size)
    have w3 : Shared.TypeIs { s with heap := s.heap.push (nset w) } (.ref s.heap.objs.size) "set" := ⟨_, Heap.get?_push_size _ rfl, rfl⟩
    repeat any_goals first | assumption | wp_step
    refine codeAny_mono (set_fill (E := E) (R := fun r z => r = .none ∧ ∃ h' tk c, z = { s with heap := h', toks := tk } ∧ SetR w h' s.heap.objs.size (fun j => decide (j ∈ ns)) c ∧ c ≤ ns.length ∧ ∀ b o, s.heap.get? b = some o → h'.get? b = some o) (by simp [hh]) (Heap.get?_push_size _ rfl) (hl.push _) hi hb (Nat.ne_of_lt ll) fun h' tk c a1 a2 a3 => ⟨rfl, h', tk, c, rfl, a1, a2, fun b o e => a3 b o (Nat.ne_of_lt (Heap.lt_size e)) (Heap.get?_push_of_some _ e)⟩) fun r2 z2 hz => ?_
    match r2, hz with
    | .error e, hz => exact hz
    | .ok (.ret u), hz =>
      obtain ⟨rfl, h', tk, c, rfl, a1, a2, a3⟩ := hz
      repeat any_goals first | assumption | wp_step
      exact h _ _ _ a1 a2 a3
    | .ok .next, hz => exact hz.elim
    | .ok .brk, hz => exact hz.elim
    | .ok .cont, hz => exact hz.elim
  | .ok .next, hr => exact hr.elim
  | .ok .brk, hr => exact hr.elim
  | .ok .cont, hr => exact hr.elim
end
/-! ### set(xs), sorted(set(xs)) -/
def rSetI (w : World) (K : PySem.W.Frag) : List V → Hp → VK → Prop := fun xs H Q => ∃ (l : Addr) (ns : List Int), xs = [V.ref l] ∧ SqL K H l (ns.map V.int) ∧ ns.length + 1 < scanBound ∧ ∀ p c, H p = none → c ≤ ns.length → Q (.ref p) (upd H p (SetO w p (fun j => decide (j ∈ ns)) c))
theorem call_setI {X : Cx} (hc : X.calm = true) : CallR X (.type "set") (rSetI X.w X.K) := by
  intro pins s σ H xs us Q I r h
  obtain ⟨l, ns, rfl, hl, hb, q⟩ := h
  rw [Vals.ref1 r]
  obtain ⟨its, rv, pl, hz⟩ := I.list hl
  refine call_set_ints (I.ok.hd hc) pl.isList (ints_of_vals rv) hb fun h' tk c R hcn k => ?_
  exact ⟨.ref s.heap.objs.size, upd H s.heap.objs.size (SetO X.w s.heap.objs.size (fun j => decide (j ∈ ns)) c), I.laid (t' := tk) k (Nat.le_refl _) (setO_new R), rfl, q _ _ (I.hok.fresh (Nat.le_refl _)) hcn⟩
end DL

/-! The data layer, part 28: sorted(set(xs)) as data. -/
namespace DL
variable {Z : Zx}
open PySem PySem.Spec PyProof.Rows L2
open Evl (Ex)
/-- the members once each, rising -/
def sortSetQ (d : PyData) (K : List PyData → Prop) : Prop := match d with
  | .list ds => match intsD ds with
    | some ns => ns.length < 63 ∧ ∀ ms : List Int, ms.Pairwise (· < ·) → (∀ k, k ∈ ms ↔ k ∈ ns) → K (ms.map .int)
    | none => False
  | _ => False
theorem q_sortSet {ns : List Int} {K : List PyData → Prop} : sortSetQ (.list (ns.map .int)) K = (ns.length < 63 ∧ ∀ ms : List Int, ms.Pairwise (· < ·) → (∀ k, k ∈ ms ↔ k ∈ ns) → K (ms.map .int)) := by
  unfold sortSetQ
  dsimp only
  rw [ints_map]
def dSortSet (wa : DE) (env : List SD) (P : SD → List SD → Prop) : Prop := wa env fun d env1 => sortSetQ d fun xs => P (.cel false xs) env1
section
variable {X : Cx} {a : Expr} {wa : DE} {p p2 pos pos2 : Pos}
theorem dsortSet (hc : X.calm = true) (hm : X.mg "sorted" = none) (hm2 : X.mg "set" = none) (ha : PE X a (liftE X.K Z wa)) (hg : Gl X "sorted" := by rfl) (hg2 : Gl X "set" := by rfl)
    (n1 : starEach [a] X.env = (false, eval a X.env) :: starEach [] X.env := by rfl)
    (n2 : starEach [.Call (.Name "set" p2) [a] [] pos2] X.env = (false, eval (.Call (.Name "set" p2) [a] [] pos2) X.env) :: starEach [] X.env := by rfl) :
    PE X (.Call (.Name "sorted" p) [.Call (.Name "set" p2) [a] [] pos2] [] pos) (liftX X.K Z (dSortSet wa)) :=
  PE.of (pe_callB (cr_sortedSet hc) hg hm (by decide +kernel) (pa_cons (pe_callTy (call_setI hc) hg2 hm2 (by decide +kernel) (pa_cons ha pa_nil n1) (by decide) (by decide) n1 (by rfl)) pa_nil n2) (by decide) (by decide) n2 (by rfl)) fun σ H Q ⟨g, F, env, P, k, w, q⟩ =>
    ⟨g, F, env, _, k, w, fun d env1 v F1 H1 p e1 k1 r1 => by
      unfold sortSetQ at p
      split at p
      · rename_i ds
        split at p
        · rename_i ns e
          obtain ⟨l, us, rfl, h1, h2⟩ := r1.inv_lst
          cases ints_rel h2 e
          have sb : ns.length + 1 < scanBound := by unfold scanBound; have := p.1; omega
          refine ⟨l, ns, rfl, (h1.mono k1.fh).sq, sb, fun a1 c hp1 hc1 => ?_⟩
          refine ⟨a1, _, c, rfl, upd_same, by have := p.1; omega, fun ms a2 s1 s2 s3 hp2 => ?_⟩
          obtain ⟨k3, r3⟩ := (k1.extra (o := SetO X.w a1 (fun j => decide (j ∈ ns)) c) hp1).newCell hp2 (drs_ints ms)
          exact q _ env1 _ F1 _ (p.2 ms s1 fun z => (s2 z).trans decide_eq_true_iff) e1 k3 r3
        · exact p.elim
      · exact p.elim⟩
end
/-- such a row is one alone -/
theorem rise_uniq : ∀ {l m : List Int}, l.Pairwise (· < ·) → m.Pairwise (· < ·) → (∀ k, k ∈ l ↔ k ∈ m) → l = m
  | [], [], _, _, _ => rfl
  | [], b :: m, _, _, h => by have := (h b).mpr (List.mem_cons_self ..); simp at this
  | a :: l, [], _, _, h => by have := (h a).mp (List.mem_cons_self ..); simp at this
  | a :: l, b :: m, hl, hm, h => by
    obtain ⟨l1, l2⟩ := List.pairwise_cons.mp hl
    obtain ⟨m1, m2⟩ := List.pairwise_cons.mp hm
    have e : a = b := by
      rcases List.mem_cons.mp ((h a).mp (List.mem_cons_self ..)) with z | z
      · exact z
      · rcases List.mem_cons.mp ((h b).mpr (List.mem_cons_self ..)) with y | y
        · exact y.symm
        · have := m1 a z
          have := l1 b y
          omega
    subst e
    congr 1
    refine rise_uniq l2 m2 fun k => ⟨fun z => ?_, fun z => ?_⟩
    · rcases List.mem_cons.mp ((h k).mp (List.mem_cons_of_mem _ z)) with y | y
      · have := l1 k z; omega
      · exact y
    · rcases List.mem_cons.mp ((h k).mpr (List.mem_cons_of_mem _ z)) with y | y
      · have := m1 k z; omega
      · exact y
end DL

/-! The data layer, part 29: refusals. What a def lets out; raise; calls that may refuse; try .. except PrizeError as n. -/
namespace DL
variable {Z : Zx}
open PySem PySem.Spec PyProof.Rows L2
open Evl (Ex)
/-- what is told of a refusal: its class and the names' data -/
abbrev RD := Str → List SD → Prop
def liftW (K : PySem.W.Frag) (Z : Zx) (Ed : RD) : WX := fun cls d σ H => ∃ c : Str, cls = .ref (He.ga K c) ∧ d = none ∧ XcF K c ∧ ∃ (g : Gx Z) (F : Hp) (env : List SD), Ok K g F env σ H ∧ Ed c env
abbrev DSpX := List SD → (SD → List SD → Prop) → (Str → Prop) → Prop
abbrev XWish := Value → Option Addr → Hp → Prop
def spDX (K : PySem.W.Frag) (S : DSpX) (vs : List V) (H : Hp) (Q : VK) (E : XWish) : Prop := ∃ (F : Hp) (as : List SD) (P : SD → List SD → Prop) (Ec : Str → Prop), ArgsOk K F H vs as ∧ S as P Ec ∧
  (∀ r as' v F' H', P r as' → PostOk K F H vs as F' H' as' v r → Q v H') ∧ ∀ c F' H', Ec c → XcF K c → PostOk K F H vs as F' H' [] .non (.dat .none) → E (.ref (He.ga K c)) none H'
/-- no cell is handed in -/
def NoCel (as : List SD) : Prop := ∀ (i : Nat) (p : Bool) (xs : List PyData), as[i]? ≠ some (.cel p xs)
/-- as FnG, for a def that may refuse -/
structure FnX (P : Program) (w : World) (K : PySem.W.Frag) (mg : Str → Option Value) (base : Heap) (k : Nat) (f : Addr) (fd : FuncData) (ps : List Str) (S : DSpX) : Prop where
  len : ∀ as Q E, S as Q E → as.length = ps.length
  nc : ∀ as Q E, S as Q E → NoCel as
  go : ∀ (A : Around) (outer : List Env) (s : Shared) (H : Hp) (args : Args) (us : List Value) (vs : List V) (Q : VK) (E : XWish), Room k A → A.guards = some [] → Env0 P w K mg base A outer s H →
    BindsTo s fd args (ps.zip us) → Vals vs us → spDX K S vs H Q E → codeAny (model P w) A (.call (.ref f) args) (CR (L2.CX P w) outer P w H s Q E) s
structure DnX (P : Program) (w : World) (K : PySem.W.Frag) (mg : Str → Option Value) (base : Heap) (x : Str) (k : Nat) (ps : List Str) (S : DSpX) : Prop where
  ex : ∃ fd, FnX P w K mg base k (He.ga K x) fd ps S ∧ Binds K fd ps []
  glo : mg x = some (.ref (He.ga K x))
  kp : PySem.W.keepIn K (.ref (He.ga K x)) = true
section
variable {X : Cx} {k : Nat} {f : Addr} {fd : FuncData} {ps : List Str} {S : DSpX} {x : Str} {p pos : Pos} {e : Expr} {es : List Expr} {was : DA} {Ed : RD}
theorem run_x {pins : List (Addr × Obj)} {σ : L2.St} {H : Hp} {s : Shared} {Q : VK} {us : List Value} {vs : List V} (G : FnX X.prog X.w X.K X.mg X.base k f fd ps S) (hr : Room k X.A) (hA : X.A.guards = some []) (hb : Binds X.K fd ps [])
    (tk : Takes X (liftW X.K Z Ed)) (I : Inv X pins σ H s) (rv : Vals vs us) (h : spDX X.K S vs H Q (fun cls d H' => liftW X.K Z Ed cls d σ H')) : wpAny (model X.prog X.w) X.A (call (.ref f) us) (EP X pins σ Q) X.xe s := by
  obtain ⟨F0, as, P, Ec, a1, a2, _⟩ := id h
  have hl : (us ++ ([] : List Value)).length = ps.length := by rw [List.append_nil, ← rv.length, ← a1.len]; exact G.len _ _ _ a2
  have hbb := hb s us I.kIn hl
  rw [List.append_nil] at hbb
  refine wpAny_call (codeAny_mono (G.go X.A X.stack s H ⟨us, []⟩ us vs Q _ hr hA I.env0 hbb rv h) fun res s' hq => ?_)
  match res, hq with
  | .error e, hq => exact passAt tk σ pins H s e s' I hq
  | .ok (.ret u), hq => exact I.after hq
  | .ok .next, hq => exact hq.elim
  | .ok .brk, hq => exact hq.elim
  | .ok .cont, hq => exact hq.elim
/-- f(..), which may refuse -/
def dCallE (S : DSpX) (Ed : RD) (was : DA) (env : List SD) (P : SD → List SD → Prop) : Prop := was env fun ds env1 => S (ds.map .dat) (fun r _ => P r env1) fun c => Ed c env1
theorem dcnE (D : DnX X.prog X.w X.K X.mg X.base x k ps S) (hr : Room k X.A) (hA : X.A.guards = some []) (tk : Takes X (liftW X.K Z Ed))
    (ha : PA X (e :: es) (liftA X.K Z was)) (hg : Gl X x := by rfl) (hdb : (x == ("__debug__" : Str)) = false := by decide)
    (he : starEach (e :: es) X.env = (false, eval e X.env) :: starEach es X.env := by rfl) (hpl : (backTo pos (starEach es X.env)).any (·.1) = false := by rfl) : PE X (.Call (.Name x p) (e :: es) [] pos) (liftX X.K Z (dCallE S Ed was)) := by
  obtain ⟨fd, G, hb⟩ := D.ex
  refine ⟨fun pins s σ H Q I ⟨g, F, env, P, k0, w, q⟩ => wpAny_Call_Name_kw (ld_glob I hg D.glo (PySem.W.callWith_K (h₀ := X.base) I.ok.mod.kin D.kp (thn (ha.run pos pins s σ H (spDX X.K S · · Q fun cls d H' => liftW X.K Z Ed cls d σ H') I ?_) fun us s1 ⟨vs, H1, I1, r, q1⟩ => ⟨I1.kIn, run_x G hr hA hb tk I1 r q1⟩) he hpl) hdb)⟩
  refine ⟨g, F, env, _, k0, w, fun ds env1 vs F1 H1 p1 e1 k1 r1 => ⟨F1, ds.map .dat, _, _, args_dat k1.fh r1, p1, fun r as' v F2 H2 p2 po => ?_, fun c F2 H2 p2 xc po => ?_⟩⟩
  · obtain ⟨k2, r2⟩ := k1.after no_cel po
    exact q r env1 v F2 H2 p2 (e1.trans po.ex) k2 r2
  · exact ⟨c, rfl, rfl, xc, g, F2, env1, (k1.after no_cel po).1, p2⟩
end
section
variable {X : Cx} {m : Nat} {pos : Pos} {Ed : RD}
/-- raise X('..') -/
def dRaise (c : Str) (Ed : RD) (_ : DEnds) (env : List SD) : Prop := Ed c env
theorem sraise {x msg : Str} {j : Nat} {p p2 pos2 : Pos} (hx : CtE X.K X.mg x) (hc : X.calm = true) (tk : Takes X (liftW X.K Z Ed)) (hg : Gl X x := by rfl) (hdb : (x == ("__debug__" : Str)) = false := by decide) :
    PS X (.Raise (some (.Call (.Name x p) [.Constant (.str msg) j p2] [] pos2)) none pos) (liftS X.K Z m (dRaise x Ed)) :=
  PS.of (ps_raise hc tk (pmk_own PySem.F.excBase_ValueError hx.2.made hx.1 hx.2.kp (raises_own hx.2.cls.hs hx.2.ty) hg hdb)) fun D σ H ⟨g, F, env, P, k, w, q⟩ =>
    (show liftW X.K Z Ed (.ref (He.ga X.K x)) none σ H from ⟨x, rfl, rfl, hx.2, g, F, env, k, w⟩)
end
/-! ### a caught refusal is tracked -/
section
variable {X : Cx} {pins : List (Addr × Obj)} {σ : L2.St} {H : Hp} {s : Shared} {a C : Addr} {oe : Obj} {vs : Array Value}
theorem own_data {o o' : Obj} {c : Value} {d : Option Addr} {w : Array Value} (h : Zc c d o) (hd : o.data = .fields w) : o.cls = c ∧ o.dict = d ∧ o.data = .fields w := ⟨h.1, h.2, hd⟩
theorem excAt_new (e : s.heap.get? a = some oe) (hz : Zc (.ref C) none oe) (hd : oe.data = .fields vs) {P : Program} {w : World} {H : Hp} : ObjOk P w H s.heap a (.ext (ExcAt C a)) :=
  ⟨⟨oe, vs, e, hz.1, hz.2, hd⟩, ⟨oe, e⟩, fun h1 h2 ⟨o, us, q1, q2, q3, q4⟩ kp => ⟨o, us, kp o q1, q2, q3, q4⟩⟩
/-- the context of the suite: nothing is pinned beside -/
abbrev suiteX (X : Cx) (a : Addr) (pn : List (Addr × Obj)) : Cx := X.suite a pn
theorem Inv.caught (I : Inv X pins σ H s) (hex : X.ex = []) (h0 : X.s_0.heap.get? a = none) (hp : ∀ q ∈ X.pn ++ pins, q.1 ≠ a) (e : s.heap.get? a = some oe) (hz : Zc (.ref C) none oe) (hd : oe.data = .fields vs) (na : H a = none)
    (nL : a ≠ X.env.locals) : Inv (X.suite a (X.pn ++ pins)) [] σ (upd H a (.ext (ExcAt C a))) s where
  ok := I.ok.suite _ _
  os := I.os
  bare := I.bare
  base := by
    have hxx : ∀ b : Addr, b ∉ X.ex := fun b hb => by rw [hex] at hb; cases hb
    refine ⟨I.base.keep, I.base.slot, fun b o q n z => ?_, I.base.there, fun b xs q => ?_, fun b o u q => ?_, fun b ps q => ?_⟩
    · have ne : b ≠ a := fun y => by
        subst y
        have q' : X.s_0.heap.get? b = some o := q
        rw [h0] at q'
        cases q'
      rw [upd_ne ne]
      exact I.base.free b o q n z
    · have r := I.base.tups b xs q
      rw [upd_ne (ne_of_none r na)]
      exact r
    · have r := I.base.frzs b o u q
      rw [upd_ne (ne_of_none r na)]
      exact r
    · obtain ⟨more, r⟩ := I.base.tbls b ps q
      exact ⟨more, by rw [upd_ne (ne_of_none r na)]; exact r⟩
  loc := I.loc
  cell := I.cell
  free := by
    show upd H a (.ext (ExcAt C a)) X.env.locals = none
    rw [upd_ne (Ne.symm nL)]
    exact I.free
  freeC := fun x c q => by
    obtain ⟨v, hv⟩ := I.cell x c q
    have ne : c ≠ a := fun y => by
      subst y
      obtain ⟨o, h1, h2⟩ := hv
      rw [e] at h1
      cases h1
      rw [hd] at h2
      cases h2
    rw [upd_ne ne]
    exact I.freeC x c q
  pin := fun q hq => by
    rw [List.append_nil] at hq
    obtain ⟨z1, z2, z3, z4, z5⟩ := I.pin q hq
    exact ⟨z1, by rw [upd_ne (hp q hq)]; exact z2, z3, z4, z5⟩
  hok := fun b o q => by
    by_cases hb : b = a
    · subst hb
      rw [upd_same] at q
      cases q
      exact excAt_new e hz hd
    · rw [upd_ne hb] at q
      exact (I.hok b o q).stay (fun c u _ z => z) (fun c z => by rw [upd_ne (ne_of_none z na)]; exact z) fun c xs z => by rw [upd_ne (ne_of_none z na)]; exact z
  len := I.len
theorem Inv.released {pn' : List (Addr × Obj)} (I : Inv (X.suite a (X.pn ++ pins)) pn' σ H s) (ok : X.Ok) : Inv X pins σ H s where
  ok := ok
  os := I.os
  bare := I.bare
  base := I.base
  loc := I.loc
  cell := I.cell
  free := I.free
  freeC := I.freeC
  pin := fun q hq => I.pin q (List.mem_append_left _ hq)
  hok := I.hok
  len := I.len
end
end DL

/-! The data layer, part 30: try .. except PrizeError as n. -/
namespace DL
variable {Z : Zx}
open PySem PySem.Spec PyProof.Rows L2
open Evl (Ex)
/-- a refusal as a datum -/
abbrev exD (c : Str) : PyData := .dict [(.none, .str c)]
/-- the suite's ends: the clause's name goes -/
def goneEnds (i : Nat) (E : DEnds) : DEnds :=
  { nx := fun e => bIf (noPar e i) (E.nx (e.set i .un)) False, rt := E.rt, bk := fun e => bIf (noPar e i) (E.bk (e.set i .un)) False, ct := fun e => bIf (noPar e i) (E.ct (e.set i .un)) False, nol := false }
def dTry (i : Nat) (wb : RD → DS) (ws : DS) (E : DEnds) (env : List SD) : Prop := wb (fun c env1 => bIf (noPar env1 i) (ws (goneEnds i E) (env1.set i (.dat (exD c)))) False) { nx := E.nx, rt := E.rt, bk := E.bk, ct := E.ct, nol := false } env
section
variable {K : PySem.W.Frag} {g : Gx Z} {F : Hp} {env : List SD} {σ : L2.St} {H : Hp}
/-- what is fixed for a try's body -/
def tryZ (Z : Zx) (F Pr : Hp) : Zx := ⟨F, Z.H0, Z.A0, Pr, Z.P, Z.w⟩
def tryG (g : Gx Z) (F : Hp) : Gx (tryZ Z F g.Pr) := ⟨g.Pr, fun _ _ h => h⟩
theorem Ok.inTry (k : Ok K g F env σ H) : Ok K (tryG g F) F env σ H where
  len := k.len
  fh := k.fh
  dat := k.dat
  cel := k.cel
  sep := k.sep
  pin := k.pin
  frame := k.frame
  newF := fun _ _ e => .inl e
  oldF := Ex.refl F
  prot := k.prot
  dic := k.dic
theorem Ok.ofTry (k0 : Ok K g F env σ H) {g2 : Gx (tryZ Z F g.Pr)} {F2 : Hp} {env2 : List SD} {σ2 : L2.St} {H2 : Hp} (k : Ok K g2 F2 env2 σ2 H2) : Ex F F2 ∧ Ok K g F2 env2 σ2 H2 := by
  have e : Ex F F2 := k.oldF
  refine ⟨e, ⟨k.len, k.fh, k.dat, k.cel, k.sep, k.pin, k.frame, fun a o h => ?_, k0.oldF.trans e, fun a o h => k.prot a o (g2.px a o h), fun i kvs h => ?_⟩⟩
  · rcases k.newF a o h with z | z
    · exact k0.newF a o z
    · exact .inr z
  · obtain ⟨a, xs, h1, h2, h3, h4, h5, h6, h7⟩ := k.dic i kvs h
    refine ⟨a, xs, h1, h2, h3, h4, h5, ?_, h7⟩
    cases q : g.Pr a with
    | none => rfl
    | some o => rw [g2.px a o q] at h6; cases h6
theorem res_ofTry {F2 : Hp} {env2 : List SD} {σ2 : L2.St} {H2 : Hp} {v : V} {r : SD} (h : ResOk K (tryG g F) F2 env2 σ2 H2 v r) : ResOk K g F2 env2 σ2 H2 v r := by
  cases r <;> exact h
theorem Ends4.inTry {m : Nat} {P : DEnds} {D : Ends} (k0 : Ok K g F env σ H) (q : Ends4 K m g F P D) : Ends4 K m (tryG g F) F { nx := P.nx, rt := P.rt, bk := P.bk, ct := P.ct, nol := false } D where
  nx := fun env' σ' F' H' p e k => q.nx env' σ' F' H' p e (k0.ofTry k).2
  bk := fun env' σ' F' H' p e k => q.bk env' σ' F' H' p e (k0.ofTry k).2
  ct := fun env' σ' F' H' p e k => q.ct env' σ' F' H' p e (k0.ofTry k).2
  rt := fun r env' v σ' F' H' p e k rr => q.rt r env' v σ' F' H' p e (k0.ofTry k).2 (res_ofTry rr)
/-- the slot i holds nothing any more -/
def goneD (i : Nat) (D : Ends) : Ends := { nx := fun σ' H' => D.nx (σ'.set i none) H', rt := D.rt, bk := fun σ' H' => D.bk (σ'.set i none) H', ct := fun σ' H' => D.ct (σ'.set i none) H' }
theorem Ends4.gone {m i : Nat} {P : DEnds} {D : Ends} (q : Ends4 K m g F P D) : Ends4 K m g F (goneEnds i P) (goneD i D) where
  nx := fun env' σ' F' H' p e k => q.nx _ _ F' H' (bIf_and p).2 e (k.setU (noPar_of (bIf_and p).1))
  bk := fun env' σ' F' H' p e k => q.bk _ _ F' H' (bIf_and p).2 e (k.setU (noPar_of (bIf_and p).1))
  ct := fun env' σ' F' H' p e k => q.ct _ _ F' H' (bIf_and p).2 e (k.setU (noPar_of (bIf_and p).1))
  rt := q.rt
end
section
variable {X : Cx} {m i : Nat} {pos pos' np : Pos} {n : Str} {body suite : List Stmt} {b₀ : Stmt} {wb : RD → DS} {ws : DS}
/-- a refusal of the body lands in the suite -/
theorem stry (i : Nat) (hPE : X.mg "PrizeError" = some (.ref (He.ga X.K "PrizeError"))) (hN : X.N.Nodup)
    (hb : ∀ {Z' : Zx} (Ed : RD) (pn : List (Addr × Obj)) (xe : Value → Shared → Prop), Takes (X.tr pn xe) (liftW X.K Z' Ed) → PassesOwn (model X.prog X.w) X.A X.env xe → PSs (X.tr pn xe) body (liftS X.K Z' m (wb Ed)))
    (hsu : ∀ (a : Addr) (pn : List (Addr × Obj)), PSs (X.suite a pn) (b₀ :: suite) (liftS X.K Z m ws))
    (hs : X.stack = X.env :: X.outer := by rfl) (hf : X.env.frame = some X.env.locals := by rfl) (hex : X.ex = [] := by rfl) (hi : X.N[i]? = some n := by rfl) (hln : X.env.kindOf n = some .local := by rfl) (hgl : Gl X "PrizeError" := by rfl) :
    PS X (.Try body [.ExceptHandler (some (.Name "PrizeError" np)) (some n) (b₀ :: suite) pos'] [] [] pos) (liftS X.K Z m (dTry i wb ws)) := by
  refine ⟨fun pins s σ H D I ⟨g, F, env, P, k, w, q⟩ => ?_⟩
  have ok := I.ok
  have hfr : X.A.frames = some (X.env :: X.outer) := ok.frames.trans (congrArg some hs)
  let Ed : RD := fun c env1 => bIf (noPar env1 i) (ws (goneEnds i P) (env1.set i (.dat (exD c)))) False
  let hd : List ExceptHandler := [.ExceptHandler (some (.Name "PrizeError" np)) (some n) (b₀ :: suite) pos']
  let xe : Value → Shared → Prop := fun e s1 => wpAny (model X.prog X.w) X.A (noteFrame e X.env) (fun _ s2 => wpAny (model X.prog X.w) X.A (setFlight e none) (fun _ s3 => wpAny (model X.prog X.w) X.A (handleBy e X.env hd) (SP X pins D) X.xe s3) X.xe s2) X.xe s1
  have tk : Takes (X.tr (X.pn ++ pins) xe) (liftW X.K (tryZ Z F g.Pr) Ed) := by
    intro u s' xx
    obtain ⟨x, B, sI, pins', σ1, H1, cls, d, rfl, J0, nb, up, sky, na, os, ag, c, rfl, rfl, xc, g2, F2, env2, k2, hE⟩ := xx
    have J : Inv X pins σ1 H1 sI := J0.ofTry ok
    obtain ⟨hnp, hE⟩ := bIf_and hE
    obtain ⟨eF, k3⟩ := k.ofTry k2
    have sky2 : Sky B (X.env :: X.outer) x (Zc (.ref (He.ga X.K c)) none) X.env.locals s'.heap := hs ▸ sky
    show wpAny (model X.prog X.w) X.A (noteFrame (.ref x) X.env) _ _ _
    refine Sky.land Zc.steady hfr hf sky2 fun h3 fl3 up3 => ?_
    have J3 : Inv X pins σ1 H1 { s' with heap := h3 } := J.landed nb fl3.1 (up.trans up3) os ag
    obtain ⟨o3, v3, g3, z3, f3⟩ := fl3.there
    have nfr : x ∉ frs (X.env :: X.outer) := fun hm => by
      obtain ⟨_, o, e1, e2⟩ := fl3.2.2.1.mem hm
      rw [g3] at e1
      cases e1
      exact e2 _ f3
    have nL : x ≠ X.env.locals := fun z => nfr (List.mem_filterMap.mpr ⟨_, List.mem_cons_self .., hf.trans (congrArg some z.symm)⟩)
    have nF : x ∉ X.fs := fun hm => by
      obtain ⟨e, h1, h2⟩ := List.mem_filterMap.mp hm
      exact nfr (List.mem_filterMap.mpr ⟨e, List.mem_cons_of_mem _ h1, h2⟩)
    have nI : sI.heap.get? x = none := by
      cases z : sI.heap.get? x with
      | none => rfl
      | some o =>
        have := nb x o z (by rw [hs]; exact nfr)
        rw [fl3.2.1] at this
        cases this
    have n0 : X.s_0.heap.get? x = none := by
      cases z : X.s_0.heap.get? x with
      | none => rfl
      | some o =>
        obtain ⟨o', e'⟩ := J.base.there x o z (by rw [hex]; simp)
        rw [nI] at e'
        cases e'
    have npn : ∀ r ∈ X.pn ++ pins, r.1 ≠ x := fun r hr z => by
      have := (J.pin r hr).1
      rw [z, nI] at this
      cases this
    have S3 := J3.suite g3 f3 na nL nF
    refine wpAny_handleBy_cons (codeAny_handlers_test ?_) (by intro q; cases q)
    have kind : PySem.W.Looks (model X.prog X.w) h3 (typeOf (.ref x)) (.ref (He.ga X.K c)) := fun _ _ _ _ kk z => wpAny_typeOf_ref (kk _ _ g3) (by rw [z3.1]; exact z)
    refine ld_glob (X := X.suite x ((x, o3) :: (X.pn ++ pins))) S3 hgl hPE ((PySem.W.exm_one J3.kIn kind xc.exm).here ?_)
    refine codeAny_handlers_suite_as (HandSPX.lands_againZ fl3 fun h4 fl4 up4 => ?_)
    have J4 : Inv X pins σ1 H1 { s' with heap := h4 } := J.landed nb fl4.1 ((up.trans up3).trans up4) os ag
    obtain ⟨o4, v4, g4, z4, f4⟩ := fl4.there
    have S4 := Inv.caught J4 hex n0 npn g4 z4 f4 na nL
    refine store_ok (X := X.suite x (X.pn ++ pins)) (v := .ref x) S4 hN hi (.inl hln) rfl (fun s5 S5 => ?_) (.inr hln)
    have ka : Ok X.K g (upd F2 x (.ext (ExcAt (He.ga X.K c) x))) env2 σ1 (upd H1 x (.ext (ExcAt (He.ga X.K c) x))) := k3.alloc na
    have kb := ka.setD (d := exD c) (v := .ref x) (noPar_of hnp) (.exc upd_same xc)
    have eF2 : Ex F (upd F2 x (.ext (ExcAt (He.ga X.K c) x))) := eF.trans (Ex.new (fnone k3.fh na))
    refine wpAny_mono ((hsu x (X.pn ++ pins)).run [] s5 _ _ (goneD i D) S5 ⟨g, _, _, _, kb, hE, .mk4 (q.ex eF2).four.gone rfl⟩) (fun fl s6 r => ?_) (fun _ _ z => z.elim)
    match fl, r with
    | .next, ⟨_, _, S6, q6⟩ => exact gone_ok (Inv.released S6 ok) hN hi hln fun s7 J7 => ⟨_, _, J7, q6⟩
    | .brk, ⟨_, _, S6, q6⟩ => exact gone_ok (Inv.released S6 ok) hN hi hln fun s7 J7 => ⟨_, _, J7, q6⟩
    | .cont, ⟨_, _, S6, q6⟩ => exact gone_ok (Inv.released S6 ok) hN hi hln fun s7 J7 => ⟨_, _, J7, q6⟩
    | .ret u, ⟨_, _, _, S6, r6, q6⟩ => exact gone_ok (Inv.released S6 ok) hN hi hln fun s7 J7 => ⟨_, _, _, J7, r6, q6⟩
  refine wpAny_Try_except (wpAny_mono ((hb Ed (X.pn ++ pins) xe tk PassesOwn.looking).run [] s σ H D (I.toTry _) ⟨tryG g F, F, env, _, k.inTry, w, .mk4 (Ends4.inTry k q.four) rfl⟩) (fun fl s1 r => ?_) fun e s1 z => z)
  match fl, r with
  | .next, ⟨_, _, J, q1⟩ => exact wpAny_execs_nil ⟨_, _, J.ofTry ok, q1⟩
  | .brk, ⟨_, _, J, q1⟩ => exact ⟨_, _, J.ofTry ok, q1⟩
  | .cont, ⟨_, _, J, q1⟩ => exact ⟨_, _, J.ofTry ok, q1⟩
  | .ret u, ⟨_, _, _, J, r1, q1⟩ => exact ⟨_, _, _, J.ofTry ok, r1, q1⟩
end
end DL

/-! The data layer, part 31: a def that may refuse, by its body; isinstance of a caught refusal. -/
namespace DL
variable {Z : Zx}
open PySem PySem.Spec PyProof.Rows L2
open Evl (Ex)
section
variable {P : Program} {w : World} {K : PySem.W.Frag} {mg : Str → Option Value} {base : Heap}
/-- as dfn, for a def that may refuse: Ec is what its caller wishes of refusals -/
theorem dfnX {x qual : Str} {st : Stmt} {f : Addr} {fd : FuncData} {N ps : List Str} {k : Nat} {S : DSpX} (Fn : Fun K x qual st f fd) (sc : FnScope N ps (defScope st)) (len : ∀ as Q E, S as Q E → as.length = ps.length) (nc : ∀ as Q E, S as Q E → NoCel as)
    (hbody : ∀ {Z : Zx} (Ec : Str → Prop) (cdv : Value) (A : Around) (outer : List Env) (s : Shared) (H : Hp) (E : XWish), Takes (cxOf (L2.CX P w) P w K mg base N qual (defScope st) f cdv A outer s H E) (liftW K Z fun c _ => Ec c) →
      PassesOwn (model P w) (A.deeper (envOfC qual (defScope st) s.heap.objs.size f cdv)) (envOfC qual (defScope st) s.heap.objs.size f cdv) (cxOf (L2.CX P w) P w K mg base N qual (defScope st) f cdv A outer s H E).xe →
      Room k (A.deeper (envOfC qual (defScope st) s.heap.objs.size f cdv)) → (A.deeper (envOfC qual (defScope st) s.heap.objs.size f cdv)).guards = some [] →
      ∃ t : DS, PSs (cxOf (L2.CX P w) P w K mg base N qual (defScope st) f cdv A outer s H E) (defBody st) (liftS K Z 0 t) ∧
        ∀ as Q, S as Q Ec → t (defEnds 0 Q) (as ++ List.replicate (N.length - ps.length) .un)) : FnX P w K mg base (k + 1) f fd ps S := by
  obtain ⟨oc, od, kV, doc, pm, an, cdv, ct, osl, rfl, lk, hcd⟩ := Fn.ex
  refine ⟨len, nc, fun A outer s H args us vs Q E hr hg e0 hb rv ⟨F0, as, PP, Ec, ha, hS, hQ, hE⟩ => ?_⟩
  have al : as.length = ps.length := len as PP Ec hS
  have hl : vs.length = ps.length := ha.len.symm.trans al
  have hpl : ps.length ≤ N.length := by
    have := congrArg List.length sc.pre
    rw [List.length_take] at this
    omega
  have KX : K.In s.heap := e0.mod.kin.keeps fun b o e => (e0.bs b o e).1
  have noc := nc as PP Ec hS
  have cells : ∀ (i : Nat) (p : Bool) (xs : List PyData), as[i]? = some (.cel p xs) → i < 0 := fun i p xs e => absurd e (noc i p xs)
  refine codeAny_call_function hr.depth (KX _ _ lk) rfl sc.co sc.gen rfl (PySem.W.codeRec_of KX hcd) (hb _ _ _ _ (wpAny_newFunctionEnv_cells sc.kind (fun ⟨n, v⟩ hy => ?_) fun env he s1 y => ?_))
  · rcases sc.par n (List.of_mem_zip hy).1 with q | q
    · exact .inl q
    · exact .inr ⟨q, PySem.W.cellsFrom_some _ _ _ (.inl q)⟩
  · subst he
    have tk : Takes (cxOf (L2.CX P w) P w K mg base N qual (defScope st) f cdv A outer s H E) (liftW K (entryZ P w F0 H vs as) fun c _ => Ec c) := (takes_of rfl rfl rfl rfl).imp fun cls d σ2 H2 ⟨c, h1, h2, xc, g2, F2, env2, k2, h3⟩ => by
      subst h1 h2
      exact hE c F2 H2 h3 xc ⟨k2.oldF, k2.fh, k2.newF, fun a o e _ => k2.frame a o e fun i z => (by
        obtain ⟨p, xs, h1, h2⟩ := cellsAt_inv z
        exact noc i p xs h1), fun i p xs a h1 _ => absurd h1 (noc i p xs), .non⟩
    obtain ⟨t, ht, hq⟩ := hbody (Z := entryZ P w F0 H vs as) Ec cdv A outer s H E tk (passes_of rfl) (hr.deeper _) hg
    have I : Inv (cxOf (L2.CX P w) P w K mg base N qual (defScope st) f cdv A outer s H E) [] (start N vs) H s1 := inv_start sc hr.hd e0 hl rv y
    refine ⟨(e0.mod.nolimit.keeps fun b o e => (e0.bs b o e).1).keeps y.toInCall.keep, codeAny_func (wpAny_mono (ht.run [] s1 (start N vs) H { nx := fun _ H' => Q .non H', rt := Q } I ?_) (fun fl s' hs => ?_) fun e s' hs => hs)⟩
    · refine ⟨entryG P w F0 H vs as, F0, _, _, entry_ok ha al hpl, hq as PP hS, ?_⟩
      exact .mk4 (.mk (fun env' σ' F' H' p _ k' => hQ _ _ _ _ _ p (post_of k' cells .non)) (fun _ _ _ _ p => p.elim) (fun _ _ _ _ p => p.elim) (fun r env' v σ' F' H' p _ k' r' => hQ _ _ _ _ _ p (post_of k' cells r'))) rfl
    · have fin : ∀ {σ' : L2.St} {H' : Hp} {v : V} {u : Value}, Inv (cxOf (L2.CX P w) P w K mg base N qual (defScope st) f cdv A outer s H E) [] σ' H' s' → RelV v u → Q v H' → CE outer P w H s Q u s' :=
        fun {σ' H' v u} J r q => ⟨v, H', J.os, J.bare, J.base, J.hok, r, q⟩
      match fl, hs with
      | .ret u, ⟨v, σ', H', J, r, q⟩ => exact fin J r q
      | .next, ⟨σ', H', J, q⟩ => exact fin (v := V.non) (u := Value.none) J rfl q
      | .brk, ⟨_, _, _, q⟩ => exact q.elim
      | .cont, ⟨_, _, _, q⟩ => exact q.elim
end
/-- where nothing is refused, such a def is a plain one -/
theorem DnX.calm {P : Program} {w : World} {K : PySem.W.Frag} {mg : Str → Option Value} {base : Heap} {x : Str} {k : Nat} {ps : List Str} {S : DSpX} (D : DnX P w K mg base x k ps S) : Dn P w K mg base x k ps (fun as Q => S as Q fun _ => False) := by
  obtain ⟨⟨fd, G, hb⟩, h1, h2⟩ := D
  refine ⟨⟨fd, ⟨fun as Q h => G.len as Q _ h, fun A outer s H args us vs Q hr hA e0 bt rv ⟨F, as, P, a1, a2, a3⟩ => ?_⟩, hb⟩, h1, h2⟩
  refine codeAny_mono (G.go A outer s H args us vs Q (fun _ _ _ => False) hr hA e0 bt rv ⟨F, as, P, _, a1, a2, a3, fun _ _ _ z _ _ => z⟩) fun r s' h => ?_
  match r, h with
  | .error e, h =>
    obtain ⟨_, _, _, _, _, _, _, _, _, _, _, _, z⟩ := h
    exact z.elim
  | .ok (.ret u), h => exact h
  | .ok .next, h => exact h
  | .ok .brk, h => exact h
  | .ok .cont, h => exact h
theorem DnX.imp {P : Program} {w : World} {K : PySem.W.Frag} {mg : Str → Option Value} {base : Heap} {x : Str} {k : Nat} {ps : List Str} {S S' : DSpX} (D : DnX P w K mg base x k ps S) (h : ∀ as Q E, S' as Q E → S as Q E) : DnX P w K mg base x k ps S' := by
  obtain ⟨⟨fd, G, hb⟩, h1, h2⟩ := D
  exact ⟨⟨fd, ⟨fun as Q E q => G.len as Q E (h _ _ _ q), fun as Q E q => G.nc as Q E (h _ _ _ q), fun A outer s H args us vs Q E hr hA e0 bt rv ⟨F, as, P, Ec, a1, a2, a3⟩ => G.go A outer s H args us vs Q E hr hA e0 bt rv ⟨F, as, P, Ec, a1, h _ _ _ a2, a3⟩⟩, hb⟩, h1, h2⟩
/-! ### isinstance(e, ..), e a caught refusal -/
def isxQ (d : PyData) (ds : List Str) (K : Bool → Prop) : Prop := match d with
  | .dict [(.none, .str c)] => K (ds.any (exSub c))
  | _ => False
theorem q_isx {c : Str} {ds : List Str} {K : Bool → Prop} : isxQ (exD c) ds K = K (ds.any (exSub c)) := rfl
def dIsx (ds : List Str) (wa : DE) (env : List SD) (P : PyData → List SD → Prop) : Prop := wa env fun d env' => isxQ d ds fun b => P (.bool b) env'
def isvQ (d : PyData) (K : Bool → Prop) : Prop := match d with
  | .dict [(.none, .str _)] => K true
  | _ => False
theorem q_isv {c : Str} {K : Bool → Prop} : isvQ (exD c) K = K true := rfl
def dIsv (wa : DE) (env : List SD) (P : PyData → List SD → Prop) : Prop := wa env fun d env' => isvQ d fun b => P (.bool b) env'
section
variable {X : Cx} {a : Expr} {wa : DE} {p q2 pos : Pos} {es : List Expr} {ds : List Str}
theorem exc_inv {K : PySem.W.Frag} {F : Hp} {v : V} {c : Str} (r : DR K F v (exD c)) : ∃ b, v = .ref b ∧ F b = some (.ext (ExcAt (He.ga K c) b)) ∧ XcF K c := by
  cases r with
  | exc h x => exact ⟨_, rfl, h, x⟩
theorem disx {x : Str} (hm : X.mg "isinstance" = none) (hx : X.mg x = some (.ref (He.ga X.K x))) (hd : exNames.contains x = true) (ha : PE X a (liftE X.K Z wa)) (hg : Gl X "isinstance" := by rfl) (hgx : Gl X x := by rfl) (hdx : (x == ("__debug__" : Str)) = false := by decide)
    (hs1 : starEach [a, .Name x q2] X.env = (false, eval a X.env) :: starEach [.Name x q2] X.env := by rfl) (hs2 : starEach [.Name x q2] X.env = (false, eval (.Name x q2) X.env) :: starEach [] X.env := by rfl)
    (hpl : (backTo pos (starEach [Expr.Name x q2] X.env)).any (·.1) = false := by rfl) : PE X (.Call (.Name "isinstance" p) [a, .Name x q2] [] pos) (liftE X.K Z (dIsx [x] wa)) :=
  PE.of (pe_callB call_isE1 hg hm (by decide +kernel) (pa_cons ha (pa_cons (pe_glob (v := .ref (He.ga X.K x)) hgx hx rfl hdx) pa_nil hs2) hs1) (by decide) (by decide) hs1 hpl) fun σ H Q ⟨g, F, env, P, k, w, q⟩ => by
    refine ⟨g, F, env, _, k, w, fun d env1 v F1 H1 p e1 k1 r1 => ?_⟩
    unfold isxQ at p
    split at p
    · rename_i c
      obtain ⟨b, rfl, hF, xc⟩ := exc_inv r1
      have hd' : x ∈ exNames := by simpa using hd
      exact ⟨b, _, _, _, _, rfl, .own _, k1.fh _ _ hF, xc.cls, xc.own x hd', by simpa using q _ env1 _ F1 H1 p e1 k1 (.bl _)⟩
    · exact p.elim
theorem disv (hm : X.mg "isinstance" = none) (hmv : X.mg "ValueError" = none) (ha : PE X a (liftE X.K Z wa)) (hg : Gl X "isinstance" := by rfl) (hgx : Gl X "ValueError" := by rfl)
    (hs1 : starEach [a, .Name "ValueError" q2] X.env = (false, eval a X.env) :: starEach [.Name "ValueError" q2] X.env := by rfl) (hs2 : starEach [.Name "ValueError" q2] X.env = (false, eval (.Name "ValueError" q2) X.env) :: starEach [] X.env := by rfl)
    (hpl : (backTo pos (starEach [Expr.Name "ValueError" q2] X.env)).any (·.1) = false := by rfl) : PE X (.Call (.Name "isinstance" p) [a, .Name "ValueError" q2] [] pos) (liftE X.K Z (dIsv wa)) :=
  PE.of (pe_callB call_isE1 hg hm (by decide +kernel) (pa_cons ha (pa_cons (pe_bltn (v := .ty "ValueError") hgx hmv (by decide +kernel) rfl (by decide) (by decide)) pa_nil hs2) hs1) (by decide) (by decide) hs1 hpl) fun σ H Q ⟨g, F, env, P, k, w, q⟩ => by
    refine ⟨g, F, env, _, k, w, fun d env1 v F1 H1 p e1 k1 r1 => ?_⟩
    unfold isvQ at p
    split at p
    · rename_i c
      obtain ⟨b, rfl, hF, xc⟩ := exc_inv r1
      exact ⟨b, _, _, _, _, rfl, .ty _, k1.fh _ _ hF, xc.cls, xc.ve, q _ env1 _ F1 H1 p e1 k1 (.bl _)⟩
    · exact p.elim
/-- names of classes, one behind the other -/
def tVs (vs : List V) : TA := fun _ H Q => Q vs H
theorem pcl_nil : PA X [] (tVs []) := PA.of pa_nil fun _ _ _ h => h
theorem pcl_cons {x : Str} (hx : X.mg x = some (.ref (He.ga X.K x))) (hr : PA X es (tVs (ds.map fun d => V.ref (He.ga X.K d)))) (hg : Gl X x := by rfl) (hd : (x == ("__debug__" : Str)) = false := by decide)
    (hs : starEach (.Name x q2 :: es) X.env = (false, eval (.Name x q2) X.env) :: starEach es X.env := by rfl) : PA X (.Name x q2 :: es) (tVs ((x :: ds).map fun d => V.ref (He.ga X.K d))) :=
  PA.of (pa_cons (pe_glob (v := .ref (He.ga X.K x)) hg hx rfl hd) hr hs) fun _ _ _ h => h
def rIsET (K : PySem.W.Frag) : List V → Hp → VK → Prop := fun xs H Q => ∃ (a C tp : Addr) (cs : List V) (us : List Value) (b : Bool), xs = [.ref a, .ref tp] ∧ H tp = some (.tup cs) ∧ Paired ClsV cs us ∧ H a = some (.ext (ExcAt C a)) ∧ ExcC K C ∧ PySem.W.kitAny K (.ref C) us = some b ∧ Q (.bl b) H
theorem call_isET : CallR X (.builtin "isinstance") (rIsET X.K) := by
  intro pins s σ H xs us Q I r h
  obtain ⟨a, C, tp, cs, ws, b, rfl, hT, k, hH, x, e, q⟩ := h
  obtain ⟨u1, u2, rfl, r1, r2⟩ := vals2 r
  cases (show u1 = Value.ref a from r1)
  cases (show u2 = Value.ref tp from r2)
  obtain ⟨oe, J⟩ := exc_inst I hH
  obtain ⟨_, its, rv, ⟨oc, od, dt, sl⟩, h1, h2, n, h3⟩ := (show ObjOk X.prog X.w H s.heap tp (.tup cs) from I.hok tp _ hT)
  have e3 := ClsV.all k rv
  dsimp only at h2 h3
  subst h2 h3 e3
  exact PySem.W.kia_tup (PySem.W.handS_kitx_exc x.hg x.hk x.hs x.hd x.ha x.hn x.ht x.hm) I.kIn J h1 e (fun z => nomatch z) fun tk => ⟨.bl b, H, I.tok tk, rfl, q⟩
theorem kitAny_ex {K : PySem.W.Frag} {c : Str} (xc : XcF K c) : ∀ ds : List Str, (∀ d ∈ ds, d ∈ exNames) → PySem.W.kitAny K (.ref (He.ga K c)) (ds.map fun d => Value.ref (He.ga K d)) = some (ds.any (exSub c))
  | [], _ => kitAny_nil
  | d :: ds, h => by
    refine kitAny_cons (xc.own d (h d List.mem_cons_self)) (fun z => ?_) fun z => ?_
    · rw [List.any_cons, z, Bool.false_or]
      exact kitAny_ex xc ds fun y hy => h y (List.mem_cons_of_mem _ hy)
    · rw [List.any_cons, z, Bool.true_or]
theorem paired_cls {K : PySem.W.Frag} : ∀ ds : List Str, Paired ClsV (ds.map fun d => V.ref (He.ga K d)) (ds.map fun d => Value.ref (He.ga K d))
  | [] => .nil
  | d :: ds => .cons (.own _) (paired_cls ds)
theorem disxT {kk : _} {tpos : Pos} (hm : X.mg "isinstance" = none) (hcl : PA X es (tVs (ds.map fun d => V.ref (He.ga X.K d)))) (hd : ds.all exNames.contains = true) (hl : ds.length ≤ 100) (ha : PE X a (liftE X.K Z wa)) (hg : Gl X "isinstance" := by rfl)
    (hs1 : starEach [a, .Tuple es kk tpos] X.env = (false, eval a X.env) :: starEach [.Tuple es kk tpos] X.env := by rfl) (hs2 : starEach [.Tuple es kk tpos] X.env = (false, eval (.Tuple es kk tpos) X.env) :: starEach [] X.env := by rfl)
    (hpl : (backTo pos (starEach [Expr.Tuple es kk tpos] X.env)).any (·.1) = false := by rfl) : PE X (.Call (.Name "isinstance" p) [a, .Tuple es kk tpos] [] pos) (liftE X.K Z (dIsx ds wa)) :=
  PE.of (pe_callB call_isET hg hm (by decide +kernel) (pa_cons ha (pa_cons (pe_tup hcl) pa_nil hs2) hs1) (by decide) (by decide) hs1 hpl) fun σ H Q ⟨g, F, env, P, k, w, q⟩ => by
    refine ⟨g, F, env, _, k, w, fun d env1 v F1 H1 p e1 k1 r1 => ?_⟩
    unfold isxQ at p
    split at p
    · rename_i c
      obtain ⟨b, rfl, hF, xc⟩ := exc_inv r1
      refine ⟨by rw [List.length_map]; exact Evl.sz_of (by omega), fun x hx => ?_⟩
      have ne : b ≠ x := ne_of_none (k1.fh _ _ hF) hx
      refine ⟨b, _, x, _, _, _, rfl, upd_same, paired_cls ds, by rw [upd_ne ne]; exact k1.fh _ _ hF, xc.cls, kitAny_ex xc ds fun d hd' => by simpa using List.all_eq_true.mp hd d hd', ?_⟩
      exact q _ env1 _ F1 _ p e1 (k1.extra hx) (.bl _)
    · exact p.elim
end
end DL

/-! The data layer, part 32: d = {a: True, b: True}; for x in ..: if t: d[k] = True; return sorted(d) -- a dict in the place of a set of whole numbers. -/
namespace DL
variable {Z : Zx}
open PySem PySem.Spec PyProof.Rows L2
open Evl (Ex)
section
variable {K : PySem.W.Frag} {g : Gx Z} {F : Hp} {env : List SD} {σ : L2.St} {H : Hp}
def Gx.hidO (g : Gx Z) (D : Addr) (o : HO) (h : g.Pr D = none) : Gx Z := ⟨upd g.Pr D o, fun a u e => by
  have q := g.px a u e
  have ne : a ≠ D := fun z => by rw [z, h] at q; cases q
  rw [upd_ne ne]
  exact q⟩
/-- no name's cell is at D -/
def NoNm (env : List SD) (σ : L2.St) (D : Addr) : Prop := ∀ (j : Nat) (p : Bool) (ys : List PyData), env[j]? = some (.cel p ys) → σ[j]? ≠ some (some (.ref D))
theorem Ok.hideO (k : Ok K g F env σ H) {D : Addr} {o : HO} (hn : ∀ xs, o ≠ DicE Z.P Z.w D xs) (hF : F D = none) (hH : H D = some o) (nw : NoNm env σ D) (hp : g.Pr D = none) : Ok K (g.hidO D o hp) F env σ H :=
  ⟨k.len, k.fh, k.dat, k.cel, k.sep, k.pin, k.frame, k.newF, k.oldF, fun a u e => by
    have e' : upd g.Pr D o a = some u := e
    by_cases z : a = D
    · subst z
      rw [upd_same] at e'
      cases e'
      exact ⟨hH, hF, nw⟩
    · rw [upd_ne z] at e'
      exact k.prot a u e', k.dic.keep (Ex.refl F) (fun a xs e n => by
      have ne : a ≠ D := fun z => by
        subst z
        rw [hH] at e
        exact hn xs (Option.some.inj e)
      show upd g.Pr D o a = none
      rw [upd_ne ne]
      exact n) fun a xs _ n => ⟨n, rfl⟩⟩
theorem Ok.bareO {D : Addr} {o : HO} (hn : ∀ xs, o ≠ DicE Z.P Z.w D xs) (hp : g.Pr D = none) (k : Ok K (g.hidO D o hp) F env σ H) : Ok K g F env σ H ∧ F D = none ∧ H D = some o ∧ NoNm env σ D := by
  obtain ⟨z1, z2, z3⟩ := k.prot D o (show upd g.Pr D o D = some o from upd_same)
  refine ⟨⟨k.len, k.fh, k.dat, k.cel, k.sep, k.pin, k.frame, k.newF, k.oldF, fun a u e => ?_, (k.dic.keep (Ex.refl F) (fun a xs e n => ?_) fun a xs _ n => ⟨n, rfl⟩)⟩, z2, z1, z3⟩
  · have ne : a ≠ D := fun z => by rw [z, hp] at e; cases e
    exact k.prot a u (show upd g.Pr D o a = some u by rw [upd_ne ne]; exact e)
  · have ne : a ≠ D := fun z => by
      subst z
      rw [z1] at e
      exact hn xs (Option.some.inj e)
    have n : upd g.Pr D o a = none := n
    rw [upd_ne ne] at n
    exact n
/-- a new thing of no name -/
theorem Ok.newO (k : Ok K g F env σ H) {D : Addr} {o : HO} (h : H D = none) : Ok K g F env σ (upd H D o) ∧ F D = none ∧ g.Pr D = none ∧ g.H0 D = none ∧ NoNm env σ D := by
  refine ⟨k.extra h, fnone k.fh h, ?_, k.fresh0 h, fun j p ys e z => ?_⟩
  · cases e : g.Pr D with
    | none => rfl
    | some u =>
      have z := (k.prot D u e).1
      rw [h] at z
      cases z
  · obtain ⟨a, vs, z1, _, z3, _⟩ := k.cel j p ys e
    rw [z] at z1
    cases z1
    rw [h] at z3
    cases z3
end
/-! ### the keys -/
abbrev KB := List (Key × V)
def KeysAre (kvs : KB) (ks : List Int) : Prop := kvs.map (·.1) = ks.map Sum.inl ∧ ks.Nodup
theorem any_key {kvs : KB} {ks : List Int} (h : kvs.map (·.1) = ks.map Sum.inl) (n : Int) : (kvs.any fun kv => decide (kv.1 = Sum.inl n)) = decide (n ∈ ks) := by
  rw [Bool.eq_iff_iff, List.any_eq_true, decide_eq_true_eq]
  constructor
  · rintro ⟨kv, h1, h2⟩
    have h2 : kv.1 = Sum.inl n := of_decide_eq_true h2
    have : kv.1 ∈ kvs.map (·.1) := List.mem_map.mpr ⟨kv, h1, rfl⟩
    rw [h, h2] at this
    obtain ⟨m, m1, m2⟩ := List.mem_map.mp this
    cases m2
    exact m1
  · intro hn
    have : (Sum.inl n : Key) ∈ kvs.map (·.1) := by rw [h]; exact List.mem_map.mpr ⟨n, hn, rfl⟩
    obtain ⟨kv, m1, m2⟩ := List.mem_map.mp this
    exact ⟨kv, m1, decide_eq_true m2⟩
theorem keys_put {kvs : KB} {ks : List Int} (h : KeysAre kvs ks) (n : Int) (v : V) : ∃ ks', KeysAre (putK kvs (Sum.inl n) v) ks' ∧ (∀ m, m ∈ ks' ↔ m ∈ ks ∨ m = n) ∧ ks'.length ≤ ks.length + 1 := by
  unfold putK
  rw [any_key h.1 n]
  by_cases hn : n ∈ ks
  · rw [if_pos (decide_eq_true hn)]
    refine ⟨ks, ⟨?_, h.2⟩, fun m => ⟨.inl, fun z => z.elim id fun e => e ▸ hn⟩, by omega⟩
    rw [List.map_map, ← h.1]
    refine List.map_congr_left fun kv _ => ?_
    show (if kv.1 = Sum.inl n then (kv.1, v) else kv).1 = kv.1
    split <;> rfl
  · rw [if_neg (by simpa using hn)]
    refine ⟨ks ++ [n], ⟨by rw [List.map_append, h.1, List.map_append]; rfl, ?_⟩, fun m => by simp, by simp⟩
    rw [List.nodup_append]
    refine ⟨h.2, by simp, fun a ha b hb => ?_⟩
    rw [List.mem_singleton.mp hb]
    exact fun e => hn (e ▸ ha)
theorem keys_merge : ∀ {more : List Int} {kvs : KB} {ks : List Int}, KeysAre kvs ks → ∃ ks', KeysAre (mergeK kvs (more.map fun n => (Sum.inl n, V.bl true))) ks' ∧ (∀ m, m ∈ ks' ↔ m ∈ ks ∨ m ∈ more) ∧ ks'.length ≤ ks.length + more.length
  | [], kvs, ks, h => ⟨ks, h, fun m => by simp, by simp⟩
  | n :: r, kvs, ks, h => by
    obtain ⟨k1, h1, m1, l1⟩ := keys_put h n (V.bl true)
    obtain ⟨k2, h2, m2, l2⟩ := keys_merge (more := r) h1
    refine ⟨k2, h2, fun m => ?_, by simp; omega⟩
    rw [m2, m1, List.mem_cons, or_assoc]
/-! ### the walk -/
def intQ (d : PyData) (P : Prop) : Prop := match d with
  | .int _ => P
  | _ => False
theorem q_intQ {i : Int} {P : Prop} : intQ (.int i) P = P := rfl
theorem intQ_inv {d : PyData} {P : Prop} (h : intQ d P) : ∃ i, d = .int i ∧ P := by
  cases d <;> first | exact ⟨_, rfl, h⟩ | exact h.elim
def dsetN {I : Type} (f : I → PyData → (I → PyData → Prop) → (I → Prop) → Prop) (i : I) : List PyData → List PyData → (List PyData → Prop) → Prop
  | [], acc, K => sortSetQ (.list acc) K
  | d :: r, acc, K => f i d (fun i' k => i' = i ∧ intQ k (acc.length ≤ 1000 ∧ dsetN f i r (acc ++ [k]) K)) fun i' => i' = i ∧ dsetN f i r acc K
/-- sealed: the items aren't walked by the kernel -/
inductive dsetQ {I : Type} (f : I → PyData → (I → PyData → Prop) → (I → Prop) → Prop) (i : I) (items acc : List PyData) (K : List PyData → Prop) : Prop
  | mk : dsetN f i items acc K → dsetQ f i items acc K
theorem dsetQ.out {I : Type} {f : I → PyData → (I → PyData → Prop) → (I → Prop) → Prop} {i : I} {items acc : List PyData} {K : List PyData → Prop} (h : dsetQ f i items acc K) : dsetN f i items acc K := by
  cases h with
  | mk h => exact h
def decP1 {I : Type} (is : List Nat) (dec : List SD → Option I) (N : I → Prop) (env : List SD) : Prop := match dec (unS is env) with
  | some i => N i
  | none => False
theorem decP1_inv {I : Type} {is : List Nat} {dec : List SD → Option I} {N : I → Prop} {env : List SD} (h : decP1 is dec N env) : ∃ i, dec (unS is env) = some i ∧ N i := by
  unfold decP1 at h
  split at h
  · exact ⟨_, ‹_›, h⟩
  · exact h.elim
def dDset {I : Type} (iD j : Nat) (is : List Nat) (dec : List SD → Option I) (f : I → PyData → (I → PyData → Prop) → (I → Prop) → Prop) (wa wb : DE) (wi : DI) (E : DEnds) (env : List SD) : Prop :=
  wa env fun x env1 => wb env1 fun y env2 => intQ x (intQ y (bIf (noPar env2 iD && Nat.blt iD env2.length) (wi (env2.set iD .un) fun items env3 => decP1 is dec (fun i => dsetQ f i items [x, y] fun ys => E.rt (.dat (.list ys)) []) env3) False))
section
variable {X : Cx} {tg iter test key a b : Expr} {wa wb wk : DE} {wi : DI} {wt : DT} {D r : Str}
theorem acc_ints : ∀ {acc : List PyData} {ns : List Int}, intsD acc = some ns → acc = List.map PyData.int ns
  | [], _, h => by cases h; rfl
  | .int i :: u, ns, h => by
    cases q : intsD u with
    | none => simp [intsD, q] at h
    | some ms =>
      simp only [intsD, q, Option.map_some, Option.some.injEq] at h
      subst h
      rw [acc_ints q]
      rfl
  | .none :: _, _, h => by simp [intsD] at h
  | .bool _ :: _, _, h => by simp [intsD] at h
  | .str _ :: _, _, h => by simp [intsD] at h
  | .list _ :: _, _, h => by simp [intsD] at h
  | .tuple _ :: _, _, h => by simp [intsD] at h
  | .dict _ :: _, _, h => by simp [intsD] at h
/-- what stands of the dict in the course of the walk -/
structure Dst (K : PySem.W.Frag) (g : Gx Z) (F : Hp) (env : List SD) (σ : L2.St) (H : Hp) (iD : Nat) (A : Addr) (acc : List PyData) (kvs : KB) : Prop where
  ok : Ok K g F env σ H
  slot : σ[iD]? = some (some (.ref A))
  hF : F A = none
  hH : H A = some (.dK kvs)
  keys : ∃ (ks ns : List Int), KeysAre kvs ks ∧ acc = ns.map PyData.int ∧ (∀ m, m ∈ ks ↔ m ∈ ns) ∧ ks.length ≤ ns.length
  nw : NoNm env σ A
theorem nn_set {env : List SD} {σ : L2.St} {A : Addr} {i : Nat} {d : SD} {v : Option V} (h : NoNm env σ A) (hd : ∀ p xs, d ≠ .cel p xs) : NoNm (env.set i d) (σ.set i v) A := fun j p ys e => by
  rcases get_set e with ⟨_, z⟩ | ⟨n, z⟩
  · exact absurd z.symm (hd p ys)
  · rw [set_ne n]
    exact h j p ys z
theorem sdset {I : Type} (iD j : Nat) (is : List Nat) (dec : List SD → Option I) (emb : I → List SD) (f : I → PyData → (I → PyData → Prop) → (I → Prop) → Prop) (hde : ∀ env i, dec env = some i → env = emb i) {pos1 pos2 pos3 pos4 pos5 pos6 pos7 pd pd2 pd3 pr ps ps2 kpos spos rp : Pos} {jt jt2 jt3 : Nat}
    (hp : PassesOwn (model X.prog X.w) X.A X.env X.xe) (hc : X.calm = true) (hu : X.A.units + 64 < cLine) (hms : X.mg "sorted" = none) (hN : X.N.Nodup) (hne : iD ≠ j)
    (ha : PE X a (liftE X.K Z wa)) (hb : PE X b (liftE X.K Z wb)) (hi : PI X (.Name r pr) iter (liftI X.K Z false wi)) (ht : PT X test (liftT X.K Z wt)) (hk : PE X key (liftE X.K Z wk))
    (hq : ∀ (i : I) (d : PyData) (add : I → PyData → Prop) (skip : I → Prop), f i d add skip → bIf (noPar (emb i) j) (wt ((emb i).set j (.dat d)) fun c env1 => bIf c (wk env1 fun k env2 => decP1 is dec (fun i' => add i' k) env2) (decP1 is dec skip env1)) False)
    (hiD : X.N[iD]? = some D := by rfl) (hij : X.N[j]? = some r := by rfl) (hlD : X.env.scope.names.lookup D = some .local := by rfl) (hlr : X.env.scope.names.lookup r = some .local := by rfl) (hdD : (D == ("__debug__" : Str)) = false := by decide) (hcD : (D == ("__classdict__" : Str)) = false := by decide)
    (hfD : X.fn D = true := by rfl) (hfr : X.fn r = true := by rfl) (hgs : Gl X "sorted" := by rfl)
    (hs1 : swapsWith (.Dict [some a, some b] [.Constant (.bool true) jt pd, .Constant (.bool true) jt2 pd2] kpos) (some (.Name D pos5)) pos1.line X.env = pure false := by rfl)
    (hs2 : swapsWith (.Constant (.bool true) jt3 pd3) (some (.Subscript (.Name D ps) key spos)) pos4.line X.env = pure false := by rfl)
    (hs3 : starEach [.Name D ps2] X.env = (false, eval (.Name D ps2) X.env) :: starEach [] X.env := by rfl) (hs4 : (backTo rp (starEach [] X.env)).any (·.1) = false := by rfl) (hs5 : ∀ x, foldedSetIterable iter X.env x = pure x := by intro _; rfl) :
    PSs X [.Assign [.Name D pos5] (.Dict [some a, some b] [.Constant (.bool true) jt pd, .Constant (.bool true) jt2 pd2] kpos) pos1,
      .For (.Name r pr) iter [.If test [.Assign [.Subscript (.Name D ps) key spos] (.Constant (.bool true) jt3 pd3) pos4] [] pos6] [] pos2,
      .Return (some (.Call (.Name "sorted" pos7) [.Name D ps2] [] rp)) pos3] (liftS X.K Z 0 (dDset iD j is dec f wa wb wi)) := by
  have vD : ∀ {p : Pos}, PE X (.Name D p) _ := fun {p} => pe_var (X := X) (i := iD) (pos := p) hiD (.inl hlD) hdD hcD
  refine PSs.of (pss_cons (ps_set hN hiD (.inl hlD) (pe_disp (pps_cons ha pe_bl (pps_cons hb pe_bl pps_nil)) rfl rfl (by simp) (by simp)) hs1 (.inl hfD))
    (pss_cons (ps_for hp hc hi (pg_name hN hij (.inl hlr) (.inl hfr)) (pss_one (ps_if ht (pss_one (ps_dput (by omega) vD hk pe_bl hs2)) pss_nil)) hs5)
      (pss_one (ps_ret (pe_callB (call_sortedDI hc) hgs hms (by decide +kernel) (pa_cons vD pa_nil hs3) (by decide) (by decide) hs3 hs4))))) fun E σ H ⟨g, F, env, P, k, w, q⟩ => ?_
  intro A hA
  obtain ⟨k1, f1, p1, h1, n1⟩ := k.newO (o := .dK []) hA
  refine ⟨g.hidO A (.dK []) p1, F, env, _, k1.hideO (fun _ z => by cases z) f1 upd_same n1 p1, w, fun xd env1 v1 F1 H1 w1 e1 k2 r1 => ?_⟩
  refine ⟨g.hidO A (.dK []) p1, F1, env1, _, k2, w1, fun yd env2 v2 F2 H2 w2 e2 k3 r2 => ?_⟩
  obtain ⟨x0, rfl, w2⟩ := intQ_inv w2
  obtain ⟨y0, rfl, w2⟩ := intQ_inv w2
  cases (r1.mono e2).inv_int
  cases r2.inv_int
  obtain ⟨k4, f4, h4, n4⟩ := Ok.bareO (fun _ z => by cases z) p1 k3
  obtain ⟨w3, w2⟩ := bIf_and w2
  obtain ⟨np, ln⟩ := Bool.and_eq_true_iff.mp w3
  have ln : iD < env2.length := by simpa [Nat.blt_eq] using ln
  refine ⟨h4, [(Sum.inl x0, V.bl true), (Sum.inl y0, V.bl true)], rfl, by simp, ?_⟩
  obtain ⟨ks, hks, mks, lks⟩ := keys_merge (more := [x0, y0]) (kvs := []) (ks := []) ⟨rfl, List.nodup_nil⟩
  have e12 := e1.trans e2
  have k5 := (k4.writeP (o := .dK (mergeK [] [(Sum.inl x0, V.bl true), (Sum.inl y0, V.bl true)])) h4 (fun _ z => by cases z) f4 h1 p1 n4).setU (o := some (.ref A)) (noPar_of np)
  have sl : (σ.set iD (some (V.ref A)))[iD]? = some (some (.ref A)) := List.getElem?_set_self (by rw [← k4.len]; exact ln)
  have n5 := nn_set (i := iD) (d := .un) (v := some (.ref A)) n4 fun _ _ z => by cases z
  refine ⟨g.hidO A _ p1, F2, _, _, k5.hideO (fun _ z => by cases z) f4 upd_same n5 p1, w2, fun items env3 J F3 H3 w3 e3 k6 ⟨G, Y, wk', hG, hY⟩ => ?_⟩
  obtain ⟨i0, d0, w4⟩ := decP1_inv w3
  have w4 := w4.out
  obtain ⟨k7, f7, h7, n7⟩ := Ok.bareO (fun _ z => by cases z) p1 k6
  have e13 := e12.trans e3
  refine for_it wk' (fun jj σ' H' => ∃ env' F' acc kvs, Ex F3 F' ∧ Dst X.K g F' env' σ' H' iD A acc kvs ∧ dec (unS is env') = some i0 ∧ dsetN f i0 (items.drop jj) acc fun ys => P.rt (.dat (.list ys)) [])
    ⟨env3, F3, _, _, Ex.refl F3, ⟨k7, sl, f7, h7, ⟨ks, [x0, y0], hks, rfl, fun m => by rw [mks]; simp, by simpa using lks⟩, n7⟩, d0, w4⟩ (fun i σ' H' _ ⟨env', F', _, _, e, d, _⟩ => hG H' (e.trans d.ok.fh)) (fun jj x σ' H' H4 hj ⟨env', F', acc, kvs, e4, d, d1, w5⟩ y => ?_) fun σ' H' ⟨env', F', acc, kvs, e4, d, d1, w5⟩ => ?_
  · have kU := (d.ok.hideO (fun _ z => by cases z) d.hF d.hH d.nw p1).unS (is := is)
    rw [hde _ _ d1] at kU
    have hdr : items.drop jj = items[jj] :: items.drop (jj + 1) := List.drop_eq_getElem_cons hj
    rw [hdr] at w5
    obtain ⟨F5, e5, k8, r8⟩ := kU.yld e4 (hY jj H' x H4 items[jj] (e4.trans d.ok.fh) (by simp [hj]) y)
    obtain ⟨npj, w6⟩ := bIf_and (hq i0 _ _ _ w5)
    have k9 := k8.setD (noPar_of npj) r8.non
    have sl' : (σ'.set j (some x))[iD]? = some (some (.ref A)) := by rw [set_ne (Ne.symm hne)]; exact d.slot
    have e45 := e4.trans e5
    refine ⟨g.hidO A _ p1, F5, _, _, k9, w6, fun c env5 F6 H6 w7 e6 k10 => ?_⟩
    cases c with
    | false =>
      obtain ⟨i', d', ei, w8⟩ := decP1_inv w7
      rw [ei] at d'
      obtain ⟨k12, f12, h12, n12⟩ := Ok.bareO (fun _ z => by cases z) p1 k10
      exact iteF ⟨env5, F6, acc, kvs, e45.trans e6, ⟨k12, sl', f12, h12, d.keys, n12⟩, d', w8⟩
    | true =>
      refine iteT ⟨_, sl', g.hidO A _ p1, F6, env5, _, k10, w7, fun kd env6 vk F7 H7 w8 e7 k11 r11 => ?_⟩
      obtain ⟨i', d', ei, z⟩ := decP1_inv w8
      rw [ei] at d'
      obtain ⟨n, rfl, hl, w9⟩ := intQ_inv z
      cases r11.inv_int
      obtain ⟨k12, f12, h12, n12⟩ := Ok.bareO (fun _ z => by cases z) p1 k11
      obtain ⟨ks', ns, c1, c2, c3, c4⟩ := d.keys
      have lk : kvs.length = ks'.length := by simpa using congrArg List.length c1.1
      have ln : acc.length = ns.length := by rw [c2]; simp
      obtain ⟨ks2, b1, b2, b3⟩ := keys_put c1 n (V.bl true)
      refine ⟨A, _, rfl, DPut.k (k := Sum.inl n) h12 (by rw [sizeLine_eq]; omega), ?_⟩
      exact ⟨env6, F7, _, _, (e45.trans e6).trans e7, ⟨k12.writeP h12 (fun _ z => by cases z) f12 h1 p1 n12, sl', f12, upd_same, ⟨ks2, ns ++ [n], b1, by simp [c2], fun m => by rw [b2, c3]; simp, by simp; omega⟩, n12⟩, d', w9⟩
  · rw [List.drop_length] at w5
    obtain ⟨ks', ns, c1, c2, c3, c4⟩ := d.keys
    subst c2
    have w5 : sortSetQ (.list (ns.map .int)) _ := w5
    rw [q_sortSet] at w5
    refine ⟨_, d.slot, A, kvs, ks', rfl, .inl d.hH, c1.1, by omega, fun ys p pm so hp' => ?_⟩
    have nd : ys.Nodup := pm.nodup_iff.mpr c1.2
    have st : ys.Pairwise (· < ·) := (so.and nd).imp fun z => by omega
    obtain ⟨ex, k13, r13⟩ := d.ok.newLst hp' (drs_ints ys)
    exact q.rt (.dat (.list (ys.map .int))) env' _ σ' _ _ (w5.2 ys st fun m => by rw [pm.mem_iff, c3]) ((e13.trans e4).trans ex) k13 r13
end
end DL

/-! The data layer, part 33: l.count(x), l.index(x) of lists of data. -/
namespace DL
variable {Z : Zx}
open PySem PySem.Spec PyProof.Rows L2
open Evl (Ex)
section
variable {X : Cx}
/-- l.count(x): how many are equal -/
def rCountD (K : PySem.W.Frag) : V → List V → Hp → VK → Prop := fun x xs H Q => ∃ (a : Addr) (y : V) (d : PyData) (ds : List PyData), x = V.ref a ∧ xs = [y] ∧ Dp K H (V.ref a) (.list ds) ∧ Dp K H y d ∧
  SeqAt.shaped (.list ds) = true ∧ SeqAt.shaped d = true ∧ Q (.int (ds.countP (fun z => PyData.eqv z d) : Nat)) H
theorem mt_countD (hu : X.A.units + 65 < cLine) : MtR X "list.count" (rCountD X.K) := by
  intro pins s σ H x xs v us Q I rx rxs h
  obtain ⟨a, y, d, ds, rfl, rfl, hl, hy, sl, sd, q⟩ := h
  cases rx
  cases rxs with
  | cons ry rt =>
    rename_i uy ut
    cases rt
    obtain ⟨bs, r1⟩ := Dp.reads I d y uy hy ry
    have hxs : PyData.canLayAll0 ds = true := SeqAt.canLay_of_shaped sl
    have hroom : X.A.units + 1 + min (PyData.depthAll ds) d.depth < cLine := room_in_shaped sd hu
    cases hl with
    | lst hs ha =>
      obtain ⟨its, rv, ⟨⟨cls, dd, data, sls⟩, n, ho, hc, hdn, hdt⟩, hlen⟩ := I.list hs
      simp only at hc hdt
      subst hc hdt
      obtain ⟨as, h4⟩ := Dp.readsAll I ds _ its ha rv
      have hmap : its.map (SeqAt.readOf s.heap) = ds := SeqAt.readsAll_map ds its as hxs h4
      refine call_meets PySem.F.slot_list_count ⟨_, ho, rfl⟩ PySem.F.entry_list_count (PySem.F.args_list_count_2 _ _)
        (SeqAt.list_countAt a its.toArray n dd sls uy (fun u => PyData.eqv (SeqAt.readOf s.heap u) d)) ⟨ho, SeqAt.items_eqAt (vs := its.toArray) (show ReadsAll s.heap its.toArray.toList ds as from h4) r1 hxs (SeqAt.canLay_of_shaped sd) hroom, ?_⟩
      have ec : its.toArray.toList.countP (fun u => PyData.eqv (SeqAt.readOf s.heap u) d) = ds.countP fun z => PyData.eqv z d := by
        rw [← hmap, List.countP_map]
        rfl
      refine ⟨.int (ds.countP (fun z => PyData.eqv z d) : Nat), H, I.tok _, ⟨s.toks, ?_⟩, q⟩
      rw [← ec]
end
/-! ### l.count(x), l.index(x) -/
def cntN (ds : List PyData) (y : PyData) : Nat := ds.countP fun z => eqD z y
def cntQ (ds : List PyData) (y : PyData) (P : PyData → Prop) : Prop := (SeqAt.shaped (.list ds) = true ∧ SeqAt.shaped y = true) ∧ P (.int (cntN ds y : Nat))
def idxQ (ds : List PyData) (y : PyData) (P : PyData → Prop) : Prop := (SeqAt.shaped (.list ds) = true ∧ SeqAt.shaped y = true) ∧ match ds.findIdx? fun z => eqD z y with
  | some j => P (.int (j : Nat))
  | none => False
def dMl (f : List PyData → PyData → (PyData → Prop) → Prop) (wa wb : DE) (env : List SD) (P : PyData → List SD → Prop) : Prop := wa env fun x env1 => lstQ x fun ds => wb env1 fun y env2 => f ds y fun z => P z env2
theorem cntN_eqv {ds : List PyData} {y : PyData} : (ds.countP fun z => PyData.eqv z y) = cntN ds y := by
  unfold cntN
  congr 1
  funext z
  rw [eqD_eq]
theorem lstQ_inv {x : PyData} {K : List PyData → Prop} (h : lstQ x K) : ∃ ds, x = .list ds ∧ K ds := by
  unfold lstQ at h
  split at h
  · exact ⟨_, rfl, h⟩
  · exact h.elim
section
variable {X : Cx} {a e : Expr} {wa we : DE} {apos cpos : Pos}
/-- a list's value is a list object -/
theorem isLst {K : PySem.W.Frag} {F H : Hp} {v : V} {ds : List PyData} (fh : Ex F H) (h : DR K F v (.list ds)) : tyV K "list" v H := by
  obtain ⟨a, xs, rfl, h1, _⟩ := h.inv_lst
  exact .inl ⟨rfl, xs, (h1.mono fh).sq⟩
theorem lift_ml {K : PySem.W.Frag} {r : V → List V → Hp → VK → Prop} {f : List PyData → PyData → (PyData → Prop) → Prop}
    (hf : ∀ (g : Gx Z) (F : Hp) (env : List SD) (σ : L2.St) (H : Hp) (ds : List PyData) (y : PyData) (vx vy : V) (P : PyData → Prop) (Q : VK), Ok K g F env σ H → DR K F vx (.list ds) → DR K F vy y → f ds y P → (∀ (z : PyData) (v : V), P z → DR K F v z → Q v H) → r vx [vy] H Q)
    {σ : L2.St} {H : Hp} {Q : VK} (h : liftE K Z (dMl f wa we) σ H Q) : tBM K "list" r (liftE K Z wa) (tCons (liftE K Z we) tNil) σ H Q := by
  obtain ⟨g, F, env, P, k, w, q⟩ := h
  refine ⟨g, F, env, _, k, w, fun x env1 v F1 H1 p e1 k1 r1 => ?_⟩
  obtain ⟨ds, rfl, p⟩ := lstQ_inv p
  refine ⟨isLst k1.fh r1, g, F1, env1, _, k1, p, fun y env2 v2 F2 H2 p2 e2 k2 r2 => ?_⟩
  exact hf g F2 env2 σ H2 ds y v v2 _ _ k2 (r1.mono e2) r2 p2 fun z u p3 r3 => q z env2 u F2 H2 p3 (e1.trans e2) k2 r3
theorem dcnt (hu : X.A.units + 65 < cLine) (ha : PE X a (liftE X.K Z wa)) (he : PE X e (liftE X.K Z we))
    (h1 : attributeBase a "count" X.env (eval a X.env) = eval a X.env := by rfl)
    (h2 : ((backTo cpos (starEach [e] X.env)).all (!·.1) && (backToKw cpos (keywordEach [] X.env)).all (·.1.isSome) && decide ([e].length + ([] : List Keyword).length + (if ([] : List Keyword).isEmpty then 0 else 1) < 30)) = true := by rfl)
    (h3 : (apos.endLine == cpos.line) = true := by rfl)
    (h4 : starEach [e] X.env = (false, eval e X.env) :: starEach [] X.env := by rfl) (h5 : (backTo cpos (starEach [] X.env)).any (·.1) = false := by rfl) :
    PE X (.Call (.Attribute a "count" apos) [e] [] cpos) (liftE X.K Z (dMl cntQ wa we)) :=
  PE.of (pe_bm PySem.F.plainAttrs_list PySem.F.slot_list_count PySem.F.type_list_count (mt_countD hu) ha (pa_cons he pa_nil h4) h1 h2 h3 h4 h5) fun σ H Q h => lift_ml (fun g F env σ H ds y vx vy P Q k rx ry f q => by
    obtain ⟨⟨s1, s2⟩, f⟩ := f
    obtain ⟨b, xs, rfl, _, _⟩ := rx.inv_lst
    exact ⟨b, vy, y, ds, rfl, rfl, DR.dp (drH k rx) (dict_of_shaped s1), DR.dp (drH k ry) (dict_of_shaped s2), s1, s2, by rw [cntN_eqv]; exact q _ _ f (.int _)⟩) h
theorem dlix (hu : X.A.units + 65 < cLine) (ha : PE X a (liftE X.K Z wa)) (he : PE X e (liftE X.K Z we))
    (h1 : attributeBase a "index" X.env (eval a X.env) = eval a X.env := by rfl)
    (h2 : ((backTo cpos (starEach [e] X.env)).all (!·.1) && (backToKw cpos (keywordEach [] X.env)).all (·.1.isSome) && decide ([e].length + ([] : List Keyword).length + (if ([] : List Keyword).isEmpty then 0 else 1) < 30)) = true := by rfl)
    (h3 : (apos.endLine == cpos.line) = true := by rfl)
    (h4 : starEach [e] X.env = (false, eval e X.env) :: starEach [] X.env := by rfl) (h5 : (backTo cpos (starEach [] X.env)).any (·.1) = false := by rfl) :
    PE X (.Call (.Attribute a "index" apos) [e] [] cpos) (liftE X.K Z (dMl idxQ wa we)) :=
  PE.of (pe_bm PySem.F.plainAttrs_list PySem.F.slot_list_index PySem.F.type_list_index (mt_indexD hu) ha (pa_cons he pa_nil h4) h1 h2 h3 h4 h5) fun σ H Q h => lift_ml (fun g F env σ H ds y vx vy P Q k rx ry f q => by
    obtain ⟨⟨s1, s2⟩, f⟩ := f
    obtain ⟨b, xs, rfl, _, _⟩ := rx.inv_lst
    split at f
    · rename_i j ej
      obtain ⟨hj, h2, h3⟩ := List.findIdx?_eq_some_iff_getElem.mp ej
      refine ⟨b, vy, y, ds, j, ds[j], rfl, rfl, DR.dp (drH k rx) (dict_of_shaped s1), DR.dp (drH k ry) (dict_of_shaped s2), s1, s2, List.getElem?_eq_getElem hj, by rw [← eqD_eq]; exact h2, fun m z' hm hz => ?_, q _ _ f (.int _)⟩
      obtain ⟨hm2, rfl⟩ := List.getElem?_eq_some_iff.mp hz
      rw [← eqD_eq]
      simpa using h3 m hm
    · exact f.elim) h
end
/-! ### sep.join(texts) -/
def strsD : List PyData → Option (List Str)
  | [] => some []
  | .str i :: r => (strsD r).map (i :: ·)
  | _ :: _ => none
theorem strs_rel {K : PySem.W.Frag} {F : Hp} : ∀ {ds : List PyData} {vs : List V} {ns : List Str}, DRs K F vs ds → strsD ds = some ns → vs = ns.map V.str
  | [], _, _, h, e => by cases h; cases e; rfl
  | .str i :: r, _, ns, h, e => by
    cases h with
    | cons a b =>
      cases q : strsD r with
      | none => simp [strsD, q] at e
      | some ms =>
        simp only [strsD, q, Option.map_some, Option.some.injEq] at e
        subst e
        cases a.inv_str
        rw [strs_rel b q]
        rfl
  | .none :: _, _, _, _, e => by simp [strsD] at e
  | .bool _ :: _, _, _, _, e => by simp [strsD] at e
  | .int _ :: _, _, _, _, e => by simp [strsD] at e
  | .list _ :: _, _, _, _, e => by simp [strsD] at e
  | .tuple _ :: _, _, _, _, e => by simp [strsD] at e
  | .dict _ :: _, _, _, _, e => by simp [strsD] at e
def joinOk (a : Str) (ys : List Str) : Prop := (ys.map (·.length)).sum + ys.length * a.length ≤ 16777216
def joinQ (a : Str) (ys : Option (List Str)) (P : PyData → Prop) : Prop := match ys with
  | some ys => joinOk a ys ∧ P (.str (Txt.join a ys))
  | none => False
def nJoin (a : Str) (y : PyData) (P : PyData → Prop) : Prop := match y with
  | .list ds => joinQ a (strsD ds) P
  | .tuple ds => joinQ a (strsD ds) P
  | _ => False
def dJoin (a : Str) (we : DE) (env : List SD) (P : PyData → List SD → Prop) : Prop := we env fun y env1 => nJoin a y fun z => P z env1
section
variable {X : Cx} {e : Expr} {we : DE} {apos pos p0 : Pos} {j0 : Nat}
theorem djoin {a : Str} (he : PE X e (liftE X.K Z we)) (hs : starEach [e] X.env = [(false, eval e X.env)] := by rfl)
    (hbase : attributeBase (.Constant (.str a) j0 p0) "join" X.env (eval (.Constant (.str a) j0 p0) X.env) = eval (.Constant (.str a) j0 p0) X.env := by rfl) (hline : (apos.endLine == pos.line) = true := by rfl) :
    PE X (.Call (.Attribute (.Constant (.str a) j0 p0) "join" apos) [e] [] pos) (liftE X.K Z (dJoin a we)) :=
  PE.of (pe_join (ds (Z := Z)) he hs hbase hline) fun σ H Q ⟨g, F, env, P, k, w, q⟩ => by
    refine ⟨g, F, env, fun d env' => d = .str a ∧ dJoin a we env' P, k, ⟨rfl, w⟩, fun d env1 v F1 H1 ⟨ed, w⟩ e1 k1 r1 => ?_⟩
    subst ed
    cases r1.inv_str
    refine ⟨⟨a, rfl⟩, g, F1, env1, _, k1, w, fun y env2 v2 F2 H2 p2 e2 k2 r2 => ?_⟩
    unfold nJoin at p2
    split at p2
    · obtain ⟨b, xs, rfl, h1, h2⟩ := r2.inv_lst
      unfold joinQ at p2
      split at p2
      · rename_i ys ey
        cases strs_rel h2 ey
        exact ⟨a, b, ys, rfl, rfl, .inl (h1.mono k2.fh).sq, p2.1, q _ env2 _ F2 H2 p2.2 (e1.trans e2) k2 (.str _)⟩
      · exact p2.elim
    · obtain ⟨b, xs, rfl, h1, h2⟩ := r2.inv_tup
      unfold joinQ at p2
      split at p2
      · rename_i ys ey
        cases strs_rel h2 ey
        exact ⟨a, b, ys, rfl, rfl, .inr (Evl.ex_t k2.fh h1), p2.1, q _ env2 _ F2 H2 p2.2 (e1.trans e2) k2 (.str _)⟩
      · exact p2.elim
    · exact p2.elim
end
end DL

/-! The data layer, part 34: defs that are called within an except suite. -/
namespace DL
variable {Z : Zx}
open PySem PySem.Spec PyProof.Rows L2
open Evl (Ex)
theorem _root_.L2H.RoomH.units {k : Nat} {A : Around} (r : L2H.RoomH k A) : A.units + 64 < cLine := by have := r.un; omega
theorem _root_.L2H.RoomH.u65 {k : Nat} {A : Around} (r : L2H.RoomH k A) : A.units + 65 < cLine := by have := r.un; omega
theorem _root_.L2.Room.mark {k : Nat} {A : Around} {v : Option Value} (r : Room k A) : L2H.RoomH k (A.mark v) := ⟨r.dp, r.un⟩
/-- as FnG, whatever is handled -/
structure FnB (P : Program) (w : World) (K : PySem.W.Frag) (mg : Str → Option Value) (base : Heap) (k : Nat) (f : Addr) (fd : FuncData) (ps : List Str) (S : DSp) : Prop where
  len : ∀ as Q, S as Q → as.length = ps.length
  go : ∀ (A : Around) (outer : List Env) (s : Shared) (H : Hp) (args : Args) (us : List Value) (vs : List V) (Q : VK), L2H.RoomH k A → A.guards = some [] → Env0 P w K mg base A outer s H →
    BindsTo s fd args (ps.zip us) → Vals vs us → spD K S vs H Q → codeAny (model P w) A (.call (.ref f) args) (CR CX0 outer P w H s Q E0) s
structure DnB (P : Program) (w : World) (K : PySem.W.Frag) (mg : Str → Option Value) (base : Heap) (x : Str) (k : Nat) (ps : List Str) (S : DSp) : Prop where
  ex : ∃ fd, FnB P w K mg base k (He.ga K x) fd ps S ∧ Binds K fd ps []
  glo : mg x = some (.ref (He.ga K x))
  kp : PySem.W.keepIn K (.ref (He.ga K x)) = true
theorem FnB.cool {P : Program} {w : World} {K : PySem.W.Frag} {mg : Str → Option Value} {base : Heap} {k : Nat} {f : Addr} {fd : FuncData} {ps : List Str} {S : DSp} (G : FnB P w K mg base k f fd ps S) : FnG P w K mg base k f fd ps S :=
  ⟨G.len, fun A outer s H args us vs Q hr => G.go A outer s H args us vs Q (L2H.roomH_of hr)⟩
theorem DnB.cool {P : Program} {w : World} {K : PySem.W.Frag} {mg : Str → Option Value} {base : Heap} {x : Str} {k : Nat} {ps : List Str} {S : DSp} (D : DnB P w K mg base x k ps S) : Dn P w K mg base x k ps S :=
  ⟨let ⟨fd, G, b⟩ := D.ex; ⟨fd, G.cool, b⟩, D.glo, D.kp⟩
section
variable {P : Program} {w : World} {K : PySem.W.Frag} {mg : Str → Option Value} {base : Heap}
/-- a def of the text, by its body read as data, whatever is handled -/
theorem dfnB (m : Nat) {x qual : Str} {st : Stmt} {f : Addr} {fd : FuncData} {N ps : List Str} {k : Nat} {S : DSp} (Fn : Fun K x qual st f fd) (sc : FnScope N ps (defScope st)) (len : ∀ as Q, S as Q → as.length = ps.length) (cels : CelsIn m S)
    (hbody : ∀ {Z : Zx} (cdv : Value) (A : Around) (outer : List Env) (s : Shared) (H : Hp) (p : Addr × Obj), L2H.RoomH k (A.deeper (envOfC qual (defScope st) s.heap.objs.size f cdv)) → (A.deeper (envOfC qual (defScope st) s.heap.objs.size f cdv)).guards = some [] →
      ∃ t : DS, PSs (L2H.cxH CX0 P w K mg base N qual (defScope st) f cdv A outer s H E0 p).nox (defBody st) (liftS K Z m t) ∧
        ∀ as Q, S as Q → t (defEnds m Q) (as ++ List.replicate (N.length - ps.length) .un)) : FnB P w K mg base (k + 1) f fd ps S := by
  obtain ⟨oc, od, kV, doc, pm, an, cdv, ct, osl, rfl, lk, hcd⟩ := Fn.ex
  refine ⟨len, fun A outer s H args us vs Q hr hg e0 hb rv ⟨F0, as, PP, ha, hS, hQ⟩ => ?_⟩
  have hl : vs.length = ps.length := ha.len.symm.trans (len as PP hS)
  have hpl : ps.length ≤ N.length := by
    have := congrArg List.length sc.pre
    rw [List.length_take] at this
    omega
  have KX : K.In s.heap := e0.mod.kin.keeps fun b o e => (e0.bs b o e).1
  -- the def's own object is known and out of the way
  have inB := e0.mod.kin _ _ lk
  have pin : L2H.PinOk outer H s (f, _) := ⟨(e0.bs f _ inB).1, (e0.bs f _ inB).2, fun hm => (by
    have z := (e0.funs.mem hm).1
    rw [inB] at z
    cases z), fun v z => by cases z⟩
  refine codeAny_call_function hr.depth (KX _ _ lk) rfl sc.co sc.gen rfl (PySem.W.codeRec_of KX hcd) (hb _ _ _ _ (wpAny_newFunctionEnv_cells sc.kind (fun ⟨n, v⟩ hy => ?_) fun env he s1 x => ?_))
  · rcases sc.par n (List.of_mem_zip hy).1 with q | q
    · exact .inl q
    · exact .inr ⟨q, PySem.W.cellsFrom_some _ _ _ (.inl q)⟩
  · subst he
    obtain ⟨t, ht, hq⟩ := hbody (Z := entryZ P w F0 H vs as) cdv A outer s H (f, _) (hr.deeper _) hg
    have I := L2H.inv_startH (E := E0) (CX := CX0) (mg := mg) (base := base) sc pin e0 hl rv x
    refine ⟨(e0.mod.nolimit.keeps fun b o e => (e0.bs b o e).1).keeps x.toInCall.keep, codeAny_func (wpAny_mono (ht.nox.run [] s1 (start N vs) H { nx := fun _ H' => Q .non H', rt := Q } I ?_) (fun fl s' hs => ?_) fun e s' hs => hs)⟩
    · have al : as.length = ps.length := len as PP hS
      refine ⟨entryG P w F0 H vs as, F0, _, _, entry_ok ha al hpl, hq as PP hS, ?_⟩
      exact .mk4 (.mk (fun env' σ' F' H' p _ k' => hQ _ _ _ _ _ p (post_of k' (cels _ _ hS) .non)) (fun _ _ _ _ p => p.elim) (fun _ _ _ _ p => p.elim) (fun r env' v σ' F' H' p _ k' r' => hQ _ _ _ _ _ p (post_of k' (cels _ _ hS) r'))) rfl
    · match fl, hs with
      | .ret u, ⟨v, σ', H', J, r, q⟩ => exact ⟨v, H', J.os, J.bare, J.base, J.hok, r, q⟩
      | .next, ⟨σ', H', J, q⟩ => exact ⟨V.non, H', J.os, J.bare, J.base, J.hok, rfl, q⟩
      | .brk, ⟨_, _, _, q⟩ => exact q.elim
      | .cont, ⟨_, _, _, q⟩ => exact q.elim
end
section
variable {X : Cx} {k : Nat} {f : Addr} {fd : FuncData} {ps : List Str} {S : DSp} {x : Str} {p pos : Pos} {e : Expr} {es : List Expr} {was : DA}
/-- f(..) within a suite -/
theorem dcnB (D : DnB X.prog X.w X.K X.mg X.base x k ps S) (hr : L2H.RoomH k X.A) (hA : X.A.guards = some [])
    (ha : PA X (e :: es) (liftA X.K Z was)) (hg : Gl X x := by rfl) (hdb : (x == ("__debug__" : Str)) = false := by decide)
    (he : starEach (e :: es) X.env = (false, eval e X.env) :: starEach es X.env := by rfl) (hpl : (backTo pos (starEach es X.env)).any (·.1) = false := by rfl) : PE X (.Call (.Name x p) (e :: es) [] pos) (liftX X.K Z (dCall S was)) := by
  obtain ⟨fd, G, hb⟩ := D.ex
  have go : ∀ {pins : List (Addr × Obj)} {σ : L2.St} {H : Hp} {s : Shared} {Q : VK} {us : List Value} {vs : List V}, Inv X pins σ H s → Vals vs us → spD X.K S vs H Q → wpAny (model X.prog X.w) X.A (call (.ref (He.ga X.K x)) us) (EP X pins σ Q) X.xe s := fun {pins σ H s Q us vs} I r h => by
    obtain ⟨F0, as, P, a1, a2, a3⟩ := id h
    have hl : (us ++ ([] : List Value)).length = ps.length := by rw [List.append_nil, ← r.length, ← a1.len]; exact G.len _ _ a2
    have hbb := hb s us I.kIn hl
    rw [List.append_nil] at hbb
    refine wpAny_call (codeAny_mono (G.go X.A X.stack s H ⟨us, []⟩ us vs Q hr hA I.env0 hbb r h) fun res s' hq => ?_)
    match res, hq with
    | .error e, hq => exact hq.elim
    | .ok (.ret u), hq => exact I.after hq
    | .ok .next, hq => exact hq.elim
    | .ok .brk, hq => exact hq.elim
    | .ok .cont, hq => exact hq.elim
  refine ⟨fun pins s σ H Q I ⟨g, F, env, P, k0, w, q⟩ => wpAny_Call_Name_kw (ld_glob I hg D.glo (PySem.W.callWith_K (h₀ := X.base) I.ok.mod.kin D.kp (thn (ha.run pos pins s σ H (spD X.K S · · Q) I ?_) fun us s1 ⟨vs, H1, I1, r, q1⟩ => ⟨I1.kIn, go I1 r q1⟩) he hpl) hdb)⟩
  refine ⟨g, F, env, _, k0, w, fun ds env1 vs F1 H1 p1 e1 k1 r1 => ⟨F1, ds.map .dat, _, args_dat k1.fh r1, p1, fun r as' v F2 H2 p2 po => ?_⟩⟩
  obtain ⟨k2, r2⟩ := k1.after no_cel po
  exact q r env1 v F2 H2 p2 (e1.trans po.ex) k2 r2
end
end DL

/-! The data layer, part 35: sets of texts: set(xs), sorted(set(xs)), len(set(xs)). -/
namespace DL
variable {Z : Zx}
open PySem PySem.Spec PyProof.Rows L2
open Evl (Ex)
def keyS (e : Int × Value) : Str := match e.2 with | .str k _ => k | _ => Str.empty
def GoodS (w : World) (e : Int × Value) : Prop := ∃ k t, e.2 = Value.str k t ∧ e.1 = hashStr w k
/-- a set of the texts ys, each once -/
def SetS (w : World) (h : Heap) (a : Addr) (ys : List Str) : Prop :=
  ∃ ob es ep tb, h.get? a = some ob ∧ ob.ExactSet ∧ ob.data = .set es ep tb ∧ (∀ e ∈ es.toList, GoodS w e) ∧ (es.toList.map keyS).Perm ys ∧ ys.Nodup ∧
    es.size < scanBound ∧ tb.fits es.size = true ∧ Ris tb.place.toList ∧ (w.params.followText "set-order" = true ∨ tb.led = true)
section
variable {P : Program} {w : World} {h h' : Heap} {a : Addr} {ys : List Str}
theorem SetS.at (R : SetS w h a ys) (k : ∀ o, h.get? a = some o → h'.get? a = some o) : SetS w h' a ys := by
  obtain ⟨ob, es, ep, tb, ho, r⟩ := R
  exact ⟨ob, es, ep, tb, k ob ho, r⟩
theorem SetS.size (R : SetS w h a ys) : ys.length < scanBound := by
  obtain ⟨ob, es, ep, tb, _, _, _, _, pm, _, hb, _⟩ := R
  rw [← pm.length_eq, List.length_map, Array.length_toList]
  exact hb
theorem goodS_is {e : Int × Value} (g : GoodS w e) (k : Str) : (strKind P w).is k e.2 = true ↔ keyS e = k := by
  obtain ⟨j, t, h1, _⟩ := g
  unfold keyS
  rw [h1]
  constructor
  · intro z
    obtain ⟨u, hu⟩ := Value.isStrOf_shape (show Value.isStrOf k (.str j t) = true from z)
    injection hu with hx
  · intro z
    have z : j = k := z
    subst z
    show Value.isStrOf j (.str j t) = true
    unfold Value.isStrOf
    simp
theorem goodS_elems {l : List (Int × Value)} (g : ∀ e ∈ l, GoodS w e) : ElemsOf (strKind P w) l := fun e he => by
  obtain ⟨k, t, h1, h2⟩ := g e he
  exact ⟨⟨k, (goodS_is (P := P) (g e he) k).mpr (by unfold keyS; rw [h1]), h2⟩, by rw [h1]; rfl⟩
end
section
variable {P : Program} {w : World} {A : Around} {E : Value → Shared → Prop} {s : Shared} {a : Addr} {ys : List Str}
theorem setS_tail {g : Bool → Sem Unit} (hg : ∀ (b : Bool) (s₁ : Shared) (Q' : Unit → Shared → Prop), Q' () s₁ → wpAny (model P w) A (g b) Q' E s₁)
    {ob : Obj} {es : Array (Int × Value)} {ep : Nat} {tb : SetTable} (ho : s.heap.get? a = some ob) (hx : ob.ExactSet) (hd : ob.data = .set es ep tb)
    {fs : Array (Int × Value)} {t2 : SetTable} (g1 : ∀ e ∈ fs.toList, GoodS w e) (pm : (fs.toList.map keyS).Perm ys) (nd : ys.Nodup) (hb : fs.size < scanBound) (hf : t2.fits fs.size = true) (hr : Ris t2.place.toList)
    (hl : w.params.followText "set-order" = true ∨ t2.led = true) {dum : Bool} {R : Option Bool → Shared → Prop} (hR : ∀ h', Heap.SameBut a s.heap h' → SetS w h' a ys → R (some true) { s with heap := h' }) :
    wpAny (model P w) A (do
        storeSet a fs t2
        if (!dum && t2.tooFull) = true then do
            g (relayAll t2 fs (SetTable.grown fs.size)).2.2
            storeSet a (relayAll t2 fs (SetTable.grown fs.size)).1 (relayAll t2 fs (SetTable.grown fs.size)).2.1
            pure (some true)
          else pure (some true)) R E s := by
  refine wpAny_bind (wpAny_storeSet_of ho hd ?_ (fits_of_scanBound hb))
  have o1 := store_at (es' := fs) (t' := t2) ho hd
  have b1 := Heap.SameBut.update s.heap a (Obj.putSet fs t2)
  split
  · have q1 := relayAll_perm t2 fs (SetTable.grown fs.size)
    have q2 := relayAll_fits t2 fs (SetTable.grown fs.size)
    have q3 := relayAll_ris t2 fs (SetTable.grown fs.size)
    have q4 := relayAll_led t2 fs (SetTable.grown fs.size)
    generalize relayAll t2 fs (SetTable.grown fs.size) = W at q1 q2 q3 q4 ⊢
    obtain ⟨gs, t3, gv⟩ := W
    dsimp only at q1 q2 q3 q4 ⊢
    have sz : gs.size = fs.size := by rw [← Array.length_toList, q1.length_eq, Array.length_toList]
    have b2 : gs.size < scanBound := by rw [sz]; exact hb
    refine wpAny_bind (hg _ _ _ ?_)
    refine wpAny_bind (wpAny_storeSet_of o1 rfl ?_ (fits_of_scanBound b2))
    have o2 := store_at (es' := gs) (t' := t3) o1 rfl
    refine wpAny_pure (hR _ (b1.trans (Heap.SameBut.update _ a _)) ⟨_, gs, _, t3, o2, hx, rfl, fun e he => g1 e (q1.mem_iff.mp he), (q1.map keyS).trans pm, nd, b2, q2, q3, hl.imp id fun z => by rw [q4]; exact z⟩)
  · exact wpAny_pure (hR _ b1 ⟨_, fs, _, t2, o1, hx, rfl, g1, pm, nd, hb, hf, hr, hl⟩)
/-- a text goes into the set -/
theorem setS_add {k : Str} {tk : Tok} {Q : Bool → Shared → Prop} (R : SetS w s.heap a ys) (room : ys.length + 1 < scanBound)
    (hQ : ∀ h' b, Heap.SameBut a s.heap h' → SetS w h' a (if k ∈ ys then ys else k :: ys) → Q b { s with heap := h' }) :
    wpAny (model P w) A (setAddHashed a (.str k tk) ((strKind P w).hash k)) Q E s := by
  obtain ⟨ob, es, ep, tb, ho, hx, hd, g, pm, nd, hb, hf, hr, hl⟩ := R
  have hkey : (strKind P w).is k (.str k tk) = true := (goodS_is (P := P) (e := (hashStr w k, .str k tk)) ⟨k, tk, rfl, rfl⟩ k).mpr rfl
  have hsc : (Value.str k tk).scannable = true := rfl
  have hel : ElemsOf (strKind P w) es.toList := goodS_elems g
  (unfold setAddHashed; unfold setAddHashedIn)
  refine wpAny_holding (wpAny_bind (wpAny_setState_of ho hd hf ?_))
  dsimp only
  rw [byScan_of hsc hb hel]
  simp only [↓reduceIte]
  (unfold setAddByScan; refine wpAny_bind ?_)
  refine wpAny_bind (wpAny_rule ?_)
  refine wpAny_bind (wpAny_setScan_of hkey ho hd hf hel ?_)
  cases hfi : List.findIdx? (fun e => (strKind P w).is k e.2) es.toList with
  | some j =>
    dsimp only
    obtain ⟨hj, pj, _⟩ := List.findIdx?_eq_some_iff_getElem.mp hfi
    have hk : k ∈ ys := by
      rw [← pm.mem_iff, List.mem_map]
      exact ⟨es.toList[j], List.getElem_mem hj, (goodS_is (P := P) (g _ (List.getElem_mem hj)) k).mp pj⟩
    refine wpAny_pure (wpAny_pure (hQ s.heap _ (Heap.SameBut.refl a s.heap) ?_))
    rw [if_pos hk]
    exact ⟨ob, es, ep, tb, ho, hx, hd, g, pm, nd, hb, hf, hr, hl⟩
  | none =>
    dsimp only
    have hk : k ∉ ys := fun z => by
      rw [← pm.mem_iff, List.mem_map] at z
      obtain ⟨e, he, q⟩ := z
      have c := List.findIdx?_eq_none_iff.mp hfi e he
      rw [(goodS_is (P := P) (g e he) k).mpr q] at c
      cases c
    have hgw : ∀ (b : Bool) {s₁ : Shared} {Q' : Unit → Shared → Prop}, Q' () s₁ → wpAny (model P w) A (match b with | true => rule "set.scan.the-table-gave-way" | false => pure ()) Q' E s₁ := fun b s₁ Q' q => by
      cases b
      · exact wpAny_pure q
      · exact wpAny_rule q
    have p1 := layNew_perm tb es ((strKind P w).hash k) (.str k tk)
    have f1 := layNew_fits tb es ((strKind P w).hash k) (.str k tk)
    have r1 := layNew_ris tb es ((strKind P w).hash k) (.str k tk) hr
    have l1 := layNew_led tb es ((strKind P w).hash k) (.str k tk)
    generalize layNew tb es ((strKind P w).hash k) (.str k tk) = W at p1 f1 r1 l1 ⊢
    obtain ⟨fs, t1, dum, gv⟩ := W
    dsimp only at p1 f1 r1 l1 ⊢
    rw [Array.toList_push] at p1
    have pc : fs.toList.Perm (((strKind P w).hash k, Value.str k tk) :: es.toList) := p1.trans (List.perm_append_singleton _ _)
    have pk : (fs.toList.map keyS).Perm (k :: ys) := (pc.map keyS).trans (pm.cons k)
    have g1 : ∀ e ∈ fs.toList, GoodS w e := fun e he => by
      rcases List.mem_cons.mp (pc.mem_iff.mp he) with z | z
      · rw [z]; exact ⟨k, tk, rfl, rfl⟩
      · exact g e z
    have nd1 : (k :: ys).Nodup := List.nodup_cons.mpr ⟨hk, nd⟩
    have sz : fs.size = ys.length + 1 := by rw [← Array.length_toList, ← List.length_map (f := keyS), pk.length_eq, List.length_cons]
    have hb1 : fs.size < scanBound := by rw [sz]; exact room
    have hled : w.params.followText "set-order" = true ∨ t1.led = true := hl.imp id fun z => by rw [l1]; exact z
    have fin : ∀ b h', Heap.SameBut a s.heap h' → SetS w h' a (k :: ys) → Q b { s with heap := h' } := fun b h' sb r => hQ h' b sb (by rw [if_neg hk]; exact r)
    refine wpAny_bind (hgw _ ?_)
    split
    · refine wpAny_bind ?_
      rw [hashByValue_scannable 8 hsc]
      refine wpAny_pure ?_
      refine setS_tail ?_ ho hx hd g1 pk nd1 hb1 ?_ ?_ ?_ ?_
      · intro b s₁ Q' q
        cases b
        · exact wpAny_pure q
        · exact wpAny_rule q
      · first | (split <;> first | exact f1 | exact SetTable.fits_plain_off f1) | exact f1
      · first | (split <;> exact r1) | exact r1
      · first | (split <;> exact hled) | exact hled
      · intro h' sb r
        dsimp only
        exact wpAny_pure (fin _ h' sb r)
    · refine wpAny_bind (wpAny_pure ?_)
      simp only [↓reduceIte]
      refine setS_tail ?_ ho hx hd g1 pk nd1 hb1 f1 r1 hled ?_
      · intro b s₁ Q' q
        cases b
        · exact wpAny_pure q
        · exact wpAny_rule q
      · intro h' sb r
        dsimp only
        exact wpAny_pure (fin _ h' sb r)
end
end DL

/-! The data layer, part 36: set(xs) of texts, its order, its length. -/
namespace DL
variable {Z : Zx}
open PySem PySem.Spec PyProof.Rows L2
open Evl (Ex)
/-- each once -/
def dd : List Str → List Str → List Str
  | acc, [] => acc
  | acc, k :: r => dd (if k ∈ acc then acc else k :: acc) r
theorem dd_mem : ∀ (r acc : List Str) (k : Str), k ∈ dd acc r ↔ k ∈ acc ∨ k ∈ r
  | [], acc, k => by simp [dd]
  | x :: r, acc, k => by
    rw [dd, dd_mem r]
    by_cases h : x ∈ acc
    · rw [if_pos h, List.mem_cons]
      refine ⟨fun z => z.elim .inl fun z => .inr (.inr z), fun z => z.elim .inl fun z => z.elim (fun e => .inl (e ▸ h)) .inr⟩
    · rw [if_neg h, List.mem_cons, List.mem_cons]
      refine ⟨fun z => z.elim (fun z => z.elim (fun e => .inr (.inl e)) .inl) fun z => .inr (.inr z), fun z => z.elim (fun z => .inl (.inr z)) fun z => z.elim (fun e => .inl (.inl e)) .inr⟩
theorem dd_nodup : ∀ (r acc : List Str), acc.Nodup → (dd acc r).Nodup
  | [], acc, h => h
  | x :: r, acc, h => by
    rw [dd]
    refine dd_nodup r _ ?_
    by_cases c : x ∈ acc
    · rw [if_pos c]; exact h
    · rw [if_neg c]; exact List.nodup_cons.mpr ⟨c, h⟩
theorem dd_len : ∀ (r acc : List Str), (dd acc r).length ≤ acc.length + r.length
  | [], acc => by simp [dd]
  | x :: r, acc => by
    rw [dd]
    have := dd_len r (if x ∈ acc then acc else x :: acc)
    have : (if x ∈ acc then acc else x :: acc).length ≤ acc.length + 1 := by split <;> simp
    simp only [List.length_cons]
    omega
section
variable {P : Program} {w : World} {A : Around} {E : Value → Shared → Prop} {s : Shared}
theorem set_texts {I : Addr} {fp wr : List Addr} {G : Array GenState → Array GenState → Prop} {n : Nat} {Pv : Nat → Value → Prop} {St : Nat → Shared → Prop} {R : Result → Shared → Prop}
    (W : WalksS P w A.in1 I fp wr G n Pv St) (D : Addr) (hD : D ∉ fp) (xs : List Str) (hn : n = xs.length) (hb : xs.length + 1 < scanBound) (hv : ∀ i v, Pv i v → ∃ k t, xs[i]? = some k ∧ v = .str k t) :
    ∀ (m i : Nat) (acc : List Str) (s : Shared), n - i = m → i ≤ n → acc.length ≤ i → St i s → SetS w s.heap D acc →
      (∀ s', Moved (D :: wr) G s s' → SetS w s'.heap D (dd acc (xs.drop i)) → R (.ok (.ret .none)) s') →
      codeAny (model P w) A (.builtin "set.update.loop" ⟨[.ref D, .ref I], []⟩) R s := by
  have hw : D ∉ wr := fun z => hD (W.sub _ z)
  have sub : ∀ b ∈ wr, b ∈ D :: wr := fun b hb => List.mem_cons_of_mem _ hb
  intro m
  induction m with
  | zero =>
    intro i acc s hm hi _ hst hS hR
    obtain rfl : i = n := by omega
    refine codeAny_builtin F.entry_set_update_loop ?_
    rw [(Around.under_plainId F.plain_set_update_loop _)]
    show wpAny _ A.in1 ((pyNext (.ref I)) >>= _) _ _ s
    refine wpAny_bind (W.done s _ _ hst fun s' mv => ?_)
    show wpAny _ A.in1 (ret .none) _ _ s'
    rw [hn, List.drop_length] at hR
    exact wpAny_pure (hR s' (mv.mono sub) (hS.at fun o e => mv.heap D o hw e))
  | succ m ih =>
    intro i acc s hm hi ha hst hS hR
    have lt : i < n := by omega
    refine codeAny_builtin F.entry_set_update_loop ?_
    rw [(Around.under_plainId F.plain_set_update_loop _)]
    show wpAny _ A.in1 ((pyNext (.ref I)) >>= _) _ _ s
    refine wpAny_bind (W.item i s _ _ lt hst fun v s' hP st2 mv => ?_)
    obtain ⟨z, t, hz, rfl⟩ := hv i v hP
    have hS' : SetS w s'.heap D acc := hS.at fun o e => mv.heap D o hw e
    show wpAny _ A.in1 (holding [Value.str z t] (setAdd D (.str z t)) >>= _) _ _ s'
    refine wpAny_bind (wpAny_holding ?_)
    (unfold setAdd; refine wpAny_holding ?_)
    have hkey : (strKind P w).is z (.str z t) = true := (goodS_is (P := P) (w := w) (e := (hashStr w z, .str z t)) ⟨z, t, rfl, rfl⟩ z).mpr rfl
    refine wpAny_bind ((strKind P w).pyHash (k := z) hkey ?_)
    refine setS_add (s := { s' with toks := s'.toks + 1 }) hS' (by omega) fun h' b sb hS2 => ?_
    have hdr : xs.drop i = z :: xs.drop (i + 1) := by
      obtain ⟨q1, q2⟩ := List.getElem?_eq_some_iff.mp hz
      rw [List.drop_eq_getElem_cons q1, q2]
    rw [hdr, dd] at hR
    have ha2 : (if z ∈ acc then acc else z :: acc).length ≤ i + 1 := by
      split
      · omega
      · rw [List.length_cons]; omega
    refine wpAny_pure ⟨plainId_quiet F.plain_set_update_loop _, ih (i + 1) _ _ (by omega) lt ha2 (W.frame _ s' _ _ st2 (Nat.le_succ _) fun b hb o e => ?_) hS2 fun s'' m2 hS3 => ?_⟩
    · rw [sb.2 b (fun z : b = D => hD (by rw [← z]; exact hb))]; exact e
    · refine hR s'' (Moved.trans W.gtrans ((mv.mono sub).then_heap (Nat.le_succ _) fun b o hb e => ?_) m2) hS3
      rw [sb.2 b (fun z : b = D => hb (by rw [z]; exact List.mem_cons_self))]; exact e
theorem setS_new {h : Heap} {a : Addr} (ho : h.get? a = some (nset w)) : SetS w h a [] :=
  ⟨_, #[], 0, _, ho, ⟨rfl, rfl, rfl⟩, rfl, (fun e he => by simp at he), .nil, List.nodup_nil, (by decide), (by rfl), List.Pairwise.nil, by
    show _ ∨ (!w.params.followText "set-order") = true
    cases w.params.followText "set-order"
    · exact .inr rfl
    · exact .inl rfl⟩
theorem setS_fill {S l : Addr} {its : List Value} {xs : List Str} {R : Value → Shared → Prop} (hh : A.handled = none) (hS : s.heap.get? S = some (nset w)) (hl : s.heap.IsList l its.toArray) (hi : StrsAre its xs) (hb : xs.length + 1 < scanBound) (hne : l ≠ S)
    (h : ∀ (h' : Heap) (tk : Nat), SetS w h' S (dd [] xs) → (∀ b o, b ≠ S → s.heap.get? b = some o → h'.get? b = some o) → R .none { s with heap := h', toks := tk }) :
    codeAny (model P w) A (.call (.builtin "set.__init__") ⟨[.ref S, .ref l], []⟩) (wants R E) s := by
  have ty : s.TypeIs (.ref S) "set" := ⟨_, hS, rfl⟩
  have lenI : its.length = xs.length := hi.length
  have ltS : S < s.heap.objs.size := Heap.lt_size hS
  refine codeAny_call_builtin F.called_set.init.plain F.entry_set_init (check_set_init_1 ty ?_)
  obtain ⟨lo, elo, elc, ln, eld⟩ := id hl
  have ltl : l < s.heap.objs.size := Heap.lt_size elo
  obtain ⟨c0, d0, dt0, sl0⟩ := lo
  dsimp only at elc eld
  subst elc eld
  have n1 := F.sub_list_set
  have n2 := F.sub_list_frozenset
  have n3 : (Value.type "list" == Value.type "dict") = false := by decide
  unfold Builtin.«set.__init__» noKeywords Builtin.Frozenset.updateFrom
  generalize eP : pyIter = PI
  wp_walk
  subst eP
  refine wpAny_pyIter_list hl (wpAny_bind (wpAny_runValue ?_))
  have h3 : A.in1.in1.handled = none := by simp [hh]
  have nI : l ≠ s.heap.objs.size := Nat.ne_of_lt ltl
  have nf : S ∉ [s.heap.objs.size, l] := by
    simp only [List.mem_cons, List.not_mem_nil, or_false, not_or]
    exact ⟨Nat.ne_of_lt ltS, Ne.symm hne⟩
  have vals : ∀ (i : Nat) (v : Value), its.toArray[i]? = some v → ∃ k t, xs[i]? = some k ∧ v = .str k t := fun i v hv => by
    have hv2 : its[i]? = some v := by simpa using hv
    obtain ⟨t, e⟩ := SS.strs_at hi i v hv2
    have hil : i < xs.length := by rw [← lenI]; exact (List.getElem?_eq_some_iff.mp hv2).1
    exact ⟨xs[i], t, List.getElem?_eq_getElem hil, by rw [e, List.getD_eq_getElem?_getD, List.getElem?_eq_getElem hil] <;> rfl⟩
  refine set_texts ((Walks.list h3 _ l nI its.toArray).toS) S nf xs (by simpa using lenI) hb vals (its.toArray.size - 0) 0 [] _ (by omega) (Nat.zero_le _) (by simp) ⟨⟨_, Heap.get?_push_size _ rfl, rfl, rfl⟩, (hl.push _)⟩ (setS_new (Heap.get?_push_of_some _ hS)) ?_
  intro s' hm hR
  obtain ⟨h', g2, d', tk', os'⟩ := s'
  have e1 : g2 = s.gens := hm.gens
  have e2 : d' = s.drawn := hm.drawn
  have e3 : os' = s.os := hm.os
  subst e1 e2 e3
  refine wpAny_pure (wpAny_pure ?_)
  refine h h' tk' hR fun b o nb e => ?_
  exact hm.heap b o (by simp only [List.mem_cons, List.not_mem_nil, or_false, not_or]; exact ⟨nb, Nat.ne_of_lt (Heap.lt_size e)⟩) (Heap.get?_push_of_some _ e)
/-- set(xs) -/
theorem call_set_texts {l : Addr} {its : List Value} {xs : List Str} {Q : Value → Shared → Prop} (hh : A.handled = none) (hl : s.heap.IsList l its.toArray) (hi : StrsAre its xs) (hb : xs.length + 1 < scanBound)
    (h : ∀ (h' : Heap) (tk : Nat), SetS w h' s.heap.objs.size (dd [] xs) → (∀ b o, s.heap.get? b = some o → h'.get? b = some o) → Q (.ref s.heap.objs.size) { s with heap := h', toks := tk }) :
    wpAny (model P w) A (call (.type "set") [.ref l]) Q E s := by
  have ll : l < s.heap.objs.size := by obtain ⟨_, e, _⟩ := id hl; exact Heap.lt_size e
  obtain ⟨mc, mt, q1⟩ := F.called_set.mro
  have q2 := F.called_set.made
  have q3 := F.called_set.sub
  have q4 := F.called_set.notType
  have q5 := F.called_set.canCreate
  have q6 := F.typeCall_set_1 (.ref l)
  apply wpAny_call
  apply codeAny_of_tree
  show wpAny _ _ (callAny (.type "set") _) _ _ _
  apply wpAny_pure
  refine ⟨Code.quiet_builtin _ (by decide +kernel), codeAny_builtin F.entry_type_call ?_⟩
  rw [show A.under _ = _ from Around.under_plain (weight_type_call_type "set" [.ref l] []) rfl]
  repeat any_goals first | assumption | wp_step
  refine codeAny_mono (code_set_led1 (.ref l) (E := E) (Q₁ := fun o z => o = .ref s.heap.objs.size ∧ z = { s with heap := s.heap.push (nset w) }) ⟨rfl, rfl⟩) fun r z hr => ?_
  match r, hr with
  | .error e, hr => exact hr
  | .ok (.ret o), hr =>
    obtain ⟨rfl, rfl⟩ := hr
    have w1 := F.called_set.init.lookup
    have w2 := F.called_set.init.bind (.ref s.heap.objs.size)
    have w3 : Shared.TypeIs { s with heap := s.heap.push (nset w) } (.ref s.heap.objs.size) "set" := ⟨_, Heap.get?_push_size _ rfl, rfl⟩
    repeat any_goals first | assumption | wp_step
    refine codeAny_mono (setS_fill (E := E) (R := fun r z => r = .none ∧ ∃ h' tk, z = { s with heap := h', toks := tk } ∧ SetS w h' s.heap.objs.size (dd [] xs) ∧ ∀ b o, s.heap.get? b = some o → h'.get? b = some o) (by simp [hh]) (Heap.get?_push_size _ rfl) (hl.push _) hi hb (Nat.ne_of_lt ll) fun h' tk a1 a3 => ⟨rfl, h', tk, rfl, a1, fun b o e => a3 b o (Nat.ne_of_lt (Heap.lt_size e)) (Heap.get?_push_of_some _ e)⟩) fun r2 z2 hz => ?_
    match r2, hz with
    | .error e, hz => exact hz
    | .ok (.ret u), hz =>
      obtain ⟨rfl, h', tk, rfl, a1, a3⟩ := hz
      repeat any_goals first | assumption | wp_step
      exact h _ _ a1 a3
    | .ok .next, hz => exact hz.elim
    | .ok .brk, hz => exact hz.elim
    | .ok .cont, hz => exact hz.elim
  | .ok .next, hr => exact hr.elim
  | .ok .brk, hr => exact hr.elim
  | .ok .cont, hr => exact hr.elim
/-- sorted(a set of texts) -/
theorem sorted_setS {a : Addr} {ys : List Str} {Q : Value → Shared → Prop} (R : SetS w s.heap a ys) (hh : A.handled = none) (h64 : ys.length < 64)
    (hQ : ∀ s' p (out : Array Value) (c : Nat) (zs : List Str), (∀ b o, s.heap.get? b = some o → s'.heap.get? b = some o) → s'.gens = s.gens → s'.os = s.os → s.heap.objs.size ≤ p →
      s'.heap.get? p = some (seqObj "list" out c) → StrsAre out.toList zs → zs.Perm ys → sortedS zs = true → Q (.ref p) s') :
    wpAny (model P w) A (call (.builtin "sorted") [.ref a]) Q E s := by
  obtain ⟨ob, es, ep, tb, ho, hx, hd, g, pm, nd, hb, hf, hr, hl⟩ := R
  refine Calls.call_function_entry kind_sorted plain_sorted entry_sorted (args_sorted1 _) ?_
  (unfold Builtin.«sorted»; refine wpAny_bind (m := checkCount "sorted" 1 1 _) (wpAny_pure ?_))
  refine wpAny_bind (collect_set (A := A.in1) hh ⟨ob, ho, hx.1, hd⟩ hf hb hr hl fun s1 vs k1 hz g1 o1 p1 => ?_)
  have vl : vs.length = ys.length := by rw [p1.length_eq, List.length_map, ← pm.length_eq, List.length_map]
  have hI : ∃ us, StrsAre vs us ∧ us.Perm ys := by
    have go : ∀ l : List Value, (∀ v ∈ l, ∃ k t, v = Value.str k t) → ∃ us, StrsAre l us ∧ us = l.map fun v => match v with | .str k _ => k | _ => Str.empty := fun l => by
      induction l with
      | nil => exact fun _ => ⟨[], .nil, rfl⟩
      | cons v l ih =>
        intro hv
        obtain ⟨k, t, rfl⟩ := hv _ List.mem_cons_self
        obtain ⟨us, e1, e2⟩ := ih fun u hu => hv u (List.mem_cons_of_mem _ hu)
        exact ⟨k :: us, .cons k t e1, by rw [List.map_cons, e2]⟩
    obtain ⟨us, e1, e2⟩ := go vs fun v hv => by
      obtain ⟨e, he, q⟩ := List.mem_map.mp (p1.mem_iff.mp hv)
      obtain ⟨k, t, h1, _⟩ := g e he
      exact ⟨k, t, by rw [← q]; exact h1⟩
    refine ⟨us, e1, ?_⟩
    rw [e2]
    refine (p1.map _).trans ?_
    rw [List.map_map]
    exact pm
  obtain ⟨us, hI, hp⟩ := hI
  refine wpAny_bind (wpAny_newList ?_ (by rw [vl, sizeLine_eq]; omega))
  have hoL : (s1.heap.push (seqObj "list" vs.toArray 0)).get? s1.heap.objs.size = some (seqObj "list" vs.toArray 0) := Heap.get?_push_size _ rfl
  refine wpAny_bind (wpAny_holding (wpAny_call_entry slot_list_sort ⟨_, hoL, rfl⟩ entry_list_sort (list_sort_treeK strKind_oneLt hoL hI.keysOf (fun v₁ v₂ rest e => keyKind_strs (by rw [← e]; exact hI)) (by rw [vl]; exact h64) fun st' q1 q2 => ⟨_, rfl, ?_⟩) (args_list_sort _)))
  obtain ⟨zs, r1, r2, r3⟩ := sorted_out_str hI q1 q2
  obtain ⟨c, hc⟩ := sortedHeap_at (vs := vs) (out := (arrOf st').map (·.2)) hoL
  refine wpAny_pure ⟨_, rfl, hQ _ s1.heap.objs.size _ c zs (fun b u e => ?_) g1 o1 hz hc r1 (r2.trans hp) r3⟩
  have q := k1 b u e
  have lt := Heap.lt_size q
  show (sortedHeap (s1.heap.push (seqObj "list" vs.toArray 0)) s1.heap.objs.size vs _).get? b = some u
  rw [sortedHeap_old (Nat.ne_of_lt lt) (by rw [size_push']; exact Nat.lt_succ_of_lt lt)]
  exact Heap.get?_push_of_some _ q
end
end DL

/-! The data layer, part 37: sorted(set(xs)), len(set(xs)) as data, xs of whole numbers or of texts. -/
namespace DL
variable {Z : Zx}
open PySem PySem.Spec PyProof.Rows L2
open Evl (Ex)
/-! ### the order of texts -/
theorem strLt_eq {a b : Str} : strLt a b = decide (a.cps.toList < b.cps.toList) := by unfold strLt; rfl
theorem strLt_trans {a b c : Str} (h : strLt a b = true) (h' : strLt b c = true) : strLt a c = true := by
  rw [strLt_eq, decide_eq_true_eq] at h h' ⊢
  exact List.lt_trans h h'
theorem strLt_irr {a : Str} : strLt a a = false := by
  rw [strLt_eq, decide_eq_false_iff_not]
  exact List.lt_irrefl _
theorem str_ext {a b : Str} (h : a.cps.toList = b.cps.toList) : a = b := by
  cases a with
  | mk u =>
    cases b with
    | mk v =>
      congr
      exact Array.toList_inj.mp h
theorem strLt_or {a b : Str} (h : strLt b a = false) (ne : a ≠ b) : strLt a b = true := by
  rw [strLt_eq, decide_eq_false_iff_not] at h
  rw [strLt_eq, decide_eq_true_eq]
  rcases List.le_iff_lt_or_eq.mp (List.not_lt.mp h) with z | z
  · exact z
  · exact absurd (str_ext z) ne
theorem rising_strict : ∀ (l : List Str) (p : Str), risingS p l = true → (p :: l).Nodup → (∀ x ∈ l, strLt p x = true) ∧ l.Pairwise fun a b => strLt a b = true
  | [], _, _, _ => ⟨by simp, List.Pairwise.nil⟩
  | x :: r, p, h, nd => by
    have h : (!ltCps x.cps.toList p.cps.toList && risingS x r) = true := h
    rw [Bool.and_eq_true] at h
    obtain ⟨n1, n2⟩ := List.nodup_cons.mp nd
    obtain ⟨i1, i2⟩ := rising_strict r x h.2 n2
    have hp : strLt p x = true := strLt_or (by
      rw [strLt_eq, ← ltCps_eq]
      simpa using h.1) fun e => n1 (by rw [e]; exact List.mem_cons_self)
    refine ⟨fun y hy => ?_, List.pairwise_cons.mpr ⟨i1, i2⟩⟩
    rcases List.mem_cons.mp hy with rfl | hy
    · exact hp
    · exact strLt_trans hp (i1 y hy)
theorem sorted_strict : ∀ l : List Str, sortedS l = true → l.Nodup → l.Pairwise fun a b => strLt a b = true
  | [], _, _ => List.Pairwise.nil
  | x :: r, h, nd => by
    obtain ⟨h1, h2⟩ := rising_strict r x h nd
    exact List.pairwise_cons.mpr ⟨h1, h2⟩
/-! ### the calls -/
def SetSO (w : World) (a : Addr) (ys : List Str) : HO := .ext fun h => SetS w h a ys
theorem setSO_new {w : World} {P : Program} {H : Hp} {h : Heap} {a : Addr} {ys : List Str} (R : SetS w h a ys) : ObjOk P w H h a (SetSO w a ys) := by
  obtain ⟨o, es, ep, t, ho, r⟩ := id R
  exact ⟨R, ⟨o, ho⟩, fun _ _ r' k => r'.at k⟩
theorem callR_or {X : Cx} {f : Value} {r r' : List V → Hp → VK → Prop} (h : CallR X f r) (h' : CallR X f r') : CallR X f (fun xs H Q => r xs H Q ∨ r' xs H Q) := by
  intro pins s σ H xs us Q I rv z
  rcases z with z | z
  · exact h pins s σ H xs us Q I rv z
  · exact h' pins s σ H xs us Q I rv z
section
variable {X : Cx}
def rSetS (w : World) (K : PySem.W.Frag) : List V → Hp → VK → Prop := fun xs H Q => ∃ (l : Addr) (ns : List Str), xs = [V.ref l] ∧ SqL K H l (ns.map V.str) ∧ ns.length + 1 < scanBound ∧ ∀ p, H p = none → Q (.ref p) (upd H p (SetSO w p (dd [] ns)))
theorem call_setS (hc : X.calm = true) : CallR X (.type "set") (rSetS X.w X.K) := by
  intro pins s σ H xs us Q I r h
  obtain ⟨l, ns, rfl, hl, hb, q⟩ := h
  rw [Vals.ref1 r]
  obtain ⟨its, rv, pl, hz⟩ := I.list hl
  refine call_set_texts (I.ok.hd hc) pl.isList rv.strs hb fun h' tk R k => ?_
  exact ⟨.ref s.heap.objs.size, upd H s.heap.objs.size (SetSO X.w s.heap.objs.size (dd [] ns)), I.laid (t' := tk) k (Nat.le_refl _) (setSO_new R), rfl, q _ (I.hok.fresh (Nat.le_refl _))⟩
def rSortedSS (w : World) : List V → Hp → VK → Prop := fun vs H Q => ∃ (a : Addr) (ys : List Str), vs = [V.ref a] ∧ H a = some (SetSO w a ys) ∧ ys.length < 64 ∧
  ∀ (zs : List Str) (p : Addr), zs.Perm ys → sortedS zs = true → H p = none → Q (.ref p) (upd H p (.lst (zs.map V.str)))
theorem cr_sortedSS (hc : X.calm = true) : CallR X (.builtin "sorted") (rSortedSS X.w) := by
  intro pins s σ H vs us Q I r h
  obtain ⟨a, ys, rfl, ha, h64, q⟩ := h
  rw [Vals.ref1 r]
  have R : SetS X.w s.heap a ys := (I.hok a _ ha).1
  refine sorted_setS R (I.ok.hd hc) h64 fun s' p out c zs k g o hp hpo hi pm so => ?_
  have hlen : (zs.map V.str).length ≤ sizeLine := by rw [List.length_map, pm.length_eq]; exact small64 h64
  have hn := I.hok.fresh hp
  refine ⟨.ref p, upd H p (.lst (zs.map V.str)), I.call' (ch := []) o (Un.laid k hp hn) ?_ ?_ ?_, rfl, q zs p pm so hn⟩
  · exact I.hok.laid k hp ⟨hlen, out.toList, c, vals_of_strs hi, hpo⟩
  · rw [g]; exact I.bare
  · intro _ z; exact nomatch z
end
/-! ### the word -/
/-- the members once each, rising: of whole numbers, or of texts -/
def sortSetT (d : PyData) (K : List PyData → Prop) : Prop := match d with
  | .list ds => match intsD ds with
    | some ns => ns.length < 63 ∧ ∀ ms : List Int, ms.Pairwise (· < ·) → (∀ k, k ∈ ms ↔ k ∈ ns) → K (ms.map .int)
    | none => match strsD ds with
      | some ts => ts.length < 63 ∧ ∀ ms : List Str, ms.Pairwise (fun a b => strLt a b = true) → (∀ k, k ∈ ms ↔ k ∈ ts) → K (ms.map .str)
      | none => False
  | _ => False
theorem drs_strs {K : PySem.W.Frag} {F : Hp} : ∀ ns : List Str, DRs K F (ns.map V.str) (ns.map PyData.str)
  | [] => .nil
  | n :: ns => .cons (.str n) (drs_strs ns)
theorem strs_map : ∀ ns : List Str, strsD (ns.map .str) = some ns
  | [] => rfl
  | n :: ns => by simp [strsD, strs_map ns]
def dSortSetT (wa : DE) (env : List SD) (P : SD → List SD → Prop) : Prop := wa env fun d env1 => sortSetT d fun xs => P (.cel false xs) env1
section
variable {X : Cx} {a : Expr} {wa : DE} {p p2 pos pos2 : Pos}
theorem dsortSetT (hc : X.calm = true) (hm : X.mg "sorted" = none) (hm2 : X.mg "set" = none) (ha : PE X a (liftE X.K Z wa)) (hg : Gl X "sorted" := by rfl) (hg2 : Gl X "set" := by rfl)
    (n1 : starEach [a] X.env = (false, eval a X.env) :: starEach [] X.env := by rfl)
    (n2 : starEach [.Call (.Name "set" p2) [a] [] pos2] X.env = (false, eval (.Call (.Name "set" p2) [a] [] pos2) X.env) :: starEach [] X.env := by rfl) :
    PE X (.Call (.Name "sorted" p) [.Call (.Name "set" p2) [a] [] pos2] [] pos) (liftX X.K Z (dSortSetT wa)) :=
  PE.of (pe_callB (callR_or (cr_sortedSet hc) (cr_sortedSS hc)) hg hm (by decide +kernel) (pa_cons (pe_callTy (callR_or (call_setI hc) (call_setS hc)) hg2 hm2 (by decide +kernel) (pa_cons ha pa_nil n1) (by decide) (by decide) n1 (by rfl)) pa_nil n2) (by decide) (by decide) n2 (by rfl)) fun σ H Q ⟨g, F, env, P, k, w, q⟩ =>
    ⟨g, F, env, _, k, w, fun d env1 v F1 H1 p e1 k1 r1 => by
      unfold sortSetT at p
      split at p
      · rename_i ds
        split at p
        · rename_i ns e
          obtain ⟨l, us, rfl, h1, h2⟩ := r1.inv_lst
          cases ints_rel h2 e
          have sb : ns.length + 1 < scanBound := by unfold scanBound; have := p.1; omega
          refine .inl ⟨l, ns, rfl, (h1.mono k1.fh).sq, sb, fun a1 c hp1 hc1 => ?_⟩
          refine .inl ⟨a1, _, c, rfl, upd_same, by have := p.1; omega, fun ms a2 s1 s2 s3 hp2 => ?_⟩
          obtain ⟨k3, r3⟩ := (k1.extra (o := SetO X.w a1 (fun j => decide (j ∈ ns)) c) hp1).newCell hp2 (drs_ints ms)
          exact q _ env1 _ F1 _ (p.2 ms s1 fun z => (s2 z).trans decide_eq_true_iff) e1 k3 r3
        · split at p
          · rename_i ns e
            obtain ⟨l, us, rfl, h1, h2⟩ := r1.inv_lst
            cases strs_rel h2 e
            have sb : ns.length + 1 < scanBound := by unfold scanBound; have := p.1; omega
            refine .inr ⟨l, ns, rfl, (h1.mono k1.fh).sq, sb, fun a1 hp1 => ?_⟩
            have hl := dd_len ns []
            refine .inr ⟨a1, _, rfl, upd_same, by have := p.1; simp only [List.length_nil] at hl; omega, fun ms a2 pm so hp2 => ?_⟩
            obtain ⟨k3, r3⟩ := (k1.extra (o := SetSO X.w a1 (dd [] ns)) hp1).newCell hp2 (drs_strs ms)
            refine q _ env1 _ F1 _ (p.2 ms (sorted_strict ms so (pm.nodup_iff.mpr (dd_nodup ns [] List.nodup_nil))) fun z => ?_) e1 k3 r3
            rw [pm.mem_iff, dd_mem]
            simp
          · exact p.elim
      · exact p.elim⟩
end
theorem q_sortSetTI {ns : List Int} {K : List PyData → Prop} : sortSetT (.list (ns.map .int)) K = (ns.length < 63 ∧ ∀ ms : List Int, ms.Pairwise (· < ·) → (∀ k, k ∈ ms ↔ k ∈ ns) → K (ms.map .int)) := by
  unfold sortSetT
  dsimp only
  rw [ints_map]
theorem q_sortSetTS {n : Str} {ns : List Str} {K : List PyData → Prop} : sortSetT (.list (.str n :: ns.map .str)) K = ((n :: ns).length < 63 ∧ ∀ ms : List Str, ms.Pairwise (fun a b => strLt a b = true) → (∀ k, k ∈ ms ↔ k ∈ n :: ns) → K (ms.map .str)) := by
  have h : strsD (.str n :: ns.map .str) = some (n :: ns) := strs_map (n :: ns)
  unfold sortSetT
  dsimp only
  rw [show intsD (.str n :: ns.map .str) = none from rfl, h]
/-- rising rows of texts with the same members are one -/
theorem riseS_uniq : ∀ {l m : List Str}, l.Pairwise (fun a b => strLt a b = true) → m.Pairwise (fun a b => strLt a b = true) → (∀ k, k ∈ l ↔ k ∈ m) → l = m
  | [], [], _, _, _ => rfl
  | [], b :: m, _, _, h => by have := (h b).mpr (List.mem_cons_self ..); simp at this
  | a :: l, [], _, _, h => by have := (h a).mp (List.mem_cons_self ..); simp at this
  | a :: l, b :: m, hl, hm, h => by
    obtain ⟨l1, l2⟩ := List.pairwise_cons.mp hl
    obtain ⟨m1, m2⟩ := List.pairwise_cons.mp hm
    have asy : ∀ {x y : Str}, strLt x y = true → strLt y x = true → False := fun p q => by
      have := strLt_trans p q
      rw [strLt_irr] at this
      exact nomatch this
    have irr : ∀ {x : Str}, strLt x x = true → False := fun p => by rw [strLt_irr] at p; exact nomatch p
    have e : a = b := by
      rcases List.mem_cons.mp ((h a).mp (List.mem_cons_self ..)) with z | z
      · exact z
      · rcases List.mem_cons.mp ((h b).mpr (List.mem_cons_self ..)) with y | y
        · exact y.symm
        · exact (asy (m1 a z) (l1 b y)).elim
    subst e
    congr 1
    refine riseS_uniq l2 m2 fun k => ⟨fun z => ?_, fun z => ?_⟩
    · rcases List.mem_cons.mp ((h k).mp (List.mem_cons_of_mem _ z)) with y | y
      · exact (irr (y ▸ l1 k z)).elim
      · exact y
    · rcases List.mem_cons.mp ((h k).mpr (List.mem_cons_of_mem _ z)) with y | y
      · exact (irr (y ▸ m1 k z)).elim
      · exact y
end DL

/-! The data layer, part 38: << and >> of whole numbers; sets of texts measured. -/
namespace DL
variable {Z : Zx}
open PySem PySem.Spec PyProof.Rows L2
open Evl (Ex)
section
variable {X : Cx} {a b e : Expr} {we wa wb : DE} {pos : Pos}
abbrev oShl : D2 := oIc (fun i j => 0 ≤ j ∧ j ≤ 1000000 ∧ i.natAbs < 2 ^ 64) fun i j => .int (i * 2 ^ j.toNat)
abbrev oShr : D2 := oIc (fun _ j => 0 ≤ j) fun i j => .int (i / 2 ^ j.toNat)
theorem dshl (ha : PE X a (liftE X.K Z wa)) (hb : PE X b (liftE X.K Z wb)) : PE X (.BinOp a .LShift b pos) (liftE X.K Z (dOp oShl wa wb)) := dop op_shl (opd_I (fun _ _ h => h) fun _ _ _ => .int _) ha hb
theorem dshr (ha : PE X a (liftE X.K Z wa)) (hb : PE X b (liftE X.K Z wb)) : PE X (.BinOp a .RShift b pos) (liftE X.K Z (dOp oShr wa wb)) := dop op_shr (opd_I (fun _ _ h => h) fun _ _ _ => .int _) ha hb
theorem q_shl {i j : Int} {P : PyData → Prop} : oShl (.int i) (.int j) P = ((0 ≤ j ∧ j ≤ 1000000 ∧ i.natAbs < 2 ^ 64) ∧ P (.int (i * 2 ^ j.toNat))) := rfl
theorem q_shr {i j : Int} {P : PyData → Prop} : oShr (.int i) (.int j) P = (0 ≤ j ∧ P (.int (i / 2 ^ j.toNat))) := rfl
end
end DL

/-! The data layer, part 39: len(set(texts)). -/
namespace DL
variable {Z : Zx}
open PySem PySem.Spec PyProof.Rows L2
open Evl (Ex)
section
variable {X : Cx} {a b e : Expr} {we wa wb : DE} {pos p p2 pos2 : Pos}
def rLenSS (w : World) : List V → Hp → VK → Prop := fun vs H Q => ∃ (a : Addr) (ys : List Str), vs = [V.ref a] ∧ H a = some (SetSO w a ys) ∧ Q (.int (ys.length : Nat)) H
theorem cr_lenSS : CallR X (.builtin "len") (rLenSS X.w) := by
  intro pins s σ H vs us Q I r h
  obtain ⟨a, ys, rfl, ha, q⟩ := h
  rw [Vals.ref1 r]
  have R : SetS X.w s.heap a ys := (I.hok a _ ha).1
  have hs := R.size
  obtain ⟨o, es, ep, t, ho, hex, hd, hg, pm, nd, hb, hf, _⟩ := R
  have el : es.size = ys.length := by rw [← pm.length_eq, List.length_map, Array.length_toList]
  have sb : scanBound = 4096 := rfl
  refine call_len_set ho hex hd hf (by rw [el]; omega) ⟨.int (ys.length : Nat), H, I.tok _, ⟨_, by rw [el]⟩, q⟩
def lenSetQ (d : PyData) (K : PyData → Prop) : Prop := match d with
  | .list ds => match strsD ds with
    | some ts => ts.length < 4000 ∧ K (.int ((dd [] ts).length : Nat))
    | none => False
  | _ => False
def dLenSet (wa : DE) (env : List SD) (P : PyData → List SD → Prop) : Prop := wa env fun d env1 => lenSetQ d fun x => P x env1
theorem dlenSet (hc : X.calm = true) (hm : X.mg "len" = none) (hm2 : X.mg "set" = none) (ha : PE X a (liftE X.K Z wa)) (hg : Gl X "len" := by rfl) (hg2 : Gl X "set" := by rfl)
    (n1 : starEach [a] X.env = (false, eval a X.env) :: starEach [] X.env := by rfl)
    (n2 : starEach [.Call (.Name "set" p2) [a] [] pos2] X.env = (false, eval (.Call (.Name "set" p2) [a] [] pos2) X.env) :: starEach [] X.env := by rfl) :
    PE X (.Call (.Name "len" p) [.Call (.Name "set" p2) [a] [] pos2] [] pos) (liftE X.K Z (dLenSet wa)) :=
  PE.of (pe_callB cr_lenSS hg hm (by decide +kernel) (pa_cons (pe_callTy (call_setS hc) hg2 hm2 (by decide +kernel) (pa_cons ha pa_nil n1) (by decide) (by decide) n1 (by rfl)) pa_nil n2) (by decide) (by decide) n2 (by rfl)) fun σ H Q ⟨g, F, env, P, k, w, q⟩ =>
    ⟨g, F, env, _, k, w, fun d env1 v F1 H1 p e1 k1 r1 => by
      unfold lenSetQ at p
      split at p
      · rename_i ds
        split at p
        · rename_i ns e
          obtain ⟨l, us, rfl, h1, h2⟩ := r1.inv_lst
          cases strs_rel h2 e
          have sb : ns.length + 1 < scanBound := by unfold scanBound; have := p.1; omega
          refine ⟨l, ns, rfl, (h1.mono k1.fh).sq, sb, fun a1 hp1 => ?_⟩
          exact ⟨a1, _, rfl, upd_same, q _ env1 _ F1 _ p.2 e1 (k1.extra (o := SetSO X.w a1 (dd [] ns)) hp1) (.int _)⟩
        · exact p.elim
      · exact p.elim⟩
end
/-! ### a text, once or not at all -/
def oMulS (x y : PyData) (P : PyData → Prop) : Prop := match x, y with
  | .str i, .int k => (0 ≤ k ∧ k ≤ 1) ∧ P (.str (if k < 1 then Str.empty else i))
  | _, _ => False
def rMulS : R2 := fun x y H Q => ∃ i k, x = .str i ∧ y = .int k ∧ (0 ≤ k ∧ k ≤ 1) ∧ Q (.str (if k < 1 then Str.empty else i)) H
theorem op_mulS {X : Cx} : OpR X (binaryOp .Mult) rMulS := by
  intro pins s σ H x y v u Q I rx ry h
  obtain ⟨i, k, rfl, rfl, ⟨k0, k1⟩, q⟩ := h
  obtain ⟨t, rfl⟩ := rx
  obtain ⟨t', rfl⟩ := ry
  have hk : k = 0 ∨ k = 1 := by omega
  rcases hk with rfl | rfl
  · refine PySem.P.mul_str_none (by decide) (by decide) ?_
    exact ⟨.str Str.empty, H, I.tok _, ⟨_, rfl⟩, q⟩
  · refine PySem.P.mul_str (by decide) (fun _ h => by simp at h) (fun _ h => by simp at h) ?_
    rw [if_neg (by decide), if_pos (by simp)]
    exact ⟨.str i, H, I, ⟨_, rfl⟩, q⟩
theorem opd_mulS {K : PySem.W.Frag} : OpD K rMulS oMulS := by
  intro _ g F env σ H vx vy dx dy P Q k rx ry p q
  unfold oMulS at p
  split at p
  · cases rx.inv_str
    cases ry.inv_int
    exact ⟨_, _, rfl, rfl, p.1, q _ _ F H p.2 (Ex.refl F) k (.str _)⟩
  · exact p.elim
theorem dmulS {X : Cx} {a b : Expr} {wa wb : DE} {pos : Pos} (ha : PE X a (liftE X.K Z wa)) (hb : PE X b (liftE X.K Z wb)) : PE X (.BinOp a .Mult b pos) (liftE X.K Z (dOp oMulS wa wb)) := dop op_mulS opd_mulS ha hb
theorem q_mulS {i : Str} {k : Int} {P : PyData → Prop} : oMulS (.str i) (.int k) P = ((0 ≤ k ∧ k ≤ 1) ∧ P (.str (if k < 1 then Str.empty else i))) := rfl
theorem q_lenSet {ts : List Str} {K : PyData → Prop} : lenSetQ (.list (ts.map .str)) K = (ts.length < 4000 ∧ K (.int ((dd [] ts).length : Nat))) := by
  unfold lenSetQ
  dsimp only
  rw [DL.strs_map]
theorem dd_full : ∀ (r acc : List Str), (acc ++ r).Nodup → (dd acc r).length = acc.length + r.length
  | [], acc, _ => by simp [dd]
  | x :: r, acc, h => by
    have hx : x ∉ acc := fun hx => by
      have := (List.nodup_append.mp h).2.2 x hx x List.mem_cons_self
      exact this rfl
    rw [dd, if_neg hx, dd_full r (x :: acc) (by
      have e : (acc ++ x :: r).Perm (x :: acc ++ r) := List.perm_middle
      exact e.nodup_iff.mp h)]
    simp only [List.length_cons]
    omega
end DL

/-! The data layer, part 40: sorted(xs) of data that are alike. -/
namespace DL
variable {Z : Zx}
open PySem PySem.Spec PyProof.Rows L2
open Evl (Ex)
section
variable {X : Cx}
/-- sorted(xs): the items by their data, like ones in their order -/
def rSortDD (K : PySem.W.Frag) : List V → Hp → VK → Prop := fun vs H Q => ∃ (a : Addr) (xs : List V) (ds : List PyData), vs = [V.ref a] ∧ SqL K H a xs ∧ DpAll K H xs ds ∧ PySem.W.AllAlike ds ∧ PySem.W.Sortable ds ∧ (∀ d ∈ ds, d.depth ≤ 60) ∧
  ∀ (zs : List (V × PyData)) (p : Addr), zs = (xs.zip ds).mergeSort (PySem.W.dataLe false Prod.snd) → H p = none → Q (.ref p) (upd H p (.lst (zs.map Prod.fst)))
theorem zip_snd : ∀ {xs : List V} {ds : List PyData}, xs.length = ds.length → (xs.zip ds).map Prod.snd = ds
  | [], [], _ => rfl
  | x :: xs, d :: ds, h => by
    rw [List.zip_cons_cons, List.map_cons, zip_snd (by simpa using h)]
theorem DpAll.len {K : PySem.W.Frag} {H : Hp} : ∀ {xs : List V} {ds : List PyData}, DpAll K H xs ds → xs.length = ds.length
  | [], [], _ => rfl
  | _ :: _, _ :: _, .cons _ t => by rw [List.length_cons, List.length_cons, DpAll.len t]
theorem each_zip {R : Value → V × PyData → Prop} {h : Heap} : ∀ {its : List Value} {xs : List V} {ds : List PyData} {as : List Addr}, Vals xs its → ReadsAll h its ds as → PySem.W.EachIs (fun v (p : V × PyData) => RelV p.1 v ∧ ∃ as, Reads h v p.2 as) its (xs.zip ds)
  | _, [], ds, _, r, t => by
    cases r
    exact .nil
  | _, x :: xs, [], _, r, t => by
    cases t
    cases r
  | _, x :: xs, d :: ds, _, r, t => by
    cases r with
    | cons r1 r2 =>
      cases t with
      | cons t1 t2 => exact .cons ⟨r1, _, t1⟩ (each_zip (R := R) r2 t2)
theorem vals_each {R : Value → V × PyData → Prop} : ∀ {out : List Value} {zs : List (V × PyData)}, PySem.W.EachIs (fun v (p : V × PyData) => RelV p.1 v) out zs → Vals (zs.map Prod.fst) out
  | _, _, .nil => .nil
  | _, _, .cons a t => .cons a (vals_each (R := R) t)
theorem cr_sortedDD (hu : X.A.units + 65 < cLine) : CallR X (.builtin "sorted") (rSortDD X.K) := by
  intro pins s σ H vs us Q I r h
  obtain ⟨a, xs, ds, rfl, hs, hd, hal, hk, hdep, q⟩ := h
  rw [Vals.ref1 r]
  obtain ⟨its, rv, pl, hz⟩ := I.list hs
  obtain ⟨as, h4⟩ := Dp.readsAll I ds _ its hd rv
  have hlen := DpAll.len hd
  have e := each_zip (R := fun _ _ => True) rv h4
  have es : (xs.zip ds).map Prod.snd = ds := zip_snd hlen
  have lz : (xs.zip ds).length = xs.length := by rw [List.length_zip, hlen, Nat.min_self]
  refine PySem.W.sorted_data (R := fun v (p : V × PyData) => RelV p.1 v) (enc := Prod.snd) (bs := xs.zip ds) pl.isList (e.mono fun _ _ z => z.1) (e.mono fun _ _ z => z.2) (by rw [es]; exact hal) (by rw [es]; exact hk) (by rw [lz]; exact hz) (fun p hp => ?_) fun out hol ho => ?_
  · have : p.2 ∈ ds := by rw [← es]; exact List.mem_map.mpr ⟨p, hp, rfl⟩
    have := hdep _ this
    omega
  · obtain ⟨c, hc⟩ := sortedAll_at s.heap its (List.toArray out)
    have hn := I.hok.fresh (Nat.le_succ s.heap.objs.size)
    refine ⟨.ref (s.heap.objs.size + 1), upd H (s.heap.objs.size + 1) (.lst (((xs.zip ds).mergeSort (PySem.W.dataLe false Prod.snd)).map Prod.fst)), I.laid (t' := s.toks) (fun b u hb => sortedAll_old hb) (Nat.le_succ _) ⟨?_, out, c, vals_each (R := fun _ _ => True) ho, hc⟩, rfl, q _ _ rfl hn⟩
    rw [List.length_map, List.length_mergeSort, lz]
    exact hz
end
/-! ### the word -/
def sortD (ds : List PyData) : List PyData := ds.mergeSort (PySem.W.dataLe false id)
def sortOk (ds : List PyData) : Prop := PySem.W.AllAlike ds ∧ PySem.W.Sortable ds ∧ (∀ d ∈ ds, d.depth ≤ 60) ∧ PyData.hasDictAll ds = false
def sortedQ (d : PyData) (K : List PyData → Prop) : Prop := match d with
  | .list ds => sortOk ds ∧ K (sortD ds)
  | _ => False
theorem q_sorted {ds : List PyData} {K : List PyData → Prop} : sortedQ (.list ds) K = (sortOk ds ∧ K (sortD ds)) := rfl
theorem sortD_perm (ds : List PyData) : (sortD ds).Perm ds := List.mergeSort_perm _ _
theorem sortD_pair (ds : List PyData) : (sortD ds).Pairwise fun a b => PySem.W.dataLe false id a b = true := PySem.W.sort_pairwise (PySem.W.sortLe_total _ _ _) ds
theorem drs_zip {K : PySem.W.Frag} {F : Hp} : ∀ {xs : List V} {ds : List PyData}, DRs K F xs ds → ∀ p ∈ xs.zip ds, DR K F p.1 p.2
  | [], _, _, p, h => by simp at h
  | x :: xs, [], r, p, h => by simp at h
  | x :: xs, d :: ds, r, p, h => by
    cases r with
    | cons a b =>
      rw [List.zip_cons_cons] at h
      rcases List.mem_cons.mp h with rfl | h
      · exact a
      · exact drs_zip b p h
theorem drs_of {K : PySem.W.Frag} {F : Hp} : ∀ {zs : List (V × PyData)}, (∀ p ∈ zs, DR K F p.1 p.2) → DRs K F (zs.map Prod.fst) (zs.map Prod.snd)
  | [], _ => .nil
  | z :: zs, h => .cons (h z List.mem_cons_self) (drs_of fun p hp => h p (List.mem_cons_of_mem _ hp))
def dSorted (wa : DE) (env : List SD) (P : SD → List SD → Prop) : Prop := wa env fun d env1 => sortedQ d fun xs => P (.cel false xs) env1
section
variable {X : Cx} {a : Expr} {wa : DE} {p pos : Pos}
theorem dsorted {k : Nat} (hr : Room k X.A) (hm : X.mg "sorted" = none) (ha : PE X a (liftE X.K Z wa)) (hg : Gl X "sorted" := by rfl)
    (n1 : starEach [a] X.env = (false, eval a X.env) :: starEach [] X.env := by rfl) :
    PE X (.Call (.Name "sorted" p) [a] [] pos) (liftX X.K Z (dSorted wa)) :=
  PE.of (pe_callB (cr_sortedDD hr.u65) hg hm (by decide +kernel) (pa_cons ha pa_nil n1) (by decide) (by decide) n1 (by rfl)) fun σ H Q ⟨g, F, env, P, k, w, q⟩ =>
    ⟨g, F, env, _, k, w, fun d env1 v F1 H1 p e1 k1 r1 => by
      unfold sortedQ at p
      split at p
      · rename_i ds
        obtain ⟨⟨s1, s2, s3, s4⟩, p⟩ := p
        obtain ⟨l, us, rfl, h1, h2⟩ := r1.inv_lst
        refine ⟨l, us, ds, rfl, (h1.mono k1.fh).sq, DRs.dp (drsH k1 h2) s4, s1, s2, s3, fun zs a2 ez hp2 => ?_⟩
        subst ez
        have hl := h2.length
        have em : ((us.zip ds).mergeSort (PySem.W.dataLe false Prod.snd)).map Prod.snd = sortD ds := by
          have := PySem.W.sort_maps (r := PySem.W.dataLe false (Prod.snd (α := V))) (s := PySem.W.dataLe false id) Prod.snd (l := us.zip ds) (fun _ _ _ _ => rfl)
          rw [this, zip_snd hl]
          rfl
        have dr := drs_of (zs := (us.zip ds).mergeSort (PySem.W.dataLe false Prod.snd)) fun p hp => drs_zip h2 p ((List.mergeSort_perm _ _).mem_iff.mp hp)
        rw [em] at dr
        obtain ⟨k3, r3⟩ := k1.newCell hp2 dr
        exact q _ env1 _ F1 _ p e1 k3 r3
      · exact p.elim⟩
end
end DL

/-! The data layer, part 41: any(xs) of whole numbers. -/
namespace DL
variable {Z : Zx}
open PySem PySem.Spec PyProof.Rows L2
open Evl (Ex)
section
variable {X : Cx}
def rAnyI (K : PySem.W.Frag) : List V → Hp → VK → Prop := fun vs H Q => ∃ (a : Addr) (ns : List Int), vs = [V.ref a] ∧ SqL K H a (ns.map V.int) ∧ Q (.bl (ns.any fun n => n != 0)) H
theorem readsAll_intsI {h : Heap} : ∀ {its : List Value} {ns : List Int}, Vals (ns.map V.int) its → ∃ as, ReadsAll h its (ns.map PyData.int) as
  | _, [], r => by
    cases r
    exact ⟨[], .nil⟩
  | _, n :: ns, r => by
    cases r with
    | cons a t =>
      obtain ⟨k, rfl⟩ := a
      obtain ⟨as, q⟩ := readsAll_intsI (h := h) t
      exact ⟨_, .cons (Reads.int n _) q⟩
theorem plain_intsI : ∀ ns : List Int, PyData.plainAll (ns.map PyData.int) = true
  | [] => rfl
  | n :: ns => by rw [List.map_cons, PyData.plainAll, plain_intsI ns]; rfl
theorem cr_anyI (hc : X.calm = true) : CallR X (.builtin "any") (rAnyI X.K) := by
  intro pins s σ H vs us Q I r h
  obtain ⟨a, ns, rfl, hs, q⟩ := h
  obtain ⟨its, rv, hl, _⟩ := I.list hs
  rw [Vals.ref1 r]
  obtain ⟨as, hr⟩ := readsAll_intsI (h := s.heap) rv
  refine PySem.W.any_list_data (I.ok.hd hc) hl.isList (vs := its.toArray) (xs := ns.map .int) (by simpa using hr) (plain_intsI ns) (fun x hx => ?_) fun h' tk hk => ?_
  · obtain ⟨n, _, rfl⟩ := List.mem_map.mp hx
    exact trivial
  · refine ⟨.bl _, H, I.kept fun b o eo => hk b o eo, ?_, q⟩
    show Value.bool _ = Value.bool _
    rw [List.any_map]
    rfl
/-- any(xs): whole numbers -/
def nAnyI (xs : List PyData) (P : PyData → Prop) : Prop := match xs with
  | [.list ds] => match intsD ds with
    | some ns => P (.bool (ns.any fun n => n != 0))
    | none => False
  | _ => False
variable {e : Expr} {es : List Expr} {was : DA} {pos p : Pos}
theorem danyI (hm : X.mg "any" = none) (hc : X.calm = true) (ha : PA X (e :: es) (liftA X.K Z was)) (hg : Gl X "any" := by rfl)
    (he : starEach (e :: es) X.env = (false, eval e X.env) :: starEach es X.env := by rfl) (hpl : (backTo pos (starEach es X.env)).any (·.1) = false := by rfl) : PE X (.Call (.Name "any" p) (e :: es) [] pos) (liftE X.K Z (dB nAnyI was)) :=
  dcb (cr_anyI hc) (fun _ g F env σ H vs ds P Q k r f q => by
    unfold nAnyI at f
    split at f
    · split at f
      · rename_i bs e
        obtain ⟨v, rfl, r0⟩ := r.inv1
        obtain ⟨a, us, rfl, h1, h2⟩ := r0.inv_lst
        cases ints_rel h2 e
        exact ⟨a, bs, rfl, (h1.mono k.fh).sq, q _ _ F H f (Ex.refl F) k (.bl _)⟩
      · exact f.elim
    · exact f.elim) hm (by decide +kernel) ha hg (by decide) (by decide) he hpl
end
theorem q_anyI {ns : List Int} {P : PyData → Prop} : nAnyI [.list (ns.map .int)] P = P (.bool (ns.any fun n => n != 0)) := by
  unfold nAnyI
  dsimp only
  rw [ints_map]
end DL

/-! The data layer, part 42: a second name of a def (x = y at the top, y a def by then). -/
namespace DL
variable {Z : Zx}
open PySem PySem.Spec PyProof.Rows L2
section
variable {fa : List He.Fa} {fn : List He.FnD} {K : PySem.W.Frag} {mg : Str → Option Value}
theorem Top.funA (T : Top fa fn K mg) (x y : Str) (st : Stmt) (i j : Nat) (h : fn[i]? = some ⟨(x, none), y, y, defArgs st, defBody st, defScope st⟩ := by rfl) (hk : fa[j]? = some (.keep x) := by rfl) :
    ∃ kV doc pm an cdv ct, Fun K y y st (He.ga K x) (PySem.W.fnOf y y (defArgs st) (defBody st) (defScope st) .none kV doc pm an cdv ct) := by
  obtain ⟨oc, od, osl, kV, doc, pm, an, cdv, ct, h1, h2⟩ := T.says.def_ i h
  exact ⟨kV, doc, pm, an, cdv, ct, fun_mk h1 h2 (T.keep x j hk)⟩
end
end DL

/-! The data layer, part 43: t.count(x), t.index(x) of tuples of data. -/
namespace DL
variable {Z : Zx}
open PySem PySem.Spec PyProof.Rows L2
open Evl (Ex)
section
variable {X : Cx} {pins : List (Addr × Obj)} {σ : L2.St} {H : Hp} {s : Shared}
theorem TqT.obj (I : Inv X pins σ H s) {a : Addr} {xs : List V} (h : TqT X.K H a xs) : ∃ o, s.heap.get? a = some o ∧ PlT o := by
  rcases h with ⟨o, h, p⟩ | ⟨o, _, _, h, p, _⟩
  · exact ⟨o, (I.hok a _ h).1, p⟩
  · exact ⟨o, I.kIn a o h, p⟩
end
section
variable {X : Cx}
/-- a tuple's method: o.m(x) -/
def tBMT (K : PySem.W.Frag) (r : V → List V → Hp → VK → Prop) (to : TE) (t : TA) : TE := fun σ H Q => to σ H fun x H1 => (∃ a xs, x = .ref a ∧ TqT K H1 a xs) ∧ t σ H1 fun xs H2 => r x xs H2 Q
theorem pe_bmT {o e : Expr} {es : List Expr} {to : TE} {t : TA} {name : Str} {apos cpos : Pos} {id : String} {r : V → List V → Hp → VK → Prop} (slot : Slot "tuple" name id) (hty : typeOf (.builtin id) = pure (.type "method_descriptor")) (hm : MtR X id r)
    (ho : PE X o to) (ha : PA X (e :: es) t) (hbase : attributeBase o name X.env (eval o X.env) = eval o X.env := by rfl)
    (hfew : ((backTo cpos (starEach (e :: es) X.env)).all (!·.1) && (backToKw cpos (keywordEach [] X.env)).all (·.1.isSome) && decide ((e :: es).length + ([] : List Keyword).length + (if ([] : List Keyword).isEmpty then 0 else 1) < 30)) = true := by rfl)
    (hline : (apos.endLine == cpos.line) = true := by rfl) (hs : starEach (e :: es) X.env = (false, eval e X.env) :: starEach es X.env := by rfl) (hpl : (backTo cpos (starEach es X.env)).any (·.1) = false := by rfl) :
    PE X (.Call (.Attribute o name apos) (e :: es) [] cpos) (tBMT X.K r to t) := ⟨fun pins s σ H Q I h => by
  refine wpAny_Call_method_late hbase hfew hline rfl (thn (ho.run pins s σ H _ I h) ?_)
  rintro v s1 ⟨x, H1, I1, r1, ⟨l, xs, rfl, hT⟩, q1⟩
  cases r1
  obtain ⟨ob, hob, pl⟩ := hT.obj I1
  refine ⟨"tuple", id, PySem.F.plainAttrs_tuple, slot, hty, ⟨ob, hob, pl.1⟩, fun a z => ?_, ?_⟩
  · cases z
    exact ⟨ob, hob, pl.2⟩
  · have w := ha.run cpos pins s1 σ H1 _ I1 q1
    rw [hs] at w ⊢
    refine Calls.callWith_builtin (by show (false || (backTo cpos (starEach es X.env)).any (·.1)) = false; rw [hpl] <;> rfl) (Calls.evalArgs_plain (thn w ?_))
    rintro us s2 ⟨vs, H2, I2, r2, q2⟩
    exact hm pins s2 σ H2 (.ref l) vs (.ref l) us Q I2 rfl r2 q2⟩
/-- t.count(x): how many are equal; t.index(x): the first that is -/
def rCntT (K : PySem.W.Frag) : V → List V → Hp → VK → Prop := fun x xs H Q => ∃ (a : Addr) (y : V) (d : PyData) (ds : List PyData), x = V.ref a ∧ xs = [y] ∧ Dp K H (V.ref a) (.tuple ds) ∧ Dp K H y d ∧
  SeqAt.shaped (.list ds) = true ∧ SeqAt.shaped d = true ∧ Q (.int (ds.countP (fun z => PyData.eqv z d) : Nat)) H
theorem tup_parts {pins : List (Addr × Obj)} {σ : L2.St} {H : Hp} {s : Shared} {a : Addr} {y : V} {d : PyData} {ds : List PyData} {uy : Value} (hu : X.A.units + 65 < cLine) (I : Inv X pins σ H s) (hl : Dp X.K H (V.ref a) (.tuple ds)) (hy : Dp X.K H y d) (ry : RelV y uy)
    (sl : SeqAt.shaped (.list ds) = true) (sd : SeqAt.shaped d = true) : ∃ (its : List Value) (n : Nat) (dd : Option Addr) (sls : Array (Option Value)), s.heap.get? a = some { cls := .type "tuple", dict := dd, data := .seq its.toArray n, slots := sls } ∧
    its.map (SeqAt.readOf s.heap) = ds ∧ ∀ u, u ∈ its.toArray → SeqAt.EqAt X.A.in1 s u uy (PyData.eqv (SeqAt.readOf s.heap u) d) := by
  obtain ⟨bs, r1⟩ := Dp.reads I d y uy hy ry
  have hxs : PyData.canLayAll0 ds = true := SeqAt.canLay_of_shaped sl
  cases hl with
  | tup hs ha =>
    obtain ⟨its, rv, ⟨⟨cls, dd, data, sls⟩, ho, hc, n, hdt⟩, _⟩ := I.tuple hs
    simp only at hc hdt
    subst hc hdt
    obtain ⟨as, h4⟩ := Dp.readsAll I ds _ its ha rv
    exact ⟨its, n, dd, sls, ho, SeqAt.readsAll_map ds its as hxs h4, SeqAt.items_eqAt (vs := its.toArray) (show ReadsAll s.heap its.toArray.toList ds as from h4) r1 hxs (SeqAt.canLay_of_shaped sd) (room_in_shaped sd hu)⟩
theorem mt_cntT (hu : X.A.units + 65 < cLine) : MtR X "tuple.count" (rCntT X.K) := by
  rintro pins s σ H _ _ v us Q I rx rxs ⟨a, y, d, ds, rfl, rfl, hl, hy, sl, sd, q⟩
  cases rx
  cases rxs with
  | cons ry rt =>
    cases rt
    obtain ⟨its, n, dd, sls, ho, hmap, eqs⟩ := tup_parts hu I hl hy ry sl sd
    refine call_meets PySem.F.slot_tuple_count ⟨_, ho, rfl⟩ PySem.F.entry_tuple_count (PySem.F.args_tuple_count_2 _ _) (SeqAt.tuple_countAt a its.toArray n dd sls _ (fun u => PyData.eqv (SeqAt.readOf s.heap u) d)) ⟨ho, eqs, ?_⟩
    refine ⟨.int (ds.countP (fun z => PyData.eqv z d) : Nat), H, I.tok _, ⟨s.toks, ?_⟩, q⟩
    rw [← hmap, List.countP_map]
    rfl
def rIdxT (K : PySem.W.Frag) : V → List V → Hp → VK → Prop := fun x xs H Q => ∃ (a : Addr) (y : V) (d : PyData) (ds : List PyData) (j : Nat), x = V.ref a ∧ xs = [y] ∧ Dp K H (V.ref a) (.tuple ds) ∧ Dp K H y d ∧
  SeqAt.shaped (.list ds) = true ∧ SeqAt.shaped d = true ∧ ds.findIdx? (fun z => PyData.eqv z d) = some j ∧ Q (.int (j : Nat)) H
theorem mt_idxT (hu : X.A.units + 65 < cLine) : MtR X "tuple.index" (rIdxT X.K) := by
  rintro pins s σ H _ _ v us Q I rx rxs ⟨a, y, d, ds, j, rfl, rfl, hl, hy, sl, sd, hf, q⟩
  cases rx
  cases rxs with
  | cons ry rt =>
    cases rt
    obtain ⟨its, n, dd, sls, ho, hmap, eqs⟩ := tup_parts hu I hl hy ry sl sd
    subst hmap
    obtain ⟨hj, hit, hno⟩ := List.findIdx?_eq_some_iff_getElem.mp hf
    have hn : (its.map (SeqAt.readOf s.heap)).length = its.toArray.size := by simp
    refine call_meets PySem.F.slot_tuple_index ⟨_, ho, rfl⟩ PySem.F.entry_tuple_index (PySem.F.args_tuple_index_2 _ _) (TI.tuple_indexAt a its.toArray n dd sls _ (fun u => PyData.eqv (SeqAt.readOf s.heap u) d) j (hn ▸ hj) ?_ fun m hm hmj => ?_) ⟨ho, eqs, .int (j : Nat), H, I.tok _, ⟨_, rfl⟩, q⟩
    · simpa using hit
    · simpa using hno m hmj
end
section
variable {X : Cx} {a e : Expr} {wa we : DE} {apos cpos : Pos}
def dMt (f : List PyData → PyData → (PyData → Prop) → Prop) (wa wb : DE) (env : List SD) (P : PyData → List SD → Prop) : Prop := wa env fun x env1 => tupQ x fun ds => wb env1 fun y env2 => f ds y fun z => P z env2
theorem lift_mt {K : PySem.W.Frag} {r : V → List V → Hp → VK → Prop} {f : List PyData → PyData → (PyData → Prop) → Prop}
    (hf : ∀ (g : Gx Z) (F : Hp) (env : List SD) (σ : L2.St) (H : Hp) (ds : List PyData) (y : PyData) (vx vy : V) (P : PyData → Prop) (Q : VK), Ok K g F env σ H → DR K F vx (.tuple ds) → DR K F vy y → f ds y P → (∀ (z : PyData) (v : V), P z → DR K F v z → Q v H) → r vx [vy] H Q)
    {σ : L2.St} {H : Hp} {Q : VK} (h : liftE K Z (dMt f wa we) σ H Q) : tBMT K r (liftE K Z wa) (tCons (liftE K Z we) tNil) σ H Q := by
  obtain ⟨g, F, env, P, k, w, q⟩ := h
  refine ⟨g, F, env, _, k, w, fun x env1 v F1 H1 p e1 k1 r1 => ?_⟩
  obtain ⟨ds, rfl, p⟩ := tupQ_inv p
  obtain ⟨l, xs, ev, hT, _⟩ := r1.inv_tupZ
  refine ⟨⟨l, xs, ev, hT.mono k1.fh⟩, g, F1, env1, _, k1, p, fun y env2 v2 F2 H2 p2 e2 k2 r2 => ?_⟩
  exact hf g F2 env2 σ H2 ds y v v2 _ _ k2 (r1.mono e2) r2 p2 fun z u p3 r3 => q z env2 u F2 H2 p3 (e1.trans e2) k2 r3
theorem dict_tup {ds : List PyData} (h : SeqAt.shaped (.list ds) = true) : PyData.hasDict (.tuple ds) = false := by
  have := dict_of_shaped h
  simpa [PyData.hasDict] using this
theorem dcntT (hu : X.A.units + 65 < cLine) (ha : PE X a (liftE X.K Z wa)) (he : PE X e (liftE X.K Z we))
    (h1 : attributeBase a "count" X.env (eval a X.env) = eval a X.env := by rfl)
    (h2 : ((backTo cpos (starEach [e] X.env)).all (!·.1) && (backToKw cpos (keywordEach [] X.env)).all (·.1.isSome) && decide ([e].length + ([] : List Keyword).length + (if ([] : List Keyword).isEmpty then 0 else 1) < 30)) = true := by rfl)
    (h3 : (apos.endLine == cpos.line) = true := by rfl)
    (h4 : starEach [e] X.env = (false, eval e X.env) :: starEach [] X.env := by rfl) (h5 : (backTo cpos (starEach [] X.env)).any (·.1) = false := by rfl) :
    PE X (.Call (.Attribute a "count" apos) [e] [] cpos) (liftE X.K Z (dMt cntQ wa we)) :=
  PE.of (pe_bmT PySem.F.slot_tuple_count PySem.F.type_tuple_count (mt_cntT hu) ha (pa_cons he pa_nil h4) h1 h2 h3 h4 h5) fun σ H Q h => lift_mt (fun g F env σ H ds y vx vy P Q k rx ry f q => by
    obtain ⟨⟨s1, s2⟩, f⟩ := f
    obtain ⟨b, xs, rfl, _, _⟩ := rx.inv_tup
    exact ⟨b, vy, y, ds, rfl, rfl, DR.dp (drH k rx) (dict_tup s1), DR.dp (drH k ry) (dict_of_shaped s2), s1, s2, by rw [cntN_eqv]; exact q _ _ f (.int _)⟩) h
theorem dlixT (hu : X.A.units + 65 < cLine) (ha : PE X a (liftE X.K Z wa)) (he : PE X e (liftE X.K Z we))
    (h1 : attributeBase a "index" X.env (eval a X.env) = eval a X.env := by rfl)
    (h2 : ((backTo cpos (starEach [e] X.env)).all (!·.1) && (backToKw cpos (keywordEach [] X.env)).all (·.1.isSome) && decide ([e].length + ([] : List Keyword).length + (if ([] : List Keyword).isEmpty then 0 else 1) < 30)) = true := by rfl)
    (h3 : (apos.endLine == cpos.line) = true := by rfl)
    (h4 : starEach [e] X.env = (false, eval e X.env) :: starEach [] X.env := by rfl) (h5 : (backTo cpos (starEach [] X.env)).any (·.1) = false := by rfl) :
    PE X (.Call (.Attribute a "index" apos) [e] [] cpos) (liftE X.K Z (dMt idxQ wa we)) :=
  PE.of (pe_bmT PySem.F.slot_tuple_index PySem.F.type_tuple_index (mt_idxT hu) ha (pa_cons he pa_nil h4) h1 h2 h3 h4 h5) fun σ H Q h => lift_mt (fun g F env σ H ds y vx vy P Q k rx ry f q => by
    obtain ⟨⟨s1, s2⟩, f⟩ := f
    obtain ⟨b, xs, rfl, _, _⟩ := rx.inv_tup
    split at f
    · rename_i j ej
      refine ⟨b, vy, y, ds, j, rfl, rfl, DR.dp (drH k rx) (dict_tup s1), DR.dp (drH k ry) (dict_of_shaped s2), s1, s2, ?_, q _ _ f (.int _)⟩
      rw [← ej]
      congr 1
      funext z
      rw [eqD_eq]
    · exact f.elim) h
end
end DL

/-! The data layer, part 44: sorted lists of tuples of which some are (). -/
namespace DL
variable {Z : Zx}
open PySem PySem.Spec PyProof.Rows L2 PySem.W
open Evl (Ex)
section
variable {prog : Program} {w : World} {A : Around} {E : Value → Shared → Prop} {s : Shared}
/-- x < y as a sort asks it of keys of one type, tuples here -/
theorem oneLt_tup {xs ys : List PyData} {a b : Value} {as bs : List Addr} {Q : Bool → Shared → Prop} (ra : Reads s.heap a (.tuple xs) as) (rb : Reads s.heap b (.tuple ys) bs) (h : alike (.tuple xs) (.tuple ys) = true)
    (hu : A.units + min (PyData.depth (.tuple xs)) (PyData.depth (.tuple ys)) < cLine) (hq : Q (dataLt (.tuple xs) (.tuple ys)) s) : wpAny (model prog w) A (oneLt' true a b) Q E s := by
  have hal : alikeAll xs ys = true := by simpa [alike] using h
  cases ra with
  | @tuple l o vs n _ _ h1 h2 h3 h4 =>
    cases rb with
    | @tuple l' o' vs' n' _ _ k1 k2 k3 k4 =>
      obtain ⟨cls, dd, data, sl⟩ := o
      obtain ⟨cls', dd', data', sl'⟩ := o'
      simp only at h2 h3 k2 k3
      subst h2 h3 k2 k3
      have n1 : vs.size = xs.length := by simpa using SeqAt.ReadsAll.length _ _ _ h4
      have n2 : vs'.size = ys.length := by simpa using SeqAt.ReadsAll.length _ _ _ k4
      rw [dataLt_tuple, ← firstLt_toks xs ys hal, ← n1, ← n2] at hq
      rw [oneLt'_eq]
      simp only [if_true]
      refine wpAny_bind (wpAny_cRoomFor (SeqAt.room_here hu) ?_)
      refine wpAny_bind (wpAny_callSpecialIfBound?_slot (T := "tuple") ⟨_, h1, rfl⟩ F.slot_tuple_lt (call_meets F.slot_tuple_lt ⟨_, h1, rfl⟩ F.entry_tuple_lt (F.args_tuple_lt_2 _ _)
        (SeqAt.tuple_ltAt l l' vs vs' n n' dd dd' sl sl' (SeqAt.pairEq xs ys) (fun j => dataLt (xs.getD j .none) (ys.getD j .none))) ⟨h1, k1, fun j j1 j2 => ?_, fun j j1 j2 hj => ?_, ?_⟩))
      · have := eqAt_alikeAll xs ys A.in1 s vs.toList vs'.toList _ _ h4 k4 hal (SeqAt.room_in hu) j (by simpa using j1) (by simpa using j2)
        simpa using this
      · have := rcLt_alikeAll xs ys A.in1 s vs.toList vs'.toList _ _ h4 k4 hal (SeqAt.room_in hu) j (by simpa using j1) (by simpa using j2) hj
        simpa using this
      · exact wpAny_truthy_bool hq
/-- a tuple with an item at least -/
def neT : PyData → Bool
  | .tuple (_ :: _) => true
  | _ => false
theorem firsts_are {M : Model} : ∀ {vs : List Value} {ds : List PyData} {Q : List (Option Value) → Shared → Prop}, EachIs (fun v d => ∃ as, Reads s.heap v d as) vs ds → (∀ d ∈ ds, ∃ xs, d = .tuple xs) →
    (∀ fs : List (Option Value), fs.map Option.isSome = ds.map neT → Q fs s) → wpAny M A (vs.mapM firstOfTuple') Q E s
  | _, _, Q, .nil, _, h => by
    rw [List.mapM_nil]
    exact wpAny_pure (h [] rfl)
  | _, _, Q, .cons (b := d) ⟨as, r⟩ t, ht, h => by
    obtain ⟨xs, rfl⟩ := ht d (List.mem_cons_self ..)
    rw [List.mapM_cons]
    refine wpAny_bind ?_
    rw [kas_first_eq]
    refine wpAny_bind ((looks_reads r).here ?_)
    rw [if_neg (by simp [dataType])]
    cases r with
    | @tuple a o vs n _ _ h1 h2 h3 h4 =>
      refine wpAny_bind (listItems_at h1 h3 (wpAny_pure ?_))
      refine wpAny_bind (firsts_are t (fun d hd => ht d (List.mem_cons_of_mem _ hd)) fun fs hfs => wpAny_pure (h _ ?_))
      have n1 : vs.size = xs.length := by simpa using SeqAt.ReadsAll.length _ _ _ h4
      rw [List.map_cons, List.map_cons, hfs]
      congr 1
      cases xs with
      | nil =>
        rw [Array.getElem?_eq_none (by rw [n1]; exact Nat.le_refl _)]
        rfl
      | cons x r =>
        rw [Array.getElem?_eq_getElem (by rw [n1, List.length_cons]; omega)]
        rfl
/-- tuples that are alike, some of them (), can be sorted -/
theorem sortsAt_tup {vs : List Value} {ds : List PyData} (e : EachIs (fun v d => ∃ as, Reads s.heap v d as) vs ds) (hal : AllAlike ds) (ht : ∀ d ∈ ds, ∃ xs, d = .tuple xs) (he : ∃ d ∈ ds, d = .tuple []) (hu : ∀ d, d ∈ ds → A.units + d.depth < cLine) :
    SortsAt prog w A s (dataKind s.heap ds) vs := by
  have room : ∀ {d d' : PyData}, d ∈ ds → A.units + min d.depth d'.depth < cLine := fun {d d'} hd => Nat.lt_of_le_of_lt (Nat.add_le_add_left (Nat.min_le_left _ _) _) (hu d hd)
  have notAll : ∀ fs : List (Option Value), fs.map Option.isSome = ds.map neT → (fs.toArray.all fun x => x.isSome) = false := fun fs hfs => by
    obtain ⟨d, hd, rfl⟩ := he
    have m : false ∈ fs.map Option.isSome := by
      rw [hfs]
      exact List.mem_map.mpr ⟨_, hd, rfl⟩
    obtain ⟨f, hf, ef⟩ := List.mem_map.mp m
    rw [Bool.eq_false_iff]
    intro z
    rw [List.all_toArray, List.all_eq_true] at z
    rw [z f hf] at ef
    cases ef
  refine ⟨fun v hv => ?_, ?_⟩
  · obtain ⟨d, hd, as, r⟩ := e.left v hv
    exact ⟨_, dataKind_some hal hd r⟩
  · cases hz : (ds.map neT).head? with
    | none =>
      obtain ⟨d, hd, _⟩ := he
      cases ds with
      | nil => simp at hd
      | cons a r => simp at hz
    | some b =>
      have first : ∀ fs : List (Option Value), fs.map Option.isSome = ds.map neT → (fs.toArray[0]?.bind id).isSome = b := fun fs hfs => by
        rw [← hfs] at hz
        cases fs with
        | nil => simp at hz
        | cons f r =>
          have : f.isSome = b := by simpa using hz
          simpa using this
      cases b with
      | true =>
        refine ⟨general', fun E x y a b Q ha hb hq => ?_, fun h2 E Q hq => ?_⟩
        · obtain ⟨d, as, hd, ra, rfl⟩ := dataKind_inv ha
          obtain ⟨d', as', hd', rb, rfl⟩ := dataKind_inv hb
          show wpAny _ _ (oneLt' false x y) _ _ _
          exact oneLt_alike (fun z => nomatch z) ra rb (hal d hd d' hd') (by obtain ⟨xs, rfl⟩ := ht d hd; exact fun z => nomatch z) (room hd) hq
        · rw [kat_kind_eq, List.mapM_toArray, map_eq_pure_bind]
          refine wpAny_bind (wpAny_bind (firsts_are e ht fun fs hfs => wpAny_pure ?_))
          rw [if_neg (by rw [notAll fs hfs]; decide), if_pos (first fs hfs)]
          exact wpAny_pure hq
      | false =>
        refine ⟨oneType', fun E x y a b Q ha hb hq => ?_, fun h2 E Q hq => ?_⟩
        · obtain ⟨d, as, hd, ra, rfl⟩ := dataKind_inv ha
          obtain ⟨d', as', hd', rb, rfl⟩ := dataKind_inv hb
          rw [keyLt'_oneType]
          obtain ⟨xs, rfl⟩ := ht d hd
          obtain ⟨ys, rfl⟩ := ht d' hd'
          exact oneLt_tup ra rb (hal _ hd _ hd') (room hd) hq
        · rw [kat_kind_eq, List.mapM_toArray, map_eq_pure_bind]
          refine wpAny_bind (wpAny_bind (firsts_are e ht fun fs hfs => wpAny_pure ?_))
          rw [if_neg (by rw [notAll fs hfs]; decide), if_neg (by rw [first fs hfs]; decide)]
          rw [oneTypeOnly'_eq, List.mapM_toArray, map_eq_pure_bind]
          refine wpAny_bind (wpAny_bind (wpAny_bind (kas_mapM (r := Value.type "tuple") _ (fun v hv Q' hq => ?_) (wpAny_pure ?_))))
          · obtain ⟨d, hd, as, r⟩ := e.left v hv
            obtain ⟨xs, rfl⟩ := ht d hd
            exact (looks_reads r).here hq
          · have hall : ((List.map (fun _ => Value.type "tuple") vs).toArray.all fun x => x == Value.type "tuple") = true := by
              simp only [List.all_toArray, List.all_map, List.all_eq_true]
              intro _ _
              exact beq_self_eq_true _
            have h0 : (List.map (fun _ => Value.type "tuple") vs).toArray[0]? = some (Value.type "tuple") := by
              cases vs with
              | nil => simp at h2
              | cons a r => simp
            rw [h0]
            simp only [hall, if_true]
            exact wpAny_pure (wpAny_pure hq)
end
/-- alike tuples of any kind can be sorted -/
theorem sortsAt_all {prog : Program} {w : World} {A : Around} {s : Shared} {vs : List Value} {ds : List PyData} (e : EachIs (fun v d => ∃ as, Reads s.heap v d as) vs ds) (hal : AllAlike ds) (ht : ∀ d ∈ ds, ∃ xs, d = .tuple xs) (hu : ∀ d, d ∈ ds → A.units + d.depth < cLine) :
    SortsAt prog w A s (dataKind s.heap ds) vs := by
  by_cases he : ∃ d ∈ ds, d = .tuple []
  · exact sortsAt_tup e hal ht he hu
  · refine SortsAt.data e hal (.inl fun d hd => ?_) hu
    obtain ⟨xs, rfl⟩ := ht d hd
    cases xs with
    | nil => exact absurd ⟨_, hd, rfl⟩ he
    | cons x r => exact ⟨x, r, rfl⟩
section
variable {X : Cx}
def rSortTT (K : PySem.W.Frag) : List V → Hp → VK → Prop := fun vs H Q => ∃ (a : Addr) (xs : List V) (ds : List PyData), vs = [V.ref a] ∧ SqL K H a xs ∧ DpAll K H xs ds ∧ AllAlike ds ∧ (∀ d ∈ ds, ∃ xs, d = .tuple xs) ∧ (∀ d ∈ ds, d.depth ≤ 60) ∧
  ∀ (zs : List (V × PyData)) (p : Addr), zs = (xs.zip ds).mergeSort (dataLe false Prod.snd) → H p = none → Q (.ref p) (upd H p (.lst (zs.map Prod.fst)))
theorem cr_sortedTT (hu : X.A.units + 65 < cLine) : CallR X (.builtin "sorted") (rSortTT X.K) := by
  intro pins s σ H vs us Q I r h
  obtain ⟨a, xs, ds, rfl, hs, hd, hal, hk, hdep, q⟩ := h
  rw [Vals.ref1 r]
  obtain ⟨its, rv, pl, hz⟩ := I.list hs
  obtain ⟨as, h4⟩ := Dp.readsAll I ds _ its hd rv
  have hlen := DpAll.len hd
  have e := each_zip (R := fun _ _ => True) rv h4
  have es : (xs.zip ds).map Prod.snd = ds := zip_snd hlen
  have lz : (xs.zip ds).length = xs.length := by rw [List.length_zip, hlen, Nat.min_self]
  have lz2 : its.length = (xs.zip ds).length := by rw [lz]; exact rv.length.symm
  have er : EachIs (fun v (p : V × PyData) => ∃ as, Reads (sortingHeap (copyHeap s.heap its) (s.heap.objs.size + 1) its) v p.2 as) its (xs.zip ds) := e.mono fun _ _ z => let ⟨as, r⟩ := z.2; ⟨as, PyProof.Rows.Reads.keeps (fun _ _ => sorting_copy_old) r⟩
  have hal2 : AllAlike ((xs.zip ds).map Prod.snd) := by rw [es]; exact hal
  refine sorted_vals (κ := dataKind (sortingHeap (copyHeap s.heap its) (s.heap.objs.size + 1) its) ((xs.zip ds).map Prod.snd)) pl.isList
    (sortsAt_all (s := { s with heap := sortingHeap (copyHeap s.heap its) (s.heap.objs.size + 1) its }) (each_map (R := fun v d => ∃ as, Reads (sortingHeap (copyHeap s.heap its) (s.heap.objs.size + 1) its) v d as) Prod.snd er) hal2 (by rw [es]; exact hk) fun d hd => ?_) (by rw [← rv.length]; exact hz) ?_
  · rw [es] at hd
    have := hdep d hd
    show X.A.units + 1 + 1 + d.depth < cLine
    omega
  · have hout := sortVals_data (R := fun v (p : V × PyData) => RelV p.1 v) (enc := Prod.snd) false (e.mono fun _ _ z => z.1) er hal2
    generalize hO : sortVals (dataKind (sortingHeap (copyHeap s.heap its) (s.heap.objs.size + 1) its) ((xs.zip ds).map Prod.snd)) false its its = out at hout ⊢
    obtain ⟨c, hc⟩ := sortedAll_at s.heap its (List.toArray out)
    have hn := I.hok.fresh (Nat.le_succ s.heap.objs.size)
    refine ⟨.ref (s.heap.objs.size + 1), upd H (s.heap.objs.size + 1) (.lst (((xs.zip ds).mergeSort (dataLe false Prod.snd)).map Prod.fst)), I.laid (t' := s.toks) (fun b u hb => sortedAll_old hb) (Nat.le_succ _) ⟨?_, out, c, vals_each (R := fun _ _ => True) hout, hc⟩, rfl, q _ _ rfl hn⟩
    rw [List.length_map, List.length_mergeSort, lz]
    exact hz
end
/-! ### the word -/
def sortOkT (ds : List PyData) : Prop := AllAlike ds ∧ (∀ d ∈ ds, ∃ xs, d = .tuple xs) ∧ (∀ d ∈ ds, d.depth ≤ 60) ∧ PyData.hasDictAll ds = false
def sortedTQ (d : PyData) (K : List PyData → Prop) : Prop := match d with
  | .list ds => sortOkT ds ∧ K (sortD ds)
  | _ => False
theorem q_sortedT {ds : List PyData} {K : List PyData → Prop} : sortedTQ (.list ds) K = (sortOkT ds ∧ K (sortD ds)) := rfl
def dSortedT (wa : DE) (env : List SD) (P : SD → List SD → Prop) : Prop := wa env fun d env1 => sortedTQ d fun xs => P (.cel false xs) env1
section
variable {X : Cx} {a : Expr} {wa : DE} {p pos : Pos}
theorem dsortedT {k : Nat} (hr : Room k X.A) (hm : X.mg "sorted" = none) (ha : PE X a (liftE X.K Z wa)) (hg : Gl X "sorted" := by rfl)
    (n1 : starEach [a] X.env = (false, eval a X.env) :: starEach [] X.env := by rfl) :
    PE X (.Call (.Name "sorted" p) [a] [] pos) (liftX X.K Z (dSortedT wa)) :=
  PE.of (pe_callB (cr_sortedTT hr.u65) hg hm (by decide +kernel) (pa_cons ha pa_nil n1) (by decide) (by decide) n1 (by rfl)) fun σ H Q ⟨g, F, env, P, k, w, q⟩ =>
    ⟨g, F, env, _, k, w, fun d env1 v F1 H1 p e1 k1 r1 => by
      unfold sortedTQ at p
      split at p
      · rename_i ds
        obtain ⟨⟨s1, s2, s3, s4⟩, p⟩ := p
        obtain ⟨l, us, rfl, h1, h2⟩ := r1.inv_lst
        refine ⟨l, us, ds, rfl, (h1.mono k1.fh).sq, DRs.dp (drsH k1 h2) s4, s1, s2, s3, fun zs a2 ez hp2 => ?_⟩
        subst ez
        have hl := h2.length
        have em : ((us.zip ds).mergeSort (dataLe false Prod.snd)).map Prod.snd = sortD ds := by
          have := sort_maps (r := dataLe false (Prod.snd (α := V))) (s := dataLe false id) Prod.snd (l := us.zip ds) (fun _ _ _ _ => rfl)
          rw [this, zip_snd hl]
          rfl
        have dr := drs_of (zs := (us.zip ds).mergeSort (dataLe false Prod.snd)) fun p hp => drs_zip h2 p ((List.mergeSort_perm _ _).mem_iff.mp hp)
        rw [em] at dr
        obtain ⟨k3, r3⟩ := k1.newCell hp2 dr
        exact q _ env1 _ F1 _ p e1 k3 r3
      · exact p.elim⟩
end
end DL

/-! The data layer, part 45: dicts of one's own whose keys are tuples of whole numbers and texts: x = {}, x[k] = v, x.get(k, d), k in x, sorted(x). -/
namespace DL
variable {Z : Zx}
open PySem PySem.Spec PyProof.Rows L2 PySem.W
open Evl (Ex)
/-! ### keys -/
def kyOf : PyData → Option Key
  | .int n => some (.inl n)
  | .str x => some (.inr x)
  | _ => none
def kysOf : List PyData → Option (List Key)
  | [] => some []
  | d :: r => match kyOf d, kysOf r with
    | some k, some ks => some (k :: ks)
    | _, _ => none
def ktOf : PyData → Option (List Key)
  | .tuple ds => kysOf ds
  | _ => none
def keyD : Key → PyData
  | .inl n => .int n
  | .inr x => .str x
abbrev KVD := List (List Key × PyData)
def atD (kvs : KVD) (k : List Key) : Option PyData := (kvs.find? fun p => decide (p.1 = k)).map (·.2)
def putD (kvs : KVD) (k : List Key) (d : PyData) : KVD := if (atD kvs k).isSome = true then kvs.map (fun p => if p.1 = k then (p.1, d) else p) else kvs ++ [(k, d)]
def keysD (kvs : KVD) : List PyData := kvs.map fun p => .tuple (p.1.map keyD)
theorem ky_val {K : PySem.W.Frag} {F : Hp} {v : V} {d : PyData} {k : Key} (h : kyOf d = some k) (r : DR K F v d) : v = kV k := by
  cases d with
  | int n => cases h; cases r; rfl
  | str x => cases h; cases r; rfl
  | _ => cases h
theorem kys_vals {K : PySem.W.Frag} {F : Hp} : ∀ {vs : List V} {ds : List PyData} {ks : List Key}, kysOf ds = some ks → DRs K F vs ds → vs = ks.map kV
  | _, _, _, h, .nil => by cases h; rfl
  | _, d :: r, _, h, .cons a b => by
    unfold kysOf at h
    split at h
    · rename_i k ks e1 e2
      cases h
      rw [List.map_cons, ky_val e1 a, kys_vals e2 b]
    · cases h
theorem keyD_dr {K : PySem.W.Frag} {F : Hp} (k : Key) : DR K F (kV k) (keyD k) := by
  cases k with
  | inl n => exact .int n
  | inr x => exact .str x
theorem keysD_drs {K : PySem.W.Frag} {F : Hp} : ∀ ks : List Key, DRs K F (ks.map kV) (ks.map keyD)
  | [] => .nil
  | k :: r => .cons (keyD_dr k) (keysD_drs r)
section
variable {K : PySem.W.Frag} {F : Hp}
theorem DicR.val {kvs : KVD} {xs : List (List Key × Addr × Value)} (r : DicR K F kvs xs) (k : List Key) : (atD kvs k = none ∧ atKey xs k = none) ∨ ∃ d p v, atD kvs k = some d ∧ atKey xs k = some p ∧ DR K F v d ∧ RelV v p.2 := by
  unfold DicR at r
  induction r with
  | nil => exact .inl ⟨rfl, rfl⟩
  | @cons p q ps qs h t ih =>
    obtain ⟨h1, _, v, h2, h3⟩ := h
    by_cases e : p.1 = k
    · exact .inr ⟨p.2, q.2, v, by simp [atD, List.find?_cons, e], by simp [atKey, List.find?_cons, ← h1, e], h2, h3⟩
    · have e' : ¬ q.1 = k := fun z => e (h1.trans z)
      have a : atD (p :: ps) k = atD ps k := by simp [atD, List.find?_cons, e]
      have b : atKey (q :: qs) k = atKey qs k := by simp [atKey, List.find?_cons, e']
      rw [a, b]
      exact ih
theorem DicR.put {kvs : KVD} {xs : List (List Key × Addr × Value)} (r : DicR K F kvs xs) (k : List Key) {b : Addr} {d : PyData} {v : V} {u : Value} (hb : TqT K F b (k.map kV)) (hd : DR K F v d) (hu : RelV v u) : DicR K F (putD kvs k d) (storedH xs k b u) := by
  have e : (atD kvs k).isSome = (atKey xs k).isSome := by
    rcases r.val k with ⟨e1, e2⟩ | ⟨_, _, _, e1, e2, _⟩ <;> rw [e1, e2] <;> rfl
  unfold putD storedH
  rw [e]
  by_cases q : (atKey xs k).isSome = true
  · rw [if_pos q, if_pos q]
    clear e q
    unfold DicR at r ⊢
    induction r with
    | nil => exact .nil
    | @cons p q ps qs h t ih =>
      rw [List.map_cons, List.map_cons]
      refine .cons ?_ ih
      obtain ⟨h1, h2, h3⟩ := h
      unfold putAt
      by_cases e : p.1 = k
      · rw [if_pos e, if_pos (h1.symm.trans e)]; exact ⟨h1, h2, v, hd, hu⟩
      · rw [if_neg e, if_neg (fun z => e (h1.trans z))]; exact ⟨h1, h2, h3⟩
  · rw [if_neg q, if_neg q]
    exact Paired.snoc r ⟨rfl, hb, v, hd, hu⟩
end
theorem storedH_len {xs : List (List Key × Addr × Value)} {k : List Key} {b : Addr} {u : Value} : (storedH xs k b u).length ≤ xs.length + 1 := by
  unfold storedH
  split <;> simp
/-! ### the object -/
section
variable {X : Cx} {pins : List (Addr × Obj)} {σ : L2.St} {H : Hp} {s : Shared} {a b : Addr} {F : Hp} {kvs : KVD} {xs : List (List Key × Addr × Value)}
theorem key_sq {ks : List Key} (I : Inv X pins σ H s) (h : SqT X.K H b (ks.map kV)) : (tupleKind (mixKind X.prog X.w)).is s.heap ks b := by
  obtain ⟨its, r, ⟨o, ho, hc, n, hd⟩, _⟩ := I.tuple h
  exact ⟨o, its.toArray, n, ho, hc, hd, by simpa using items_are r⟩
theorem dic_at (I : Inv X pins σ H s) (fh : Ex F H) (e : H a = some (DicE X.prog X.w a xs)) (r : DicR X.K F kvs xs) : (a == sysModules) = false ∧ xs.length ≤ sizeLine ∧ s.heap.DictOfH (tupleKind (mixKind X.prog X.w)) a xs := by
  have z : ObjOk X.prog X.w H s.heap a (DicE X.prog X.w a xs) := I.hok a _ e
  obtain ⟨⟨⟨z1, z2⟩, o, es, ep, h1, h2, h3, h4, h5⟩, _, _⟩ := z
  refine ⟨z1, z2, o, es, ep, h1, h2, h3, h4, fun x hx => ?_, h5⟩
  obtain ⟨p, e1, e2, _⟩ := Paired.right r x hx
  exact key_sq I (by rw [← e1]; exact (e2.mono fh).sq)
theorem dic_new {P : Program} {w : World} {H' : Hp} {h' : Heap} {o : Obj} {es : Array DictEntry} {ep : Nat} (z1 : (a == sysModules) = false) (z2 : xs.length ≤ sizeLine) (h1 : h'.get? a = some o) (h2 : o.ExactDict) (h3 : o.data = .dict es ep) (h4 : es.toList = xs.map (entryOfKey (tupleKind (mixKind P w)))) (h5 : (xs.map (·.1)).Nodup) : ObjOk P w H' h' a (DicE P w a xs) :=
  ⟨⟨⟨z1, z2⟩, o, es, ep, h1, h2, h3, h4, h5⟩, ⟨o, h1⟩, fun _ _ ⟨z, o, es, ep, h1, r⟩ k => ⟨z, o, es, ep, k o h1, r⟩⟩
def rSetX (P : Program) (w : World) (K : PySem.W.Frag) : TSet := fun o i v H Q => ∃ (a b : Addr) (xs : List (List Key × Addr × Value)) (kvs : KVD) (k : List Key) (F : Hp), o = .ref a ∧ i = .ref b ∧ Ex F H ∧ H a = some (DicE P w a xs) ∧ DicR K F kvs xs ∧ TqT K F b (k.map kV) ∧ xs.length < sizeLine ∧ ∀ u, RelV v u → Q (upd H a (DicE P w a (storedH xs k b u)))
theorem set_dic (hu : X.A.units + 1 < cLine) : PSet X (rSetX X.prog X.w X.K) := by
  intro pins s σ H o i v ov iv u Q I ro ri rv h
  obtain ⟨a, b, xs, kvs, k, F, rfl, rfl, fh, e, r, hk, hl, q⟩ := h
  cases ro
  cases ri
  obtain ⟨z1, z2, dd⟩ := dic_at I fh e r
  refine wpAny_setItem_heap (hsz := z2) (tupleKind_room_in1 hu) (key_sq I (hk.mono fh).sq) dd fun h' dd' hs => ⟨_, ?_, q u rv⟩
  obtain ⟨o, es, ep, h1, h2, h3, h4, _, h5⟩ := dd'
  refine d_write I (by rw [e]; exact True.intro) hs ⟨o, h1⟩ (dic_new z1 ?_ h1 h2 h3 h4 h5)
  have := storedH_len (xs := xs) (k := k) (b := b) (u := u)
  omega
/-- {} as such a dict -/
def tDNewO (P : Program) (w : World) : TE := fun _ H Q => ∀ p, H p = none → Q (.ref p) (upd H p (DicE P w p []))
theorem pe_dnewO {pos : Pos} : PE X (.Dict [] [] pos) (tDNewO X.prog X.w) := ⟨fun pins s σ H Q I h =>
  wpAny_Dict_empty ⟨.ref s.heap.objs.size, _, I.laid (a := s.heap.objs.size) (t' := s.toks) (fun _ _ q => Heap.get?_push_of_some _ q) (Nat.le_refl _)
    (dic_new (xs := []) (es := #[]) (ep := 0) (beq_eq_false_iff_ne.mpr (Ne.symm (Nat.ne_of_lt I.big))) (Nat.zero_le _) (Heap.get?_push_size _ rfl) ⟨rfl, rfl, rfl⟩ rfl rfl List.nodup_nil), rfl, h _ (I.hok.fresh (Nat.le_refl _))⟩⟩
end
section
variable {K : PySem.W.Frag} {g : Gx Z} {F : Hp} {env : List SD} {σ : L2.St} {H : Hp}
theorem Ok.writeK (k : Ok K g F env σ H) {i : Nat} {kvs kvs' : KVD} {a : Addr} {xs xs' : List (List Key × Addr × Value)} (he : env[i]? = some (.dic kvs)) (hs : σ[i]? = some (some (.ref a))) (hH : H a = some (DicE Z.P Z.w a xs)) (r : DicR K F kvs' xs') :
    Ok K g F (env.set i (.dic kvs')) σ (upd H a (DicE Z.P Z.w a xs')) := by
  obtain ⟨a', xs0, h1, h2, h3, h4, h5, h6, h7⟩ := k.dic i kvs he
  rw [hs] at h1
  cases h1
  have ne : ∀ {b : Addr} {vs : List V}, H b = some (.lst vs) → b ≠ a := fun {b vs} e z => by subst z; rw [h3] at e; cases e
  have oth : ∀ {j : Nat} {x : SD}, (∀ z, x ≠ .dic z) → (env.set i (.dic kvs'))[j]? = some x → env[j]? = some x := fun {j x} n e => by
    rcases get_set e with ⟨_, z⟩ | ⟨_, z⟩
    · exact absurd z (n _)
    · exact z
  refine ⟨by simp [k.len], fun b u q => ?_, fun j e hj => k.dat j e (oth (fun _ z => by cases z) hj), fun j q us hj => ?_, fun j l q r us ws c z1 z2 z3 z4 => k.sep j l q r us ws c (oth (fun _ z => by cases z) z1) (oth (fun _ z => by cases z) z2) z3 z4, fun j b e => ?_, fun b o e n => ?_, k.newF, k.oldF, fun b u e => ?_, fun j ys e => ?_⟩
  · have n : b ≠ a := fun z => by rw [z, h2] at q; cases q
    rw [upd_ne n]
    exact k.fh b u q
  · obtain ⟨b, vs, z1, z2, z3, z4⟩ := k.cel j q us (oth (fun _ z => by cases z) hj)
    exact ⟨b, vs, z1, z2, by rw [upd_ne (ne z3)]; exact z3, z4⟩
  · obtain ⟨us, q⟩ := k.pin j b e
    have n : i ≠ j := fun z => by subst z; rw [he] at q; cases q
    exact ⟨us, by rw [set_ne n]; exact q⟩
  · have n : b ≠ a := fun z => by subst z; rw [h5] at e; cases e
    rw [upd_ne n]
    exact k.frame b o e ‹_›
  · obtain ⟨z1, z2, z3⟩ := k.prot b u e
    have n : b ≠ a := fun z => by subst z; rw [h6] at e; cases e
    exact ⟨by rw [upd_ne n]; exact z1, z2, fun j q us hj => z3 j q us (oth (fun _ z => by cases z) hj)⟩
  · have back : ∀ {l : Nat} {zs : KVD}, (env.set i (.dic kvs'))[l]? = some (.dic zs) → ∃ ws, env[l]? = some (.dic ws) := fun {l zs} e => by
      rcases get_set e with ⟨rfl, _⟩ | ⟨_, z⟩
      · exact ⟨_, he⟩
      · exact ⟨_, z⟩
    rcases get_set e with ⟨rfl, z⟩ | ⟨n, z⟩
    · cases z
      exact ⟨a, xs', hs, h2, upd_same, r, h5, h6, fun l zs e2 y => let ⟨ws, e3⟩ := back e2; h7 l ws e3 y⟩
    · obtain ⟨b, ws, z1, z2, z3, z4, z5, z6, z7⟩ := k.dic j ys z
      have nb : b ≠ a := fun q => by subst q; exact n (z7 i kvs he hs)
      exact ⟨b, ws, z1, z2, by rw [upd_ne nb]; exact z3, z4, z5, z6, fun l zs e2 y => let ⟨ws, e3⟩ := back e2; z7 l ws e3 y⟩
theorem Ok.newK (k : Ok K g F env σ H) {i : Nat} {p : Addr} (hp : H p = none) (np : NoPar env i) : Ok K g F (env.set i (.dic [])) (σ.set i (some (.ref p))) (upd H p (DicE Z.P Z.w p [])) := by
  obtain ⟨k1, f1, p1, h1, n1⟩ := k.newO (o := DicE Z.P Z.w p []) hp
  refine k1.setK np f1 upd_same .nil h1 p1 fun j ys e z => ?_
  obtain ⟨b, ws, z1, _, z3, _⟩ := k.dic j ys e
  rw [z] at z1
  cases z1
  rw [hp] at z3
  cases z3
end
/-! ### the words -/
def putQ (kvs : KVD) (y d : PyData) (K : KVD → Prop) : Prop := match ktOf y with
  | some k => kvs.length < 100000 ∧ K (putD kvs k d)
  | none => False
def getQ (kvs : KVD) (y d : PyData) (K : PyData → Prop) : Prop := match ktOf y with
  | some k => K ((atD kvs k).getD d)
  | none => False
def inkQ (n : Bool) (kvs : KVD) (y : PyData) (K : PyData → Prop) : Prop := match ktOf y with
  | some k => K (.bool ((atD kvs k).isSome != n))
  | none => False
def sortKQ (kvs : KVD) (K : List PyData → Prop) : Prop := (kvs.length ≤ 100000 ∧ sortOkT (keysD kvs)) ∧ K (sortD (keysD kvs))
theorem q_put {kvs : KVD} {y d : PyData} {k : List Key} {K : KVD → Prop} (h : ktOf y = some k) : putQ kvs y d K = (kvs.length < 100000 ∧ K (putD kvs k d)) := by unfold putQ; rw [h]
theorem q_get {kvs : KVD} {y d : PyData} {k : List Key} {K : PyData → Prop} (h : ktOf y = some k) : getQ kvs y d K = K ((atD kvs k).getD d) := by unfold getQ; rw [h]
theorem q_ink {n : Bool} {kvs : KVD} {y : PyData} {k : List Key} {K : PyData → Prop} (h : ktOf y = some k) : inkQ n kvs y K = K (.bool ((atD kvs k).isSome != n)) := by unfold inkQ; rw [h]
/-- a datum that is such a key -/
theorem kt_key {K : PySem.W.Frag} {F : Hp} {v : V} {y : PyData} {k : List Key} (h : ktOf y = some k) (r : DR K F v y) : ∃ b, v = .ref b ∧ TqT K F b (k.map kV) := by
  cases y with
  | tuple ds =>
    obtain ⟨b, us, rfl, h1, h2⟩ := r.inv_tupZ
    rw [kys_vals (ks := k) h h2] at h1
    exact ⟨b, rfl, h1⟩
  | _ => cases h
section
variable {X : Cx} {e b : Expr} {we wb : DE} {m : Nat} {pos : Pos}
/-- x = {} -/
def dDNew (i : Nat) (E : DEnds) (env : List SD) : Prop := bIf (noPar env i) (E.nx (env.set i (.dic []))) False
theorem sdnew (i : Nat) {x : Str} {pos' p2 : Pos} (hN : X.N.Nodup) (hP : Z.P = X.prog) (hW : Z.w = X.w) (hi : X.N[i]? = some x := by rfl) (hx : Loc X.env.scope x := by first | exact Or.inl rfl | exact Or.inr rfl) (hs : swapsWith (.Dict [] [] p2) (some (.Name x pos')) pos.line X.env = pure false := by rfl)
    (hf : X.fn x = true ∨ X.env.scope.names.lookup x = some .local := by first | exact .inl rfl | exact .inr rfl) : PS X (.Assign [.Name x pos'] (.Dict [] [] p2) pos) (liftS X.K Z m (dDNew i)) := PS.of (ps_set hN hi hx pe_dnewO hs hf) fun D σ H ⟨g, F, env, P, k, w, q⟩ => by
  obtain ⟨w1, w2⟩ := bIf_and w
  refine fun p hp => q.nx _ _ F _ w2 (Ex.refl F) ?_
  have := k.newK hp (noPar_of w1)
  rw [hP, hW] at this
  exact this
/-- x[k] = v -/
def dDPut (i : Nat) (wi we : DE) (E : DEnds) (env : List SD) : Prop := we env fun d env1 => match env1[i]? with
  | some (.dic _) => wi env1 fun y env2 => match env2[i]? with
    | some (.dic kvs) => putQ kvs y d fun kvs' => E.nx (env2.set i (.dic kvs'))
    | _ => False
  | _ => False
theorem sdput (i : Nat) {k0 : Nat} {x : Str} {p0 p1 : Pos} (hr : Room k0 X.A) (hP : Z.P = X.prog) (hW : Z.w = X.w) (he : PE X e (liftE X.K Z we)) (hi : PE X b (liftE X.K Z wb)) (hN : X.N[i]? = some x := by rfl) (hv : Vis X.env.scope x := by first | exact Or.inl rfl | exact Or.inr (Or.inl rfl) | exact Or.inr (Or.inr rfl)) (hd : (x == ("__debug__" : Str)) = false := by decide)
    (hcd : (x == ("__classdict__" : Str)) = false := by decide)
    (hs : swapsWithSole [.Subscript (.Name x p0) b p1] e pos.line X.env = pure false := by rfl) (hw : swappedStores [.Subscript (.Name x p0) b p1] e X.env = pure none := by rfl)
    (h1 : (assignEach [.Subscript (.Name x p0) b p1] X.env).map (·.2) = [assign (.Subscript (.Name x p0) b p1) X.env] := by rfl)
    (ha : ∀ v, assign (.Subscript (.Name x p0) b p1) X.env v = (do
      let ov ← holding [v] (eval (.Name x p0) X.env)
      let iv ← holding [v, ov] (eval b X.env)
      standAt p1
      holding [v, ov, iv] (setItem ov iv v)
      release [v, ov, iv] []) := by intro _; rfl) : PS X (.Assign [.Subscript (.Name x p0) b p1] e pos) (liftS X.K Z m (dDPut i wb we)) :=
  PS.of (ps_asg he (pg_sub (pe_var hN hv hd hcd) hi (set_dic (by have := hr.u65; omega)) ha) hs hw h1) fun D σ H ⟨g, F, env, P, k, w, q⟩ =>
  ⟨g, F, env, _, k, w, fun d env1 v F1 H1 p e1 k1 r1 => by
    split at p
    · rename_i kvs0 ex
      obtain ⟨a0, xs0, b1, _⟩ := k1.dic i kvs0 ex
      refine ⟨_, b1, g, F1, env1, _, k1, p, fun d2 env2 v2 F2 H2 p2 e2 k2 r2 => ?_⟩
      split at p2
      · rename_i kvs ex2
        unfold putQ at p2
        split at p2
        · rename_i kk ek
          obtain ⟨hl, p2⟩ := p2
          obtain ⟨a1, xs, c1, c2, c3, c4, _⟩ := k2.dic i kvs ex2
          rw [b1] at c1
          cases c1
          obtain ⟨b2, rfl, tq⟩ := kt_key ek r2
          have lx : xs.length = kvs.length := (Paired.length c4).symm
          rw [hP, hW] at c3
          refine ⟨a0, b2, xs, kvs, kk, F2, rfl, rfl, k2.fh, c3, c4, tq, by rw [lx, sizeLine_eq]; omega, fun u ru => ?_⟩
          rw [← hP, ← hW] at c3
          have := k2.writeK ex2 b1 c3 (c4.put kk tq (r1.mono e2) ru)
          rw [hP, hW] at this
          exact q.nx _ σ F2 _ p2 (e1.trans e2) this
        · exact p2.elim
      · exact p2.elim
    · exact p.elim⟩
end
end DL

/-! The data layer, part 46: x.get(k, d), k in x, k not in x, sorted(x) of such dicts; defs that have one. -/
namespace DL
variable {Z : Zx}
open PySem PySem.Spec PyProof.Rows L2 PySem.W
open Evl (Ex)
section
variable {X : Cx}
/-! ### x.get(k, d) -/
def tGetX (P : Program) (w : World) (K : PySem.W.Frag) (td ty tx : TE) : TE := fun σ H Q => td σ H fun x H1 => ∃ a xs kvs F, x = .ref a ∧ Ex F H1 ∧ H1 a = some (DicE P w a xs) ∧ DicR K F kvs xs ∧ ty σ H1 fun y H2 => tx σ H2 fun z H3 =>
  ∃ xs kvs k b F, Ex F H3 ∧ H3 a = some (DicE P w a xs) ∧ DicR K F kvs xs ∧ y = .ref b ∧ TqT K F b (k.map kV) ∧ (∀ d v, atD kvs k = some d → DR K F v d → Q v H3) ∧ (atD kvs k = none → Q z H3)
theorem pe_getX {o e f : Expr} {apos cpos : Pos} {td ty tx : TE} (hu : X.A.units + 1 < cLine) (ho : PE X o td) (he : PE X e ty) (hf : PE X f tx) (m : M2 X o "get" apos e f cpos) : PE X (.Call (.Attribute o "get" apos) [e, f] [] cpos) (tGetX X.prog X.w X.K td ty tx) := by
  refine ⟨fun pins s σ H Q I h => ?_⟩
  refine wpAny_Call_method m.base m.few m.line PySem.F.plainAttrs_dict PySem.F.slot_dict_get PySem.F.type_dict_get (thn (ho.run pins s σ H _ I h) fun u s1 ⟨x, H1, I1, rx, a, xs0, kvs0, F0, ex, fh0, e0, r0, q1⟩ => ?_)
  subst ex
  obtain rfl : u = Value.ref a := rx
  obtain ⟨_, _, dd0⟩ := dic_at I1 fh0 e0 r0
  refine ⟨dd0.typeIs, fun b q => ?_, ?_⟩
  · cases q
    obtain ⟨ob, _, _, h1, h2, _⟩ := dd0
    exact ⟨ob, h1, h2.2.1⟩
  rw [m.trees]
  refine Calls.callWith_builtin rfl (Calls.evalArgs_plain (Calls.spliced_cons (thn (he.run pins s1 σ H1 _ I1 q1) fun iv s2 ⟨y, H2, I2, ry, q2⟩ =>
    Calls.spliced_cons (thn (hf.run pins s2 σ H2 _ I2 q2) fun fv s3 ⟨z, H3, I3, rz, xs, kvs, k, b, F, fh, e3, r3, ey, tk, qs, qn⟩ => Calls.spliced_nil ?_))))
  subst ey
  cases (show iv = Value.ref b from ry)
  obtain ⟨z1, z2, dd⟩ := dic_at I3 fh e3 r3
  refine call_meetsIn PySem.F.slot_dict_get dd.typeIs PySem.F.entry_dict_get (PySem.F.args_dict_get_3 _ _ _) (meetsH_dict_get_default (tupleKind (mixKind X.prog X.w)) a b z1 fv) ⟨tupleKind_room_in1 hu, k, xs, key_sq I3 (tk.mono fh).sq, dd, ?_⟩
  rcases r3.val k with ⟨n1, n2⟩ | ⟨d, p, v, n1, n2, n3, n4⟩
  · rw [n2]
    exact ⟨z, H3, I3.tok _, rz, qn n1⟩
  · rw [n2]
    exact ⟨v, H3, I3.tok _, n4, qs d v n1 n3⟩
def dDGet (i : Nat) (wk wd : DE) (env : List SD) (P : PyData → List SD → Prop) : Prop := match env[i]? with
  | some (.dic _) => wk env fun y env1 => match env1[i]? with
    | some (.dic _) => wd env1 fun d env2 => match env2[i]? with
      | some (.dic kvs) => getQ kvs y d fun z => P z env2
      | _ => False
    | _ => False
  | _ => False
theorem ddget {k0 : Nat} {e f : Expr} {apos cpos p0 : Pos} {x : Str} {we wf : DE} (i : Nat) (hr : Room k0 X.A) (hP : Z.P = X.prog) (hW : Z.w = X.w) (he : PE X e (liftE X.K Z we)) (hf : PE X f (liftE X.K Z wf)) (hN : X.N[i]? = some x := by rfl) (hv : Vis X.env.scope x := by first | exact Or.inl rfl | exact Or.inr (Or.inl rfl) | exact Or.inr (Or.inr rfl)) (hd : (x == ("__debug__" : Str)) = false := by decide)
    (hcd : (x == ("__classdict__" : Str)) = false := by decide)
    (h1 : attributeBase (.Name x p0) "get" X.env (eval (.Name x p0) X.env) = eval (.Name x p0) X.env := by rfl)
    (h2 : ((backTo cpos (starEach [e, f] X.env)).all (fun x => !x.1) && (backToKw cpos (keywordEach [] X.env)).all (fun x => x.1.isSome)
    && decide (([e, f] : List Expr).length + ([] : List Keyword).length + (if ([] : List Keyword).isEmpty then 0 else 1) < 30)) = true := by rfl)
    (h3 : (apos.endLine == cpos.line) = true := by rfl)
    (h4 : backTo cpos (starEach [e, f] X.env) = [(false, eval e X.env), (false, eval f X.env)] := by rfl) :
    PE X (.Call (.Attribute (.Name x p0) "get" apos) [e, f] [] cpos) (liftE X.K Z (dDGet i we wf)) :=
  PE.of (pe_getX (by have := hr.u65; omega) (pe_var hN hv hd hcd) he hf ⟨h1, h2, h3, h4⟩) fun σ H Q ⟨g, F, env, P, k, w, q⟩ => by
    unfold dDGet at w
    split at w
    · rename_i kvs0 ex
      obtain ⟨a, xs, b1, b2, b3, b4, _⟩ := k.dic i kvs0 ex
      have b3' := b3
      rw [hP, hW] at b3'
      refine ⟨_, b1, a, xs, kvs0, F, rfl, k.fh, b3', b4, g, F, env, _, k, w, fun y env1 v1 F1 H1 p1 e1 k1 r1 => ?_⟩
      split at p1
      · rename_i kvs1 ex1
        refine ⟨g, F1, env1, _, k1, p1, fun d env2 v2 F2 H2 p2 e2 k2 r2 => ?_⟩
        split at p2
        · rename_i kvs ex2
          unfold getQ at p2
          split at p2
          · rename_i kk ek
            obtain ⟨a1, xs2, c1, c2, c3, c4, _⟩ := k2.dic i kvs ex2
            rw [b1] at c1
            cases c1
            obtain ⟨b2, rfl, tq⟩ := kt_key ek r1
            rw [hP, hW] at c3
            refine ⟨xs2, kvs, kk, b2, F2, k2.fh, c3, c4, rfl, tq.mono e2, fun d' v' h1 h2 => ?_, fun h1 => ?_⟩
            · rw [h1] at p2
              exact q _ env2 v' F2 H2 p2 (e1.trans e2) k2 h2
            · rw [h1] at p2
              exact q _ env2 v2 F2 H2 p2 (e1.trans e2) k2 r2
          · exact p2.elim
        · exact p2.elim
      · exact p1.elim
    · exact w.elim
/-! ### k in x -/
def rInX (n : Bool) (P : Program) (w : World) (K : PySem.W.Frag) : R2 := fun x y H Q => ∃ (a b : Addr) (xs : List (List Key × Addr × Value)) (kvs : KVD) (k : List Key) (F : Hp), y = .ref a ∧ x = .ref b ∧ Ex F H ∧ H a = some (DicE P w a xs) ∧ DicR K F kvs xs ∧ TqT K F b (k.map kV) ∧ Q (.bl ((atD kvs k).isSome != n)) H
theorem op_inX (hu : X.A.units + 1 < cLine) : OpR X (compareOp .In) (rInX false X.prog X.w X.K) := by
  intro pins s σ H x y v u Q I rx ry h
  obtain ⟨a, b, xs, kvs, k, F, rfl, rfl, fh, e, r, tk, q⟩ := h
  cases rx
  cases ry
  obtain ⟨z1, z2, dd⟩ := dic_at I fh e r
  refine wpAny_in_heap (tupleKind_room_in1 hu) (key_sq I (tk.mono fh).sq) z1 dd ⟨.bl (atKey xs k).isSome, H, I.tok _, rfl, ?_⟩
  rcases r.val k with ⟨n1, n2⟩ | ⟨d, p, v, n1, n2, _⟩ <;> (rw [n1] at q; rw [n2]; simpa using q)
theorem op_ninX (hu : X.A.units + 1 < cLine) : OpR X (compareOp .NotIn) (rInX true X.prog X.w X.K) := by
  intro pins s σ H x y v u Q I rx ry h
  obtain ⟨a, b, xs, kvs, k, F, rfl, rfl, fh, e, r, tk, q⟩ := h
  cases rx
  cases ry
  obtain ⟨z1, z2, dd⟩ := dic_at I fh e r
  refine wpAny_notIn_heap (tupleKind_room_in1 hu) (key_sq I (tk.mono fh).sq) z1 dd ⟨.bl (!(atKey xs k).isSome), H, I.tok _, rfl, ?_⟩
  rcases r.val k with ⟨n1, n2⟩ | ⟨d, p, v, n1, n2, _⟩ <;> (rw [n1] at q; rw [n2]; simpa using q)
def dDIn (n : Bool) (i : Nat) (wa : DE) (env : List SD) (P : PyData → List SD → Prop) : Prop := wa env fun y env1 => match env1[i]? with
  | some (.dic kvs) => inkQ n kvs y fun d => P d env1
  | _ => False
theorem lift_dIn {n : Bool} {i : Nat} {wa : DE} (hP : Z.P = X.prog) (hW : Z.w = X.w) {σ : L2.St} {H : Hp} {Q : VK} (h : liftE X.K Z (dDIn n i wa) σ H Q) : tOp (rInX n X.prog X.w X.K) (liftE X.K Z wa) (fun σ H Q => ∃ v, σ[i]? = some (some v) ∧ Q v H) σ H Q := by
  obtain ⟨g, F, env, P, k, w, q⟩ := h
  refine ⟨g, F, env, _, k, w, fun y env1 v1 F1 H1 p1 e1 k1 r1 => ?_⟩
  split at p1
  · rename_i kvs ex
    obtain ⟨a, xs, b1, b2, b3, b4, _⟩ := k1.dic i kvs ex
    rw [hP, hW] at b3
    unfold inkQ at p1
    split at p1
    · rename_i kk ek
      obtain ⟨b, rfl, tq⟩ := kt_key ek r1
      exact ⟨_, b1, a, b, xs, kvs, kk, F1, rfl, rfl, k1.fh, b3, b4, tq, q _ env1 _ F1 H1 p1 e1 k1 (.bl _)⟩
    · exact p1.elim
  · exact p1.elim
section
variable {k0 : Nat} {a : Expr} {pos p0 : Pos} {x : Str} {wa : DE}
theorem ddin (i : Nat) (hr : Room k0 X.A) (hP : Z.P = X.prog) (hW : Z.w = X.w) (ha : PE X a (liftE X.K Z wa)) (hN : X.N[i]? = some x := by rfl) (hv : Vis X.env.scope x := by first | exact Or.inl rfl | exact Or.inr (Or.inl rfl) | exact Or.inr (Or.inr rfl)) (hd : (x == ("__debug__" : Str)) = false := by decide)
    (hcd : (x == ("__classdict__" : Str)) = false := by decide) (hm : behindInMarks .In (.Name x p0) = false := by rfl) : PE X (.Compare a [.In] [.Name x p0] pos) (liftE X.K Z (dDIn false i wa)) :=
  PE.of (pe_cmpR (op_inX (by have := hr.u65; omega)) ha (pe_var hN hv hd hcd) hm) fun _ _ _ h => lift_dIn hP hW h
theorem ddnin (i : Nat) (hr : Room k0 X.A) (hP : Z.P = X.prog) (hW : Z.w = X.w) (ha : PE X a (liftE X.K Z wa)) (hN : X.N[i]? = some x := by rfl) (hv : Vis X.env.scope x := by first | exact Or.inl rfl | exact Or.inr (Or.inl rfl) | exact Or.inr (Or.inr rfl)) (hd : (x == ("__debug__" : Str)) = false := by decide)
    (hcd : (x == ("__classdict__" : Str)) = false := by decide) (hm : behindInMarks .NotIn (.Name x p0) = false := by rfl) : PE X (.Compare a [.NotIn] [.Name x p0] pos) (liftE X.K Z (dDIn true i wa)) :=
  PE.of (pe_cmpR (op_ninX (by have := hr.u65; omega)) ha (pe_var hN hv hd hcd) hm) fun _ _ _ h => lift_dIn hP hW h
theorem tdin (i : Nat) (hr : Room k0 X.A) (hP : Z.P = X.prog) (hW : Z.w = X.w) (ha : PE X a (liftE X.K Z wa)) (hN : X.N[i]? = some x := by rfl) (hv : Vis X.env.scope x := by first | exact Or.inl rfl | exact Or.inr (Or.inl rfl) | exact Or.inr (Or.inr rfl)) (hd : (x == ("__debug__" : Str)) = false := by decide)
    (hcd : (x == ("__classdict__" : Str)) = false := by decide) (hm : behindInMarks .In (.Name x p0) = false := by rfl) : PT X (.Compare a [.In] [.Name x p0] pos) (liftT X.K Z (dTest (dDIn false i wa))) :=
  PT.of (pt_cmpR (op_inX (by have := hr.u65; omega)) ha (pe_var hN hv hd hcd) hm) fun _ _ _ h => lift_test (fun _ _ _ h => lift_dIn hP hW h) h
theorem tdnin (i : Nat) (hr : Room k0 X.A) (hP : Z.P = X.prog) (hW : Z.w = X.w) (ha : PE X a (liftE X.K Z wa)) (hN : X.N[i]? = some x := by rfl) (hv : Vis X.env.scope x := by first | exact Or.inl rfl | exact Or.inr (Or.inl rfl) | exact Or.inr (Or.inr rfl)) (hd : (x == ("__debug__" : Str)) = false := by decide)
    (hcd : (x == ("__classdict__" : Str)) = false := by decide) (hm : behindInMarks .NotIn (.Name x p0) = false := by rfl) : PT X (.Compare a [.NotIn] [.Name x p0] pos) (liftT X.K Z (dTest (dDIn true i wa))) :=
  PT.of (pt_cmpR (op_ninX (by have := hr.u65; omega)) ha (pe_var hN hv hd hcd) hm) fun _ _ _ h => lift_test (fun _ _ _ h => lift_dIn hP hW h) h
end
/-! ### sorted(x) -/
def keyV (x : List Key × Addr × Value) : V := .ref x.2.1
theorem keys_drs {K : PySem.W.Frag} {F : Hp} {kvs : KVD} {xs : List (List Key × Addr × Value)} (r : DicR K F kvs xs) : DRs K F (xs.map keyV) (keysD kvs) := by
  unfold DicR at r
  induction r with
  | nil => exact .nil
  | @cons p q ps qs h t ih =>
    obtain ⟨h1, h2, _⟩ := h
    exact .cons (.tup h2 (keysD_drs p.1)) ih
def rSortX (P : Program) (w : World) (K : PySem.W.Frag) : List V → Hp → VK → Prop := fun vs H Q => ∃ (a : Addr) (xs : List (List Key × Addr × Value)) (kvs : KVD) (F : Hp), vs = [V.ref a] ∧ Ex F H ∧ H a = some (DicE P w a xs) ∧ DicR K F kvs xs ∧ DpAll K H (xs.map keyV) (keysD kvs) ∧ AllAlike (keysD kvs) ∧ (∀ d ∈ keysD kvs, ∃ xs, d = .tuple xs) ∧ (∀ d ∈ keysD kvs, d.depth ≤ 60) ∧
  ∀ (zs : List (V × PyData)) (p : Addr), zs = ((xs.map keyV).zip (keysD kvs)).mergeSort (dataLe false Prod.snd) → H p = none → Q (.ref p) (upd H p (.lst (zs.map Prod.fst)))
theorem cr_sortedX (hu : X.A.units + 65 < cLine) (hcalm : X.calm = true) : CallR X (.builtin "sorted") (rSortX X.prog X.w X.K) := by
  intro pins s σ H vs us Q I r h
  obtain ⟨a, xs, kvs, F, rfl, fh, e, rd, hd, hal, hk, hdep, q⟩ := h
  rw [Vals.ref1 r]
  obtain ⟨z1, z2, o, es, ep, h1, h2, h3, h4, _, h5⟩ := dic_at I fh e rd
  refine Calls.call_function_entry PyProof.Rows.kind_sorted PyProof.Rows.plain_sorted PyProof.Rows.entry_sorted (PyProof.Rows.args_sorted1 _) ?_
  unfold Builtin.«sorted»
  refine wpAny_bind (m := checkCount "sorted" 1 1 _) (wpAny_pure ?_)
  have sz : es.size = xs.length := size_of_entries h4
  refine wpAny_bind (PySem.W.kdu_collect (A := X.A.in1) (kdl_raw z1 h2 h3) (I.ok.hd hcalm) h1 (by rw [sz]; exact z2) fun h' tk acc hk' hacc => ?_)
  have hal2 : acc.toList.length = xs.length := by rw [Array.length_toList, hacc.1, sz]
  have hv : acc.toList = xs.map fun x => Value.ref x.2.1 := List.ext_getElem? fun j => by
    rw [List.getElem?_map]
    cases ej : acc.toList[j]? with
    | none =>
      have := List.getElem?_eq_none_iff.mp ej
      rw [List.getElem?_eq_none_iff.mpr (by omega)]
      rfl
    | some v =>
      obtain ⟨en, e1, e2⟩ := hacc.2 j v (by rw [← Array.getElem?_toList]; exact ej)
      rw [entry_at h4 j] at e1
      cases ex : xs[j]? with
      | none => rw [ex] at e1; cases e1
      | some x =>
        rw [ex] at e1
        cases e1
        rw [e2]
        rfl
  have rv : Vals (xs.map keyV) acc.toList := by
    rw [hv]
    have : ∀ l : List (List Key × Addr × Value), Vals (l.map keyV) (l.map fun x => Value.ref x.2.1) := fun l => by
      induction l with
      | nil => exact .nil
      | cons x r ih => exact .cons rfl ih
    exact this xs
  have I1 : Inv X pins σ H { s with heap := h', toks := tk } := I.kept hk'
  obtain ⟨as, h6⟩ := Dp.readsAll I1 (keysD kvs) _ acc.toList hd rv
  have hlen := DpAll.len hd
  have e0 := each_zip (R := fun _ _ => True) rv h6
  have es2 : ((xs.map keyV).zip (keysD kvs)).map Prod.snd = keysD kvs := zip_snd hlen
  have lz : ((xs.map keyV).zip (keysD kvs)).length = xs.length := by rw [List.length_zip, hlen, Nat.min_self, ← hlen, List.length_map]
  refine wpAny_bind (wpAny_newList ?_ (by rw [hal2]; exact z2))
  have hoL : (h'.push (seqObj "list" acc.toList.toArray 0)).get? h'.objs.size = some (seqObj "list" acc.toList.toArray 0) := Heap.get?_push_size _ rfl
  show wpAny _ _ _ _ _ { s with heap := h'.push (seqObj "list" acc.toList.toArray 0), toks := tk }
  have old : ∀ (b : Addr) (u : Obj), h'.get? b = some u → (sortingHeap (h'.push (seqObj "list" acc.toList.toArray 0)) h'.objs.size acc.toList).get? b = some u := fun b u hb =>
    sortingHeap_old (Nat.ne_of_lt (Heap.lt_size hb)) (Heap.get?_push_of_some _ hb)
  have er : EachIs (fun v (p : V × PyData) => ∃ as, Reads (sortingHeap (h'.push (seqObj "list" acc.toList.toArray 0)) h'.objs.size acc.toList) v p.2 as) acc.toList ((xs.map keyV).zip (keysD kvs)) := e0.mono fun _ _ z => let ⟨as, r⟩ := z.2; ⟨as, PyProof.Rows.Reads.keeps old r⟩
  have hal3 : AllAlike (((xs.map keyV).zip (keysD kvs)).map Prod.snd) := by rw [es2]; exact hal
  have hout := sortVals_data (R := fun v (p : V × PyData) => RelV p.1 v) (enc := Prod.snd) false (e0.mono fun _ _ z => z.1) er hal3
  refine wpAny_bind (wpAny_holding (wpAny_call_entry PyProof.Rows.slot_list_sort ⟨_, hoL, rfl⟩ PyProof.Rows.entry_list_sort
    (list_sort_vals (κ := dataKind (sortingHeap (h'.push (seqObj "list" acc.toList.toArray 0)) h'.objs.size acc.toList) (((xs.map keyV).zip (keysD kvs)).map Prod.snd)) (s := { s with heap := h'.push (seqObj "list" acc.toList.toArray 0), toks := tk }) hoL
      (sortsAt_all (s := { s with heap := sortingHeap (h'.push (seqObj "list" acc.toList.toArray 0)) h'.objs.size acc.toList, toks := tk }) (each_map (R := fun v d => ∃ as, Reads (sortingHeap (h'.push (seqObj "list" acc.toList.toArray 0)) h'.objs.size acc.toList) v d as) Prod.snd er) hal3 (by rw [es2]; exact hk) fun d hd => ?_) (by rw [hal2]; exact z2) ⟨_, rfl, ?_⟩) (PyProof.Rows.args_list_sort _)))
  · rw [es2] at hd
    have := hdep d hd
    show X.A.units + 1 + 1 + d.depth < cLine
    omega
  · generalize hO : sortVals (dataKind (sortingHeap (h'.push (seqObj "list" acc.toList.toArray 0)) h'.objs.size acc.toList) (((xs.map keyV).zip (keysD kvs)).map Prod.snd)) false acc.toList acc.toList = out at hout ⊢
    obtain ⟨e', he'⟩ := PyProof.Rows.sortedHeap_at (vs := acc.toList) (out := out.toArray) hoL
    have ll : (List.map Prod.fst (((xs.map keyV).zip (keysD kvs)).mergeSort (dataLe false Prod.snd))).length ≤ sizeLine := by
      rw [List.length_map, List.length_mergeSort, lz]
      exact z2
    refine wpAny_pure ⟨_, rfl, .ref h'.objs.size, upd H h'.objs.size (.lst ((((xs.map keyV).zip (keysD kvs)).mergeSort (dataLe false Prod.snd)).map Prod.fst)), I1.laid (t' := tk) (fun b u eb => ?_) (Nat.le_refl _)
      (show ObjOk X.prog X.w _ _ _ (.lst _) from ⟨ll, out, e', vals_each (R := fun _ _ => True) hout, he'⟩), rfl, q _ _ rfl (I1.hok.fresh (Nat.le_refl _))⟩
    have hb : b < h'.objs.size := Heap.lt_size eb
    rw [PyProof.Rows.sortedHeap_old (Nat.ne_of_lt hb) (by rw [size_push']; exact Nat.lt_succ_of_lt hb)]
    exact Heap.get?_push_of_some _ eb
def dSortX (i : Nat) (env : List SD) (P : SD → List SD → Prop) : Prop := match env[i]? with
  | some (.dic kvs) => sortKQ kvs fun xs => P (.cel false xs) env
  | _ => False
theorem dsortX {k0 : Nat} {x : Str} {p p0 pos : Pos} (i : Nat) (hr : Room k0 X.A) (hc : X.calm = true) (hP : Z.P = X.prog) (hW : Z.w = X.w) (hm : X.mg "sorted" = none) (hN : X.N[i]? = some x := by rfl) (hv : Vis X.env.scope x := by first | exact Or.inl rfl | exact Or.inr (Or.inl rfl) | exact Or.inr (Or.inr rfl)) (hd : (x == ("__debug__" : Str)) = false := by decide)
    (hcd : (x == ("__classdict__" : Str)) = false := by decide) (hg : Gl X "sorted" := by rfl)
    (n1 : starEach [.Name x p0] X.env = (false, eval (.Name x p0) X.env) :: starEach [] X.env := by rfl) :
    PE X (.Call (.Name "sorted" p) [.Name x p0] [] pos) (liftX X.K Z (dSortX i)) :=
  PE.of (pe_callB (cr_sortedX hr.u65 hc) hg hm (by decide +kernel) (pa_cons (pe_var hN hv hd hcd) pa_nil n1) (by decide) (by decide) n1 (by rfl)) fun σ H Q ⟨g, F, env, P, k, w, q⟩ => by
    unfold dSortX at w
    split at w
    · rename_i kvs ex
      obtain ⟨a, xs, b1, b2, b3, b4, _⟩ := k.dic i kvs ex
      rw [hP, hW] at b3
      obtain ⟨⟨s0, s1, s2, s3, s4⟩, w⟩ := w
      have kd := keys_drs b4
      refine ⟨_, b1, a, xs, kvs, F, rfl, k.fh, b3, b4, DRs.dp (drsH k kd) s4, s1, s2, s3, fun zs a2 ez hp2 => ?_⟩
      subst ez
      have hl := kd.length
      have em : (((xs.map keyV).zip (keysD kvs)).mergeSort (dataLe false Prod.snd)).map Prod.snd = sortD (keysD kvs) := by
        have := sort_maps (r := dataLe false (Prod.snd (α := V))) (s := dataLe false id) Prod.snd (l := (xs.map keyV).zip (keysD kvs)) (fun _ _ _ _ => rfl)
        rw [this, zip_snd hl]
        rfl
      have dr := drs_of (zs := ((xs.map keyV).zip (keysD kvs)).mergeSort (dataLe false Prod.snd)) fun p hp => drs_zip kd p ((List.mergeSort_perm _ _).mem_iff.mp hp)
      rw [em] at dr
      obtain ⟨k3, r3⟩ := k.newCell hp2 dr
      exact q _ env _ F _ w (Ex.refl F) k3 r3
    · exact w.elim
end
end DL

/-! The data layer, part 47: defs with such dicts (dfn, dfnX, where what is fixed names the program, too). -/
namespace DL
variable {Z : Zx}
open PySem PySem.Spec PyProof.Rows L2
open Evl (Ex)
section
variable {P : Program} {w : World} {K : PySem.W.Frag} {mg : Str → Option Value} {base : Heap}
theorem dfnW (m : Nat) {x qual : Str} {st : Stmt} {f : Addr} {fd : FuncData} {N ps : List Str} {k : Nat} {S : DSp} (Fn : Fun K x qual st f fd) (sc : FnScope N ps (defScope st)) (len : ∀ as Q, S as Q → as.length = ps.length) (cels : CelsIn m S)
    (hbody : ∀ {Z : Zx} (cdv : Value) (A : Around) (outer : List Env) (s : Shared) (H : Hp), Z.P = P → Z.w = w → Room k (A.deeper (envOfC qual (defScope st) s.heap.objs.size f cdv)) → (A.deeper (envOfC qual (defScope st) s.heap.objs.size f cdv)).guards = some [] →
      ∃ t : DS, PSs (cxOf CX0 P w K mg base N qual (defScope st) f cdv A outer s H E0).nox (defBody st) (liftS K Z m t) ∧
        ∀ as Q, S as Q → t (defEnds m Q) (as ++ List.replicate (N.length - ps.length) .un)) : FnG P w K mg base (k + 1) f fd ps S := by
  obtain ⟨oc, od, kV, doc, pm, an, cdv, ct, osl, rfl, lk, hcd⟩ := Fn.ex
  refine ⟨len, fun A outer s H args us vs Q hr hg e0 hb rv ⟨F0, as, PP, ha, hS, hQ⟩ => ?_⟩
  have hl : vs.length = ps.length := ha.len.symm.trans (len as PP hS)
  have hpl : ps.length ≤ N.length := by
    have := congrArg List.length sc.pre
    rw [List.length_take] at this
    omega
  have KX : K.In s.heap := e0.mod.kin.keeps fun b o e => (e0.bs b o e).1
  refine codeAny_call_function hr.depth (KX _ _ lk) rfl sc.co sc.gen rfl (PySem.W.codeRec_of KX hcd) (hb _ _ _ _ (wpAny_newFunctionEnv_cells sc.kind (fun ⟨n, v⟩ hy => ?_) fun env he s1 x => ?_))
  · rcases sc.par n (List.of_mem_zip hy).1 with q | q
    · exact .inl q
    · exact .inr ⟨q, PySem.W.cellsFrom_some _ _ _ (.inl q)⟩
  · subst he
    obtain ⟨t, ht, hq⟩ := hbody (Z := entryZ P w F0 H vs as) cdv A outer s H rfl rfl (hr.deeper _) hg
    have I : Inv (cxOf CX0 P w K mg base N qual (defScope st) f cdv A outer s H E0) [] (start N vs) H s1 := inv_start sc hr.hd e0 hl rv x
    refine ⟨(e0.mod.nolimit.keeps fun b o e => (e0.bs b o e).1).keeps x.toInCall.keep, codeAny_func (wpAny_mono (ht.nox.run [] s1 (start N vs) H { nx := fun _ H' => Q .non H', rt := Q } I ?_) (fun fl s' hs => ?_) fun e s' hs => hs)⟩
    · have al : as.length = ps.length := len as PP hS
      refine ⟨entryG P w F0 H vs as, F0, _, _, entry_ok ha al hpl, hq as PP hS, ?_⟩
      exact .mk4 (.mk (fun env' σ' F' H' p _ k' => hQ _ _ _ _ _ p (post_of k' (cels _ _ hS) .non)) (fun _ _ _ _ p => p.elim) (fun _ _ _ _ p => p.elim) (fun r env' v σ' F' H' p _ k' r' => hQ _ _ _ _ _ p (post_of k' (cels _ _ hS) r'))) rfl
    · have fin : ∀ {σ' : L2.St} {H' : Hp} {v : V} {u : Value}, Inv (cxOf CX0 P w K mg base N qual (defScope st) f cdv A outer s H E0) [] σ' H' s' → RelV v u → Q v H' → CE outer P w H s Q u s' :=
        fun {σ' H' v u} J r q => ⟨v, H', J.os, J.bare, J.base, J.hok, r, q⟩
      match fl, hs with
      | .ret u, ⟨v, σ', H', J, r, q⟩ => exact fin J r q
      | .next, ⟨σ', H', J, q⟩ => exact fin (v := V.non) (u := Value.none) J rfl q
      | .brk, ⟨_, _, _, q⟩ => exact q.elim
      | .cont, ⟨_, _, _, q⟩ => exact q.elim
/-- what is asked of a law's def: of a list of the script's numbers it tells True -/
theorem dfnXW {x qual : Str} {st : Stmt} {f : Addr} {fd : FuncData} {N ps : List Str} {k : Nat} {S : DSpX} (Fn : Fun K x qual st f fd) (sc : FnScope N ps (defScope st)) (len : ∀ as Q E, S as Q E → as.length = ps.length) (nc : ∀ as Q E, S as Q E → NoCel as)
    (hbody : ∀ {Z : Zx} (Ec : Str → Prop) (cdv : Value) (A : Around) (outer : List Env) (s : Shared) (H : Hp) (E : XWish), Z.P = P → Z.w = w → Takes (cxOf (L2.CX P w) P w K mg base N qual (defScope st) f cdv A outer s H E) (liftW K Z fun c _ => Ec c) →
      PassesOwn (model P w) (A.deeper (envOfC qual (defScope st) s.heap.objs.size f cdv)) (envOfC qual (defScope st) s.heap.objs.size f cdv) (cxOf (L2.CX P w) P w K mg base N qual (defScope st) f cdv A outer s H E).xe →
      Room k (A.deeper (envOfC qual (defScope st) s.heap.objs.size f cdv)) → (A.deeper (envOfC qual (defScope st) s.heap.objs.size f cdv)).guards = some [] →
      ∃ t : DS, PSs (cxOf (L2.CX P w) P w K mg base N qual (defScope st) f cdv A outer s H E) (defBody st) (liftS K Z 0 t) ∧
        ∀ as Q, S as Q Ec → t (defEnds 0 Q) (as ++ List.replicate (N.length - ps.length) .un)) : FnX P w K mg base (k + 1) f fd ps S := by
  obtain ⟨oc, od, kV, doc, pm, an, cdv, ct, osl, rfl, lk, hcd⟩ := Fn.ex
  refine ⟨len, nc, fun A outer s H args us vs Q E hr hg e0 hb rv ⟨F0, as, PP, Ec, ha, hS, hQ, hE⟩ => ?_⟩
  have al : as.length = ps.length := len as PP Ec hS
  have hl : vs.length = ps.length := ha.len.symm.trans al
  have hpl : ps.length ≤ N.length := by
    have := congrArg List.length sc.pre
    rw [List.length_take] at this
    omega
  have KX : K.In s.heap := e0.mod.kin.keeps fun b o e => (e0.bs b o e).1
  have noc := nc as PP Ec hS
  have cells : ∀ (i : Nat) (p : Bool) (xs : List PyData), as[i]? = some (.cel p xs) → i < 0 := fun i p xs e => absurd e (noc i p xs)
  refine codeAny_call_function hr.depth (KX _ _ lk) rfl sc.co sc.gen rfl (PySem.W.codeRec_of KX hcd) (hb _ _ _ _ (wpAny_newFunctionEnv_cells sc.kind (fun ⟨n, v⟩ hy => ?_) fun env he s1 y => ?_))
  · rcases sc.par n (List.of_mem_zip hy).1 with q | q
    · exact .inl q
    · exact .inr ⟨q, PySem.W.cellsFrom_some _ _ _ (.inl q)⟩
  · subst he
    have tk : Takes (cxOf (L2.CX P w) P w K mg base N qual (defScope st) f cdv A outer s H E) (liftW K (entryZ P w F0 H vs as) fun c _ => Ec c) := (takes_of rfl rfl rfl rfl).imp fun cls d σ2 H2 ⟨c, h1, h2, xc, g2, F2, env2, k2, h3⟩ => by
      subst h1 h2
      exact hE c F2 H2 h3 xc ⟨k2.oldF, k2.fh, k2.newF, fun a o e _ => k2.frame a o e fun i z => (by
        obtain ⟨p, xs, h1, h2⟩ := cellsAt_inv z
        exact noc i p xs h1), fun i p xs a h1 _ => absurd h1 (noc i p xs), .non⟩
    obtain ⟨t, ht, hq⟩ := hbody (Z := entryZ P w F0 H vs as) Ec cdv A outer s H E rfl rfl tk (passes_of rfl) (hr.deeper _) hg
    have I : Inv (cxOf (L2.CX P w) P w K mg base N qual (defScope st) f cdv A outer s H E) [] (start N vs) H s1 := inv_start sc hr.hd e0 hl rv y
    refine ⟨(e0.mod.nolimit.keeps fun b o e => (e0.bs b o e).1).keeps y.toInCall.keep, codeAny_func (wpAny_mono (ht.run [] s1 (start N vs) H { nx := fun _ H' => Q .non H', rt := Q } I ?_) (fun fl s' hs => ?_) fun e s' hs => hs)⟩
    · refine ⟨entryG P w F0 H vs as, F0, _, _, entry_ok ha al hpl, hq as PP hS, ?_⟩
      exact .mk4 (.mk (fun env' σ' F' H' p _ k' => hQ _ _ _ _ _ p (post_of k' cells .non)) (fun _ _ _ _ p => p.elim) (fun _ _ _ _ p => p.elim) (fun r env' v σ' F' H' p _ k' r' => hQ _ _ _ _ _ p (post_of k' cells r'))) rfl
    · have fin : ∀ {σ' : L2.St} {H' : Hp} {v : V} {u : Value}, Inv (cxOf (L2.CX P w) P w K mg base N qual (defScope st) f cdv A outer s H E) [] σ' H' s' → RelV v u → Q v H' → CE outer P w H s Q u s' :=
        fun {σ' H' v u} J r q => ⟨v, H', J.os, J.bare, J.base, J.hok, r, q⟩
      match fl, hs with
      | .ret u, ⟨v, σ', H', J, r, q⟩ => exact fin J r q
      | .next, ⟨σ', H', J, q⟩ => exact fin (v := V.non) (u := Value.none) J rfl q
      | .brk, ⟨_, _, _, q⟩ => exact q.elim
      | .cont, ⟨_, _, _, q⟩ => exact q.elim
end
end DL

/-! The data layer, part 48: x[n] as a target among others, n written. -/
namespace DL
variable {Z : Zx}
open PySem PySem.Spec PyProof.Rows L2
open Evl (Ex)
section
variable {X : Cx}
def dgSub (i : Nat) (n : Int) (d : PyData) (env : List SD) (P : List SD → Prop) : Prop := match env[i]? with
  | some (.cel p xs) => stQ xs (.int n) d fun xs' => P (env.set i (.cel p xs'))
  | _ => False
theorem stQ_inv {xs : List PyData} {n : Int} {d : PyData} {K : List PyData → Prop} (h : stQ xs (.int n) d K) : ∃ j, ixN xs.length n = some j ∧ K (xs.set j d) := by
  unfold stQ at h
  dsimp only at h
  split at h
  · rename_i j ej
    exact ⟨j, ej, h⟩
  · exact h.elim
theorem gok_s {i : Nat} {n : Int} : GOk (dgSub i n) := fun d env P h => by
  unfold dgSub at h
  split at h
  · obtain ⟨j, _, h⟩ := stQ_inv h
    exact ⟨_, h⟩
  · exact h.elim
theorem gsub (i : Nat) {n : Int} {x : Str} {p0 p1 p2 : Pos} {kd : _} (hN : X.N[i]? = some x := by rfl) (hv : Vis X.env.scope x := by first | exact Or.inl rfl | exact Or.inr (Or.inl rfl) | exact Or.inr (Or.inr rfl)) (hd : (x == ("__debug__" : Str)) = false := by decide)
    (hcd : (x == ("__classdict__" : Str)) = false := by decide)
    (ha : ∀ v, assign (.Subscript (.Name x p0) (.Constant (.int n) kd p2) p1) X.env v = (do
      let ov ← holding [v] (eval (.Name x p0) X.env)
      let iv ← holding [v, ov] (eval (.Constant (.int n) kd p2) X.env)
      standAt p1
      holding [v, ov, iv] (setItem ov iv v)
      release [v, ov, iv] []) := by intro _; rfl) : PG X (.Subscript (.Name x p0) (.Constant (.int n) kd p2) p1) (liftG X.K Z false (dgSub i n)) :=
  PG.of (pg_sub (pe_var hN hv hd hcd) (di (Z := Z)) set_list ha) fun v σ H Q ⟨g, F, env, d, P, k, r, w, q⟩ => by
    unfold dgSub at w
    split at w
    · rename_i p xs ex
      obtain ⟨j, ej, w⟩ := stQ_inv w
      obtain ⟨a, us, b1, b2, b3, b4, _⟩ := k.cel i p xs ex
      refine ⟨_, b1, g, F, env, fun d2 env2 => d2 = .int n ∧ env2 = env, k, ⟨rfl, rfl⟩, fun d2 env2 v2 F2 H2 p2 e2 k2 r2 => ?_⟩
      obtain ⟨rfl, rfl⟩ := p2
      cases r2.inv_int
      obtain ⟨a1, us1, c1, c2, c3, c4, _⟩ := k2.cel i p xs ex
      rw [b1] at c1
      cases c1
      exact ⟨a, us1, n, j, rfl, rfl, c3, by rw [c4.length]; exact ej, q _ σ F2 _ w e2 (k2.write ex b1 (c4.set j (r.non.mono e2)))⟩
    · exact w.elim
end
end DL

/-! The data layer, part 49: a, b, .. = a list or a tuple. -/
namespace DL
variable {Z : Zx}
open PySem PySem.Spec PyProof.Rows L2
open Evl (Ex)
section
variable {prog : Program} {w : World} {A : Around} {E : Value → Shared → Prop} {s : Shared}
/-- the next n items of a list's iterator -/
theorem items_of_list {j l : Addr} {xs : Array Value} (hj : l ≠ j) : ∀ (n k : Nat) (s : Shared) (R : List Value → Shared → Prop), s.heap.IsListIter j l k → s.heap.IsList l xs → k + n ≤ xs.size →
    (∀ h2, h2.IsListIter j l (k + n) → Heap.SameBut j s.heap h2 → R ((xs.toList.drop k).take n) { s with heap := h2 }) → wpAny (model prog w) A (draw (.ref j) n) R E s
  | 0, k, s, R, a, _, _, r => by
    show wpAny _ _ (pure []) R E s
    refine wpAny_pure ?_
    have := r s.heap a (Heap.SameBut.refl ..)
    rwa [List.take_zero] at this
  | n + 1, k, s, R, a, b, c, r => by
    have lt : k < xs.size := by omega
    show wpAny _ _ (pyNext (.ref j) >>= _) R E s
    refine wpAny_bind (wpAny_pyNext_list_item a b (x := xs[k]) (by simp [lt]) fun h3 a3 c3 => ?_)
    have b3 : h3.IsList l xs := by
      obtain ⟨ol, o1, o2⟩ := b
      exact ⟨ol, (c3.2 l hj).trans o1, o2⟩
    refine wpAny_bind (wpAny_holding (items_of_list hj n (k + 1) _ _ a3 b3 (by omega) fun h4 a4 c4 => wpAny_pure ?_))
    have dr : xs.toList.drop k = xs[k] :: xs.toList.drop (k + 1) := by
      rw [List.drop_eq_getElem_cons (by simpa using lt)]
      simp
    have q := r h4 (by rw [show k + (n + 1) = k + 1 + n by omega]; exact a4) (c3.trans c4)
    rwa [dr, List.take_succ_cons] at q
/-- a list is taken apart -/
theorem apart_list {l : Addr} {xs : Array Value} {ts : List (Bool × (Value → Sem Unit))} {R : Unit → Shared → Prop} (hh : A.handled = none) (b : s.heap.IsList l xs) (hn : ts.length = xs.size) (hs : ts.findIdx? (·.1) = none)
    (r : ∀ h2, Heap.ExtBut s.heap.objs.size s.heap h2 → wpAny (model prog w) A (assignInOrder (ts.map (·.2)) xs.toList) R E { s with heap := h2 }) : wpAny (model prog w) A (unpack (.ref l) ts) R E s := by
  have hj : l ≠ s.heap.objs.size := by
    obtain ⟨o, ho, _⟩ := id b
    exact Nat.ne_of_lt (Heap.lt_size ho)
  have bp : ∀ o, (s.heap.push o).IsList l xs := fun o => by
    obtain ⟨ol, o1, o2⟩ := id b
    exact ⟨ol, Heap.get?_push_of_some _ o1, o2⟩
  unfold unpack
  rw [hn, hs]
  refine wpAny_bind (wpAny_holding ?_)
  unfold unpackItems
  refine wpAny_bind ?_
  unfold notIterableAtAll
  refine wpAny_bind (wpAny_specialOf b.typeIs slot_list_iter.lookup ?_)
  refine wpAny_pure ?_
  simp only [Bool.false_eq_true, if_false]
  refine wpAny_bind (wpAny_holding (wpAny_pyIter_list b ?_))
  refine wpAny_bind (wpAny_holding (items_of_list hj xs.size 0 _ _ ⟨_, Heap.get?_push_size _ rfl, rfl, rfl⟩ (bp _) (by omega) fun h2 a2 c2 => ?_))
  have all : List.take xs.size (List.drop 0 xs.toList) = xs.toList := by
    rw [List.drop_zero]
    exact List.take_of_length_le (by simp)
  rw [all, if_neg (by simp)]
  have b2 : h2.IsList l xs := by
    obtain ⟨ol, o1, o2⟩ := bp { cls := .type "list_iterator", data := .fields #[.ref l, .int 0 0] }
    exact ⟨ol, (c2.2 l hj).trans o1, o2⟩
  refine wpAny_bind (wpAny_holding (wpAny_pyNext_list_end hh a2 b2 (by simp) fun h3 c3 => ?_))
  simp only [Option.isSome_none, Bool.false_eq_true, if_false]
  exact wpAny_pure (r h3 fun c o n e => c3 c o n (c2.extBut c o n (Heap.get?_push_of_some _ e)))
end
section
variable {X : Cx} {es : List Expr} {pos : Pos}
def gLst (K : PySem.W.Frag) (n : Nat) (t : TGs) : TG := fun v σ H Q => ∃ a xs, v = .ref a ∧ SqL K H a xs ∧ xs.length = n ∧ t xs σ H Q
theorem pg_lst {k : Nat} {t : TGs} {n : Nat} (hc : X.calm = true) (h : PGs X es t) (hn : (assignEach es X.env).length = n) (hst : (assignEach es X.env).findIdx? (·.1) = none) : PG X (.Tuple es k pos) (gLst X.K n t) := by
  refine ⟨fun pins s σ H v u Q I r hw => ?_⟩
  obtain ⟨a, xs, e1, hq, hl, hw⟩ := hw
  subst e1
  cases r
  obtain ⟨its, rv, pl, hz⟩ := I.list hq
  rw [assign_Tuple]
  refine wpAny_bind (wpAny_standAt (apart_list (I.ok.hd hc) pl.isList (by simp [hn, ← hl, rv.length]) hst fun h' hx => ?_))
  have I1 : Inv X pins σ H { s with heap := h' } := I.kept (t' := s.toks) fun b o e => hx b o (Nat.ne_of_lt (Heap.lt_size e)) e
  exact h.run pins _ σ H xs _ Q I1 (by simpa using rv) hw
theorem pg_or {e : Expr} {t t' : TG} (h : PG X e t) (h' : PG X e t') : PG X e (fun v σ H Q => t v σ H Q ∨ t' v σ H Q) := ⟨fun pins s σ H v u Q I r q => q.elim (h.run pins s σ H v u Q I r) (h'.run pins s σ H v u Q I r)⟩
/-- the items of a tuple or a list -/
def seqQ (d : PyData) (K : List PyData → Prop) : Prop := match d with
  | .tuple ds => K ds
  | .list ds => K ds
  | _ => False
theorem q_seqT {ds : List PyData} {K : List PyData → Prop} : seqQ (.tuple ds) K = K ds := rfl
theorem q_seqL {ds : List PyData} {K : List PyData → Prop} : seqQ (.list ds) K = K ds := rfl
def dgS (n : Nat) (t : DGs) (d : PyData) (env : List SD) (P : List SD → Prop) : Prop := seqQ d fun ds => t ds env P
theorem gseq {k n : Nat} {t : DGs} (hl : GLen t n) (hc : X.calm = true) (h : PGs X es (liftGs X.K Z t)) (hn : (assignEach es X.env).length = n := by rfl) (hst : (assignEach es X.env).findIdx? (·.1) = none := by rfl) : PG X (.Tuple es k pos) (liftG X.K Z false (dgS n t)) :=
  PG.of (pg_or (pg_tup hc h hn hst) (pg_lst hc h hn hst)) fun v σ H Q ⟨g, F, env, d, P, k, r, w, q⟩ => by
    have r := r.non
    unfold dgS seqQ at w
    split at w
    · rename_i ds
      obtain ⟨a, xs, rfl, h1, h2⟩ := r.inv_tup
      exact .inl ⟨a, xs, rfl, Evl.ex_t k.fh h1, h2.length.trans (hl _ _ _ w).1, g, F, env, _, P, k, h2, w, q⟩
    · rename_i ds
      obtain ⟨a, xs, rfl, h1, h2⟩ := r.inv_lst
      exact .inr ⟨a, xs, rfl, (h1.mono k.fh).sq, h2.length.trans (hl _ _ _ w).1, g, F, env, _, P, k, h2, w, q⟩
    · exact w.elim
end
end DL

namespace K28
open PySem PySem.Spec PyProof.Rows L2 DL
def q_is_whole (thing : PyData) (K : PyData → Prop) : Prop :=
  vAnd (isiB thing "int") (fun k1 => k1 (.bool (!(isiB thing "bool")))) fun t2 =>
  K t2
def q_is_number (thing : PyData) (many : PyData) (K : PyData → Prop) : Prop :=
  q_is_whole thing fun i1 =>
  bT i1 fun b2 =>
  vAnd b2 (fun k8 => oLe (.int 0) thing fun t3 =>
  bT t3 fun b4 =>
  vAnd b4 (fun k6 => oLt thing many fun t5 =>
  k6 t5) fun t7 =>
  k8 t7) fun t9 =>
  K t9
def qb_is_row_1 (d : PyData) (i : PyData) (s : Unit) (sk : PyData → Unit → Prop) (yd : PyData → PyData → Unit → Prop) : Prop :=
  yd (.bool (isiB d "bool")) i ()
def q_is_row (thing : PyData) (K : PyData → Prop) : Prop :=
  tOr (!(isiB thing "tuple")) (fun k8 => nLen [thing] fun t1 =>
  oLe (.int 1) t1 fun t2 =>
  bT t2 fun b3 =>
  vAnd b3 (fun k5 => oLe t1 (.int (4)) fun t4 =>
  k5 t4) fun t6 =>
  bT t6 fun b7 =>
  k8 (!b7)) fun b9 =>
  bIf b9
  (K (.bool false))
  (itemsQ thing fun l10 =>
  qLc qb_is_row_1 thing l10 [] () fun l11 s13 =>
  nAll [(.list l11)] fun t14 =>
  K t14)
def qb_is_table_1 (d : PyData) (i : PyData) (s : Unit) (sk : PyData → Unit → Prop) (yd : PyData → PyData → Unit → Prop) : Prop :=
  q_is_row d fun i9 =>
  yd i9 i ()
def qb_is_table_2 (d : PyData) (i : PyData) (s : Unit) (sk : PyData → Unit → Prop) (yd : PyData → PyData → Unit → Prop) : Prop :=
  nLen [d] fun t20 =>
  oIx i (.int 0) fun t21 =>
  nLen [t21] fun t22 =>
  oEq t20 t22 fun t23 =>
  yd t23 i ()
def q_is_table (thing : PyData) (K : PyData → Prop) : Prop :=
  tOr (!(isiB thing "tuple")) (fun k17 => nLen [thing] fun t1 =>
  oLe (.int 1) t1 fun t2 =>
  bT t2 fun b3 =>
  vAnd b3 (fun k5 => oLe t1 (.int (4)) fun t4 =>
  k5 t4) fun t6 =>
  bT t6 fun b7 =>
  tOr (!b7) (fun k15 => itemsQ thing fun l8 =>
  qLc qb_is_table_1 thing l8 [] () fun l10 s12 =>
  nAll [(.list l10)] fun t13 =>
  bT t13 fun b14 =>
  k15 (!b14)) fun b16 =>
  k17 b16) fun b18 =>
  bIf b18
  (K (.bool false))
  (itemsQ thing fun l19 =>
  qLc qb_is_table_2 thing l19 [] () fun l24 s26 =>
  nAll [(.list l24)] fun t27 =>
  K t27)
def qb_are_sights_1 (d : PyData) (i : PyData) (s : Unit) (sk : PyData → Unit → Prop) (yd : PyData → PyData → Unit → Prop) : Prop :=
  q_is_table d fun i26 =>
  bT i26 fun b27 =>
  vAnd b27 (fun k31 => nLen [d] fun t28 =>
  oIx i (.int 0) fun t29 =>
  oEq t28 t29 fun t30 =>
  k31 t30) fun t32 =>
  yd t32 i ()
def q_are_sights (thing : PyData) (K : PyData → Prop) : Prop :=
  tOr (!(isiB thing "tuple")) (fun k15 => nLen [thing] fun t1 =>
  oNe t1 (.int 2) fun t2 =>
  bT t2 fun b3 =>
  tOr b3 (fun k13 => oIx thing (.int 0) fun t4 =>
  oAdd (.int (4)) (.int 1) fun t5 =>
  q_is_number t4 t5 fun i6 =>
  bT i6 fun b7 =>
  tOr (!b7) (fun k11 => oIx thing (.int 0) fun t8 =>
  oEq t8 (.int 0) fun t9 =>
  bT t9 fun b10 =>
  k11 b10) fun b12 =>
  k13 b12) fun b14 =>
  k15 b14) fun b16 =>
  bIf b16
  (K (.bool false))
  (oIx thing (.int 1) fun t17 =>
  tOr (!(isiB t17 "tuple")) (fun k22 => oIx thing (.int 1) fun t18 =>
  nLen [t18] fun t19 =>
  oGt t19 (.int (7)) fun t20 =>
  bT t20 fun b21 =>
  k22 b21) fun b23 =>
  bIf b23
  (K (.bool false))
  (oIx thing (.int 1) fun t24 =>
  itemsQ t24 fun l25 =>
  qLc qb_are_sights_1 thing l25 [] () fun l33 s35 =>
  nAll [(.list l33)] fun t36 =>
  K t36))
def q_need_sights (thing : PyData) (K : PyData → Prop) (E : Str → Prop) : Prop :=
  q_are_sights thing fun a1 =>
  bT a1 fun b2 =>
  bIf (!b2)
  (E "NoSights")
  (K .none)
def qb_need_set_1 (E : Str → Prop) (d : PyData) (i : PyData × PyData) (s : Unit) (sk : (PyData × PyData) → Unit → Prop) (yd : PyData → (PyData × PyData) → Unit → Prop) : Prop :=
  q_is_number d i.2 fun i4 =>
  yd i4 (i.1, i.2) ()
def qb_need_set_2 (E : Str → Prop) (d : PyData) (i : PyData) (s : Unit) (sk : PyData → Unit → Prop) (yd : PyData → PyData → Unit → Prop) : Prop :=
  tupQ d fun r =>
  consQ r fun one' r1 =>
  consQ r1 fun other' r2 =>
  nilQ r2 (oLt one' other' fun t14 =>
  yd t14 i ())
def q_need_set (sights : PyData) (thing : PyData) (K : PyData → Prop) (E : Str → Prop) : Prop :=
  oIx sights (.int 1) fun t1 =>
  nLen [t1] fun many2 =>
  tOr (!(isiB thing "tuple")) (fun k10 => itemsQ thing fun l3 =>
  qLc (qb_need_set_1 E) (thing, many2) l3 [] () fun l5 s7 =>
  nAll [(.list l5)] fun t8 =>
  bT t8 fun b9 =>
  k10 (!b9)) fun b11 =>
  bIf b11
  (E "NoSet")
  (oSl thing (some 1) none fun l12 =>
  zipQ [thing, l12] fun l13 =>
  qLc (qb_need_set_2 E) thing l13 [] () fun l15 s17 =>
  nAll [(.list l15)] fun t18 =>
  bT t18 fun b19 =>
  bIf (!b19)
  (E "NoSet")
  (K .none))
def q_need_log (sights : PyData) (thing : PyData) (K : PyData → Prop) (E : Str → Prop) : Prop :=
  oIx sights (.int 0) fun t1 =>
  q_is_number thing t1 fun i2 =>
  bT i2 fun b3 =>
  bIf (!b3)
  (E "NoNumber")
  (K .none)
def qb_is_choice_1 (d : PyData) (i : PyData × PyData) (s : Unit) (sk : (PyData × PyData) → Unit → Prop) (yd : PyData → (PyData × PyData) → Unit → Prop) : Prop :=
  tupQ d fun r =>
  consQ r fun column' r1 =>
  consQ r1 fun table' r2 =>
  nilQ r2 (oIx table' (.int 0) fun t15 =>
  nLen [t15] fun t16 =>
  q_is_number column' t16 fun i17 =>
  yd i17 (i.1, i.2) ())
def q_is_choice (sights : PyData) (log : PyData) (columns : PyData) (K : PyData → Prop) : Prop :=
  oIx sights (.int 0) fun t1 =>
  q_is_number log t1 fun i2 =>
  bT i2 fun b3 =>
  tOr (!b3) (fun k11 => tOr (!(isiB columns "tuple")) (fun k9 => nLen [columns] fun t4 =>
  oIx sights (.int 1) fun t5 =>
  nLen [t5] fun t6 =>
  oNe t4 t6 fun t7 =>
  bT t7 fun b8 =>
  k9 b8) fun b10 =>
  k11 b10) fun b12 =>
  bIf b12
  (K (.bool false))
  (oIx sights (.int 1) fun t13 =>
  zipQ [columns, t13] fun l14 =>
  qLc qb_is_choice_1 (sights, columns) l14 [] () fun l18 s20 =>
  nAll [(.list l18)] fun t21 =>
  K t21)
def qb_chosen_1 (d : PyData) (i : PyData × PyData × PyData) (s : Unit) (sk : (PyData × PyData × PyData) → Unit → Prop) (yd : PyData → (PyData × PyData × PyData) → Unit → Prop) : Prop :=
  tupQ d fun r =>
  consQ r fun ship' r1 =>
  consQ r1 fun table' r2 =>
  nilQ r2 (oIx table' i.2.1 fun t3 =>
  oIx i.2.2 ship' fun t4 =>
  oIx t3 t4 fun t5 =>
  bT t5 fun b6 =>
  bIf b6
  (yd ship' (i.1, i.2.1, i.2.2) ())
  (sk (i.1, i.2.1, i.2.2) ()))
def q_chosen (sights : PyData) (log : PyData) (columns : PyData) (K : PyData → Prop) : Prop :=
  oIx sights (.int 1) fun t1 =>
  enumQ [t1] fun l2 =>
  qLc qb_chosen_1 (sights, log, columns) l2 [] () fun l7 s9 =>
  nTuple [(.list l7)] fun t10 =>
  K t10
def q_set_of (sights : PyData) (log : PyData) (columns : PyData) (K : PyData → Prop) (E : Str → Prop) : Prop :=
  q_need_sights sights (fun n1 =>
  q_is_choice sights log columns fun i2 =>
  bT i2 fun b3 =>
  bIf (!b3)
  (E "NoNumber")
  (q_chosen sights log columns fun c4 =>
  K c4)) E
def q_is_barred (sights : PyData) (ships : PyData) (log : PyData) (ship : PyData) (K : PyData → Prop) : Prop :=
  oIn ship ships fun t1 =>
  oIx sights (.int 1) fun t2 =>
  oIx t2 ship fun t3 =>
  oIx t3 log fun t4 =>
  oNin t1 t4 fun t5 =>
  K t5
def qb_bars_by_1 (d : PyData) (i : PyData × PyData × PyData) (s : Unit) (sk : (PyData × PyData × PyData) → Unit → Prop) (yd : PyData → (PyData × PyData × PyData) → Unit → Prop) : Prop :=
  q_is_barred i.1 i.2.1 i.2.2 d fun i4 =>
  bT i4 fun b5 =>
  bIf b5
  (yd d (i.1, i.2.1, i.2.2) ())
  (sk (i.1, i.2.1, i.2.2) ())
def q_bars_by (sights : PyData) (ships : PyData) (log : PyData) (K : PyData → Prop) : Prop :=
  oIx sights (.int 1) fun t1 =>
  nLen [t1] fun t2 =>
  rng1 [t2] fun l3 =>
  qLc qb_bars_by_1 (sights, ships, log) l3 [] () fun l6 s8 =>
  K (.list l6)
def qb_columns_by_1 (d : PyData) (i : PyData × PyData × PyData) (s : Unit) (sk : (PyData × PyData × PyData) → Unit → Prop) (yd : PyData → (PyData × PyData × PyData) → Unit → Prop) : Prop :=
  tupQ d fun r =>
  consQ r fun ship' r1 =>
  consQ r1 fun table' r2 =>
  nilQ r2 (oIx table' i.2.2 fun t3 =>
  tupQ t3 fun l4 =>
  oIn ship' i.2.1 fun t5 =>
  idxQ l4 t5 fun t6 =>
  yd t6 (i.1, i.2.1, i.2.2) ())
def q_columns_by (sights : PyData) (ships : PyData) (log : PyData) (K : PyData → Prop) : Prop :=
  oIx sights (.int 1) fun t1 =>
  enumQ [t1] fun l2 =>
  qLc qb_columns_by_1 (sights, ships, log) l2 [] () fun l7 s9 =>
  nTuple [(.list l7)] fun t10 =>
  K t10
def qb_may_be_1 (E : Str → Prop) (K : PyData → Prop) (d : PyData) (i : PyData × PyData) (s : List PyData) (nx bk : (PyData × PyData) → (List PyData) → Prop) : Prop :=
  q_bars_by i.1 i.2 d fun found5 =>
  oEmp false found5 (.list []) fun t6 =>
  bT t6 fun b7 =>
  bIf b7
  (q_columns_by i.1 i.2 d fun c8 =>
  K (.tuple [(.str "may"), d, c8]))
  (oIx found5 (.int 0) fun t9 =>
  apQ s t9 fun bars10 =>
  nx (i.1, i.2) bars10)
def q_may_be (sights : PyData) (ships : PyData) (K : PyData → Prop) (E : Str → Prop) : Prop :=
  q_need_sights sights (fun n1 =>
  q_need_set sights ships (fun n2 =>
  oIx sights (.int 0) fun t3 =>
  rng1 [t3] fun l4 =>
  qFor (qb_may_be_1 E K) (sights, ships) l4 [] fun s12 =>
  K (.tuple [(.str "barred"), (.tuple s12)])) E) E
def qb_are_bars_1 (d : PyData) (i : PyData × PyData × PyData) (s : Unit) (sk : (PyData × PyData × PyData) → Unit → Prop) (yd : PyData → (PyData × PyData × PyData) → Unit → Prop) : Prop :=
  oIx i.1 (.int 1) fun t8 =>
  nLen [t8] fun t9 =>
  q_is_number d t9 fun i10 =>
  yd i10 (i.1, i.2.1, i.2.2) ()
def qb_are_bars_2 (d : PyData) (i : PyData × PyData × PyData) (s : Unit) (sk : (PyData × PyData × PyData) → Unit → Prop) (yd : PyData → (PyData × PyData × PyData) → Unit → Prop) : Prop :=
  tupQ d fun r =>
  consQ r fun log' r1 =>
  consQ r1 fun ship' r2 =>
  nilQ r2 (q_is_barred i.1 i.2.1 log' ship' fun i17 =>
  yd i17 (i.1, i.2.1, i.2.2) ())
def q_are_bars (sights : PyData) (ships : PyData) (thing : PyData) (K : PyData → Prop) : Prop :=
  tOr (!(isiB thing "tuple")) (fun k5 => nLen [thing] fun t1 =>
  oIx sights (.int 0) fun t2 =>
  oNe t1 t2 fun t3 =>
  bT t3 fun b4 =>
  k5 b4) fun b6 =>
  bIf b6
  (K (.bool false))
  (itemsQ thing fun l7 =>
  qLc qb_are_bars_1 (sights, ships, thing) l7 [] () fun l11 s13 =>
  nAll [(.list l11)] fun t14 =>
  bT t14 fun b15 =>
  bIf (!b15)
  (K (.bool false))
  (enumQ [thing] fun l16 =>
  qLc qb_are_bars_2 (sights, ships, thing) l16 [] () fun l18 s20 =>
  nAll [(.list l18)] fun t21 =>
  K t21))
def q_shows_set (sights : PyData) (ships : PyData) (thing : PyData) (K : PyData → Prop) (E : Str → Prop) : Prop :=
  q_need_sights sights (fun n1 =>
  q_need_set sights ships (fun n2 =>
  tOr (!(isiB thing "tuple")) (fun k9 => nLen [thing] fun t3 =>
  oNin t3 (.tuple [(.int 2), (.int 3)]) fun t4 =>
  bT t4 fun b5 =>
  tOr b5 (fun k7 => oIx thing (.int 0) fun t6 =>
  k7 (!(isiB t6 "str"))) fun b8 =>
  k9 b8) fun b10 =>
  bIf b10
  (K (.bool false))
  (oIx thing (.int 0) fun t11 =>
  oEq t11 (.str "may") fun t12 =>
  bT t12 fun b13 =>
  tAnd b13 (fun k17 => nLen [thing] fun t14 =>
  oEq t14 (.int 3) fun t15 =>
  bT t15 fun b16 =>
  k17 b16) fun b18 =>
  bIf b18
  (oIx thing (.int 1) fun t19 =>
  oIx thing (.int 2) fun t20 =>
  q_is_choice sights t19 t20 fun i21 =>
  bT i21 fun b22 =>
  vAnd b22 (fun k27 => oIx thing (.int 1) fun t23 =>
  oIx thing (.int 2) fun t24 =>
  q_chosen sights t23 t24 fun c25 =>
  oEq c25 ships fun t26 =>
  k27 t26) fun t28 =>
  K t28)
  (oIx thing (.int 0) fun t29 =>
  oEq t29 (.str "barred") fun t30 =>
  bT t30 fun b31 =>
  vAnd b31 (fun k39 => nLen [thing] fun t32 =>
  oEq t32 (.int 2) fun t33 =>
  bT t33 fun b34 =>
  vAnd b34 (fun k37 => oIx thing (.int 1) fun t35 =>
  q_are_bars sights ships t35 fun a36 =>
  k37 a36) fun t38 =>
  k39 t38) fun t40 =>
  K t40))) E) E
def qb_sure_by_1 (d : PyData) (i : PyData × PyData) (s : Unit) (sk : (PyData × PyData) → Unit → Prop) (yd : PyData → (PyData × PyData) → Unit → Prop) : Prop :=
  tupQ d fun r =>
  consQ r fun ship' r1 =>
  consQ r1 fun table' r2 =>
  nilQ r2 (oIx table' i.2 fun t3 =>
  oNin (.bool false) t3 fun t4 =>
  bT t4 fun b5 =>
  bIf b5
  (yd ship' (i.1, i.2) ())
  (sk (i.1, i.2) ()))
def q_sure_by (sights : PyData) (log : PyData) (K : PyData → Prop) : Prop :=
  oIx sights (.int 1) fun t1 =>
  enumQ [t1] fun l2 =>
  qLc qb_sure_by_1 (sights, log) l2 [] () fun l6 s8 =>
  nTuple [(.list l6)] fun t9 =>
  K t9
def qb_some_by_1 (d : PyData) (i : PyData × PyData) (s : Unit) (sk : (PyData × PyData) → Unit → Prop) (yd : PyData → (PyData × PyData) → Unit → Prop) : Prop :=
  tupQ d fun r =>
  consQ r fun ship' r1 =>
  consQ r1 fun table' r2 =>
  nilQ r2 (oIx table' i.2 fun t3 =>
  oIn (.bool true) t3 fun t4 =>
  bT t4 fun b5 =>
  bIf b5
  (yd ship' (i.1, i.2) ())
  (sk (i.1, i.2) ()))
def q_some_by (sights : PyData) (log : PyData) (K : PyData → Prop) : Prop :=
  oIx sights (.int 1) fun t1 =>
  enumQ [t1] fun l2 =>
  qLc qb_some_by_1 (sights, log) l2 [] () fun l6 s8 =>
  nTuple [(.list l6)] fun t9 =>
  K t9
def qb_sets_by_2 (d : PyData) (i : PyData × PyData × PyData) (s : Unit) (sk : (PyData × PyData × PyData) → Unit → Prop) (yd : PyData → (PyData × PyData × PyData) → Unit → Prop) : Prop :=
  oAdd d (.tuple [i.2.2]) fun t5 =>
  yd t5 (i.1, i.2.1, i.2.2) ()
def qb_sets_by_1 (K : PyData → Prop) (d : PyData) (i : PyData) (s : PyData) (nx bk : PyData → PyData → Prop) : Prop :=
  itemsQ s fun l4 =>
  qLc qb_sets_by_2 (i, s, d) l4 [] () fun l6 s8 =>
  oIn d i fun t9 =>
  bT t9 fun b10 =>
  vIf b10 (fun k13 => k13 (.list l6)) (fun k13 => oAdd s (.list l6) fun t11 =>
  k13 t11) fun found12 =>
  nx i found12
def q_sets_by (sights : PyData) (log : PyData) (K : PyData → Prop) : Prop :=
  q_sure_by sights log fun sure1 =>
  q_some_by sights log fun s2 =>
  itemsQ s2 fun l3 =>
  qFor (qb_sets_by_1 K) sure1 l3 (.list [(.tuple [])]) fun s15 =>
  K s15
def qb_all_sets_2 (E : Str → Prop) (K : PyData → Prop) (d : PyData) (i : PyData) (s : KVD) (nx bk : PyData → KVD → Prop) : Prop :=
  putQ s d (.bool true) fun found6 =>
  nx i found6
def qb_all_sets_1 (E : Str → Prop) (K : PyData → Prop) (d : PyData) (i : PyData) (s : KVD) (nx bk : PyData → KVD → Prop) : Prop :=
  q_sets_by i d fun s4 =>
  itemsQ s4 fun l5 =>
  qFor (qb_all_sets_2 E K) i l5 s fun s8 =>
  nx i s8
def q_all_sets (sights : PyData) (K : PyData → Prop) (E : Str → Prop) : Prop :=
  q_need_sights sights (fun n1 =>
  oIx sights (.int 0) fun t2 =>
  rng1 [t2] fun l3 =>
  qFor (qb_all_sets_1 E K) sights l3 [] fun s10 =>
  sortKQ s10 fun l11 =>
  nTuple [(.list l11)] fun t12 =>
  K t12) E
def qb_how_many_2 (E : Str → Prop) (K : PyData → Prop) (d : PyData) (i : PyData × PyData × PyData × PyData) (s : PyData) (nx bk : (PyData × PyData × PyData × PyData) → PyData → Prop) : Prop :=
  tupQ d fun r7 =>
  consQ r7 fun ship8 r9 =>
  consQ r9 fun table10 r11 =>
  nilQ r11 (oIx table10 i.2.2.2 fun t12 =>
  tupQ t12 fun l13 =>
  oIn ship8 i.2.1 fun t14 =>
  cntQ l13 t14 fun t15 =>
  oMul s t15 fun many16 =>
  nx (i.1, i.2.1, i.2.2.1, i.2.2.2) many16)
def qb_how_many_1 (E : Str → Prop) (K : PyData → Prop) (d : PyData) (i : PyData × PyData) (s : PyData) (nx bk : (PyData × PyData) → PyData → Prop) : Prop :=
  oIx i.1 (.int 1) fun t5 =>
  enumQ [t5] fun l6 =>
  qFor (qb_how_many_2 E K) (i.1, i.2, s, d) l6 (.int 1) fun s18 =>
  oAdd s s18 fun found19 =>
  nx (i.1, i.2) found19
def q_how_many (sights : PyData) (ships : PyData) (K : PyData → Prop) (E : Str → Prop) : Prop :=
  q_need_sights sights (fun n1 =>
  q_need_set sights ships (fun n2 =>
  oIx sights (.int 0) fun t3 =>
  rng1 [t3] fun l4 =>
  qFor (qb_how_many_1 E K) (sights, ships) l4 (.int 0) fun s21 =>
  K s21) E) E
def qb_must_1 (E : Str → Prop) (d : PyData) (i : PyData) (s : Unit) (sk : PyData → Unit → Prop) (yd : PyData → PyData → Unit → Prop) : Prop :=
  q_sure_by i d fun s4 =>
  yd s4 i ()
def qb_must_3 (E : Str → Prop) (d : PyData) (i : PyData × PyData) (s : Unit) (sk : (PyData × PyData) → Unit → Prop) (yd : PyData → (PyData × PyData) → Unit → Prop) : Prop :=
  oIn i.2 d fun t11 =>
  yd t11 (i.1, i.2) ()
def qb_must_2 (E : Str → Prop) (d : PyData) (i : PyData) (s : Unit) (sk : PyData → Unit → Prop) (yd : PyData → PyData → Unit → Prop) : Prop :=
  itemsQ i fun l10 =>
  qLc (qb_must_3 E) (i, d) l10 [] () fun l12 s14 =>
  nAll [(.list l12)] fun t15 =>
  bT t15 fun b16 =>
  bIf b16
  (yd d i ())
  (sk i ())
def q_must (sights : PyData) (K : PyData → Prop) (E : Str → Prop) : Prop :=
  q_need_sights sights (fun n1 =>
  oIx sights (.int 0) fun t2 =>
  rng1 [t2] fun l3 =>
  qLc (qb_must_1 E) sights l3 [] () fun l5 s7 =>
  oIx (.list l5) (.int 0) fun t8 =>
  itemsQ t8 fun l9 =>
  qLc (qb_must_2 E) (.list l5) l9 [] () fun l17 s19 =>
  nTuple [(.list l17)] fun t20 =>
  K t20) E
def qb_can_1 (E : Str → Prop) (d : PyData) (i : PyData) (s : Unit) (sk : PyData → Unit → Prop) (yd : PyData → PyData → Unit → Prop) : Prop :=
  q_some_by i d fun s4 =>
  yd s4 i ()
def qb_can_3 (E : Str → Prop) (d : PyData) (i : PyData × PyData × PyData) (s : Unit) (sk : (PyData × PyData × PyData) → Unit → Prop) (yd : PyData → (PyData × PyData × PyData) → Unit → Prop) : Prop :=
  oIn i.2.2 d fun t12 =>
  yd t12 (i.1, i.2.1, i.2.2) ()
def qb_can_2 (E : Str → Prop) (d : PyData) (i : PyData × PyData) (s : Unit) (sk : (PyData × PyData) → Unit → Prop) (yd : PyData → (PyData × PyData) → Unit → Prop) : Prop :=
  itemsQ i.2 fun l11 =>
  qLc (qb_can_3 E) (i.1, i.2, d) l11 [] () fun l13 s15 =>
  nAny [(.list l13)] fun t16 =>
  bT t16 fun b17 =>
  bIf b17
  (yd d (i.1, i.2) ())
  (sk (i.1, i.2) ())
def q_can (sights : PyData) (K : PyData → Prop) (E : Str → Prop) : Prop :=
  q_need_sights sights (fun n1 =>
  oIx sights (.int 0) fun t2 =>
  rng1 [t2] fun l3 =>
  qLc (qb_can_1 E) sights l3 [] () fun l5 s7 =>
  oIx sights (.int 1) fun t8 =>
  nLen [t8] fun t9 =>
  rng1 [t9] fun l10 =>
  qLc (qb_can_2 E) (sights, (.list l5)) l10 [] () fun l18 s20 =>
  nTuple [(.list l18)] fun t21 =>
  K t21) E
def q_must_by (sights : PyData) (log : PyData) (K : PyData → Prop) (E : Str → Prop) : Prop :=
  q_need_sights sights (fun n1 =>
  q_need_log sights log (fun n2 =>
  q_sure_by sights log fun s3 =>
  K s3) E) E
def q_can_by (sights : PyData) (log : PyData) (K : PyData → Prop) (E : Str → Prop) : Prop :=
  q_need_sights sights (fun n1 =>
  q_need_log sights log (fun n2 =>
  q_some_by sights log fun s3 =>
  K s3) E) E
def q_law_pot (script : PyData) (k : PyData) (K : List PyData → Prop) : Prop :=
  nLen [script] fun t1 =>
  oLt k t1 fun t2 =>
  bT t2 fun b3 =>
  jn (fun J10 => bIf b3
  (oIx script k fun t4 =>
  nAbs [t4] fun t5 =>
  oPow (.int 10) (.int 60) fun t6 =>
  oPow t6 (.int 10) fun t7 =>
  oMod t5 t7 fun cell8 =>
  J10 cell8)
  (J10 (.int 0))) fun cell9 =>
  oPow (.int 10) (.int 18) fun t11 =>
  oGe cell9 t11 fun t12 =>
  nInt [t12] fun t13 =>
  oMul cell9 t13 fun t14 =>
  oMod cell9 (.int 2147483629) fun t15 =>
  oMul (.int 7919) k fun t16 =>
  oAdd t15 t16 fun t17 =>
  oAdd t17 (.int 1) fun t18 =>
  oPow t18 (.int 5) fun t19 =>
  oMod t19 (.int 2147483647) fun t20 =>
  K [t14, t20, (.int 0)]
def q_law_take (pot_here : List PyData) (many : PyData) (K : PyData → List PyData → Prop) : Prop :=
  ixQ pot_here (.int 0) fun t1 =>
  oGt t1 (.int 0) fun t2 =>
  bT t2 fun b3 =>
  bIf b3
  (ixQ pot_here (.int 0) fun t4 =>
  oMod t4 many fun found5 =>
  ixQ pot_here (.int 0) fun t6 =>
  oDiv t6 many fun t7 =>
  stQ pot_here (.int 0) t7 fun pot_here8 =>
  K found5 pot_here8)
  (ixQ pot_here (.int 2) fun t9 =>
  oAdd t9 (.int 1) fun t10 =>
  stQ pot_here (.int 2) t10 fun pot_here11 =>
  ixQ pot_here11 (.int 1) fun t12 =>
  ixQ pot_here11 (.int 2) fun t13 =>
  oMul (.int 104729) t13 fun t14 =>
  oAdd t12 t14 fun t15 =>
  oPow t15 (.int 3) fun t16 =>
  oMod t16 (.int 2147483587) fun one17 =>
  ixQ pot_here11 (.int 1) fun t18 =>
  oMod t18 (.int 65537) fun t19 =>
  oAdd one17 t19 fun t20 =>
  ixQ pot_here11 (.int 2) fun t21 =>
  oMul (.int 31) t21 fun t22 =>
  oAdd t20 t22 fun t23 =>
  oPow t23 (.int 5) fun t24 =>
  oMod t24 (.int 2147483579) fun other25 =>
  oMul other25 (.int 48271) fun t26 =>
  oMod t26 (.int 2147483563) fun t27 =>
  oDiv t27 (.int 32) fun t28 =>
  oMod t28 many fun t29 =>
  K t29 pot_here11)
def qb_law_table_2 (d : PyData) (i : PyData × PyData × PyData × PyData × PyData) (s : List PyData) (sk : (PyData × PyData × PyData × PyData × PyData) → (List PyData) → Prop) (yd : PyData → (PyData × PyData × PyData × PyData × PyData) → (List PyData) → Prop) : Prop :=
  q_law_take s (.int 2) fun t11 pot_here12 =>
  oEq t11 (.int 0) fun t13 =>
  yd t13 (i.1, i.2.1, i.2.2.1, i.2.2.2.1, i.2.2.2.2) pot_here12
def qb_law_table_1 (d : PyData) (i : PyData × PyData × PyData × PyData) (s : List PyData) (sk : (PyData × PyData × PyData × PyData) → (List PyData) → Prop) (yd : PyData → (PyData × PyData × PyData × PyData) → (List PyData) → Prop) : Prop :=
  rng1 [i.2.1] fun l10 =>
  qLc qb_law_table_2 (i.1, i.2.1, i.2.2.1, i.2.2.2, d) l10 [] s fun l14 s16 =>
  yd (rowD l14) (i.1, i.2.1, i.2.2.1, i.2.2.2) s16
def qb_law_table_4 (d : PyData) (i : List PyData × PyData × PyData × PyData × PyData × PyData) (s : Unit) (sk : (List PyData × PyData × PyData × PyData × PyData × PyData) → Unit → Prop) (yd : PyData → (List PyData × PyData × PyData × PyData × PyData × PyData) → Unit → Prop) : Prop :=
  yd i.2.2.2.2.1 (i.1, i.2.1, i.2.2.1, i.2.2.2.1, i.2.2.2.2.1, i.2.2.2.2.2) ()
def qb_law_table_3 (d : PyData) (i : List PyData × PyData × PyData × PyData × PyData) (s : Unit) (sk : (List PyData × PyData × PyData × PyData × PyData) → Unit → Prop) (yd : PyData → (List PyData × PyData × PyData × PyData × PyData) → Unit → Prop) : Prop :=
  rng1 [i.2.2.1] fun l23 =>
  qLc qb_law_table_4 (i.1, i.2.1, i.2.2.1, i.2.2.2.1, i.2.2.2.2, d) l23 [] () fun l24 s26 =>
  yd (rowD l24) (i.1, i.2.1, i.2.2.1, i.2.2.2.1, i.2.2.2.2) ()
def qb_law_table_5 (d : PyData) (i : List PyData × PyData × List PyData) (s : Unit) (sk : (List PyData × PyData × List PyData) → Unit → Prop) (yd : PyData → (List PyData × PyData × List PyData) → Unit → Prop) : Prop :=
  ixQ i.2.2 (.int 0) fun t57 =>
  yd t57 (i.1, i.2.1, i.2.2) ()
def qb_law_table_6 (d : PyData) (i : List PyData × PyData) (s : Unit) (sk : (List PyData × PyData) → Unit → Prop) (yd : PyData → (List PyData × PyData) → Unit → Prop) : Prop :=
  nTuple [d] fun t64 =>
  yd t64 (i.1, i.2) ()
def q_law_table (pot_here : List PyData) (rows : PyData) (K : PyData → List PyData → Prop) : Prop :=
  bIf (atoms [.cel true pot_here, .dat rows])
  (q_law_take pot_here (.int 4) fun t1 pot_here2 =>
  oAdd (.int 1) t1 fun many3 =>
  q_law_take pot_here2 (.int 6) fun way4 pot_here5 =>
  q_law_take pot_here5 (.int 2) fun t6 pot_here7 =>
  oEq t6 (.int 0) fun t8 =>
  rng1 [rows] fun l9 =>
  qLc qb_law_table_1 (rows, many3, way4, t8) l9 [] pot_here7 fun l17 s19 =>
  oGt way4 (.int 2) fun t20 =>
  bT t20 fun b21 =>
  jn (fun J31 => bIf b21
  (rng1 [rows] fun l22 =>
  qLc qb_law_table_3 (s19, rows, many3, way4, t8) l22 [] () fun l27 s29 =>
  J31 l27)
  (J31 l17)) fun found30 =>
  oEq way4 (.int 4) fun t32 =>
  bT t32 fun b33 =>
  jn (fun J43 => bIf b33
  (bT t8 fun b34 =>
  q_law_take s19 rows fun t35 pot_here36 =>
  ixQ found30 t35 fun row37 =>
  q_law_take pot_here36 many3 fun t38 pot_here39 =>
  bIf (lfX [.cel true pot_here39, .dat rows, .dat many3, .dat way4, .dat t8, .cel false found30, .un, .un] 5)
  (neQ found30 row37 t38 (.bool (!b34)) fun found40 =>
  J43 pot_here39 found40)
  False)
  (J43 s19 found30)) fun pot_here41 found42 =>
  oEq way4 (.int 5) fun t44 =>
  bT t44 fun b45 =>
  jn (fun J53 => bIf b45
  (bT t8 fun b46 =>
  repQ (.bool (!b46)) many3 fun l47 =>
  q_law_take pot_here41 rows fun t48 pot_here49 =>
  stQ found42 t48 (.list l47) fun found50 =>
  J53 pot_here49 found50)
  (J53 pot_here41 found42)) fun pot_here51 found52 =>
  oEq way4 (.int 2) fun t54 =>
  bT t54 fun b55 =>
  jn (fun J62 => bIf b55
  (rng1 [rows] fun l56 =>
  qLc qb_law_table_5 (pot_here51, rows, found52) l56 [] () fun l58 s60 =>
  J62 l58)
  (J62 found52)) fun found61 =>
  itemsQ (.list found61) fun l63 =>
  qLc qb_law_table_6 (pot_here51, (.list found61)) l63 [] () fun l65 s67 =>
  nTuple [(.list l65)] fun t68 =>
  K t68 pot_here51)
  False
def qb_law_sights_1 (d : PyData) (i : PyData × PyData) (s : List PyData) (sk : (PyData × PyData) → (List PyData) → Prop) (yd : PyData → (PyData × PyData) → (List PyData) → Prop) : Prop :=
  q_law_table s i.1 fun t11 pot_here12 =>
  yd t11 (i.1, i.2) pot_here12
def q_law_sights (pot_here : List PyData) (most : PyData) (K : PyData → List PyData → Prop) : Prop :=
  q_law_take pot_here (.int 4) fun t1 pot_here2 =>
  oAdd (.int 1) t1 fun logs3 =>
  oAdd most (.int 1) fun t4 =>
  q_law_take pot_here2 t4 fun t5 pot_here6 =>
  q_law_take pot_here6 (.int 2) fun t7 pot_here8 =>
  oIx (.list [t5, most]) t7 fun many9 =>
  rng1 [many9] fun l10 =>
  qLc qb_law_sights_1 (logs3, many9) l10 [] pot_here8 fun l13 s15 =>
  nTuple [(.list l13)] fun t16 =>
  K (.tuple [logs3, t16]) s15
def q_law_sort (caught : PyData) (K : PyData → Prop) : Prop :=
  isxQ caught ["NoLogs"] fun b1 =>
  isxQ caught ["NoChase"] fun b2 =>
  isxQ caught ["NoMiles"] fun b3 =>
  isxQ caught ["NoTable"] fun b4 =>
  isxQ caught ["NoSights"] fun b5 =>
  isxQ caught ["NoSet"] fun b6 =>
  catN (.list [(.bool b1), (.bool b2), (.bool b3)]) (.list [(.bool b4), (.bool b5), (.bool b6)]) fun l7 =>
  isxQ caught ["NoNumber"] fun b8 =>
  apQ l7 (.bool b8) fun kinds9 =>
  isxQ caught ["NoWeights", "NoPart", "NoLog", "NoRoll", "NoName", "NoHour", "NoScheme", "NoCrew", "NoMan", "NoSale"] fun b10 =>
  bIf b10
  (K (.str "odd"))
  (isxQ caught ["NoCrews", "NoPages", "NoPage", "NoPrize", "NoBalances", "NoMoney", "NoChange", "NoText", "NoRow"] fun b11 =>
  bIf b11
  (K (.str "odd"))
  (lstQ (.list kinds9) fun l12 =>
  cntQ l12 (.bool true) fun t13 =>
  oNe t13 (.int 1) fun t14 =>
  bT t14 fun b15 =>
  tOr b15 (fun k20 => isxQ caught ["TooMany"] fun b16 =>
  tOr b16 (fun k18 => isvQ caught fun b17 =>
  k18 (!b17)) fun b19 =>
  k20 b19) fun b21 =>
  bIf b21
  (K (.str "odd"))
  (lstQ (.list kinds9) fun l22 =>
  idxQ l22 (.bool true) fun t23 =>
  oIx (.list [(.str "logs"), (.str "chase"), (.str "miles"), (.str "table"), (.str "sights"), (.str "set"), (.str "number")]) t23 fun t24 =>
  K t24)))
def qb_law_no_sights_1 (K : PyData → List PyData → Prop) (d : PyData) (i : List PyData × PyData × PyData × PyData × List PyData) (s : List PyData) (nx bk : (List PyData × PyData × PyData × PyData × List PyData) → (List PyData) → Prop) : Prop :=
  oSl i.2.2.2.1 none (some (-1)) fun l35 =>
  oAdd l35 (.tuple [d]) fun t36 =>
  apQ s t36 fun bad37 =>
  nx (i.1, i.2.1, i.2.2.1, i.2.2.2.1, i.2.2.2.2) bad37
def qb_law_no_sights_2 (K : PyData → List PyData → Prop) (d : PyData) (i : List PyData × PyData × PyData × PyData) (s : List PyData) (nx bk : (List PyData × PyData × PyData × PyData) → (List PyData) → Prop) : Prop :=
  soQ i.2.2.2 fun o46 =>
  oSl i.2.2.1 none o46 fun l47 =>
  oAdd l47 (.tuple [d]) fun t48 =>
  soQ i.2.2.2 fun o49 =>
  oSl i.2.2.1 o49 (some 6) fun l50 =>
  oAdd t48 l50 fun t51 =>
  apQ s (.tuple [i.2.1, t51]) fun some_52 =>
  nx (i.1, i.2.1, i.2.2.1, i.2.2.2) some_52
def q_law_no_sights (pot_here : List PyData) (sights_here : PyData) (K : PyData → List PyData → Prop) : Prop :=
  tupQ sights_here fun r1 =>
  consQ r1 fun logs2 r3 =>
  consQ r3 fun tables4 r5 =>
  nilQ r5 (q_law_table pot_here logs2 fun other6 pot_here7 =>
  oIx other6 (.int 0) fun row8 =>
  oMul (.tuple [other6]) (.int 8) fun t9 =>
  oMod logs2 (.int 4) fun t10 =>
  oAdd t10 (.int 1) fun t11 =>
  oSl tables4 none (some 6) fun l12 =>
  oAdd (.tuple [other6]) l12 fun t13 =>
  nList [tables4] fun l14 =>
  catN (.list [(.tuple [logs2, t9]), (.tuple [t11, t13]), (.tuple [(.int 0), tables4]), (.tuple [(.int 5), tables4]), (.tuple [(.bool true), tables4]), .none]) (.list [(.tuple [logs2, (.list l14)]), (.list [logs2, tables4]), (.tuple [logs2]), (.tuple [logs2, tables4, (.int 0)]), (.tuple [tables4, logs2]), (.tuple [])]) fun l15 =>
  nStr [logs2] fun t16 =>
  apQ l15 (.tuple [t16, tables4]) fun some_17 =>
  catN (.list some_17) (.list [(.tuple [logs2, .none]), (.dict []), (.int 0), (.tuple [(.int (-1)), (.tuple [])])]) fun l18 =>
  oSl other6 (some 1) none fun l19 =>
  oAdd other6 (.tuple [row8]) fun t20 =>
  nList [other6] fun l21 =>
  oMul (.tuple [(.bool true)]) (.int 4) fun t22 =>
  oAdd row8 t22 fun t23 =>
  oMul (.tuple [t23]) logs2 fun t24 =>
  oMul (.tuple [(.tuple [(.int 1)])]) logs2 fun t25 =>
  oMul (.tuple [(.bool true)]) (.int 4) fun t26 =>
  oAdd row8 t26 fun t27 =>
  oSl row8 (some 1) none fun l28 =>
  oAdd (.tuple [(.int 1)]) l28 fun t29 =>
  nList [row8] fun l30 =>
  oSl row8 (some 1) none fun l31 =>
  oAdd (.tuple [.none]) l31 fun t32 =>
  oIx row8 (.int 0) fun t33 =>
  itemsQ (.tuple [t27, t29, (.list l30), t32, (.tuple []), t33]) fun l34 =>
  qFor (qb_law_no_sights_1 K) (pot_here7, logs2, tables4, other6, l18) l34 [l19, t20, (.list l21), .none, t24, t25] fun s39 =>
  oSl tables4 none (some 6) fun l40 =>
  nLen [l40] fun t41 =>
  oAdd t41 (.int 1) fun t42 =>
  q_law_take pot_here7 t42 fun at_43 pot_here44 =>
  itemsQ (.list s39) fun l45 =>
  qFor (qb_law_no_sights_2 K) (pot_here44, logs2, tables4, at_43) l45 l18 fun s54 =>
  q_law_take pot_here44 (.int 29) fun t55 pot_here56 =>
  ixQ s54 t55 fun t57 =>
  K t57 pot_here56)
def q_law_no_set (pot_here : List PyData) (many : PyData) (K : PyData → List PyData → Prop) : Prop :=
  oAdd many (.int 1) fun t1 =>
  rng1 [t1] fun l2 =>
  oPow (.int 10) (.int 39) fun t3 =>
  oAdd (.list [(.tuple [many]), (.tuple [(.int (-1))]), (.tuple [(.int 0), (.int 0)]), (.tuple [(.int 1), (.int 0)]), (.list [(.int 0)]), (.list []), .none, (.int 0), (.str ""), (.dict []), (.tuple [(.bool true)]), (.tuple [(.bool false)]), (.tuple [.none]), (.tuple [(.str "0")]), (.tuple [(.tuple [(.int 0)])])]) (.list [(.tuple [(.int 0), many]), (.tuple [(.int 0), (.int 1), (.int 1)]), (.tuple l2), (.tuple [t3])]) fun t4 =>
  q_law_take pot_here (.int 19) fun t5 pot_here6 =>
  oIx t4 t5 fun t7 =>
  K t7 pot_here6
def q_law_no_log (pot_here : List PyData) (logs : PyData) (K : PyData → List PyData → Prop) : Prop :=
  oPow (.int 10) (.int 39) fun t1 =>
  oSub (.int 0) logs fun t2 =>
  oAdd logs (.int 1) fun t3 =>
  q_law_take pot_here (.int 12) fun t4 pot_here5 =>
  oIx (.list [logs, (.int (-1)), (.bool true), (.bool false), .none, (.str "0"), (.tuple [(.int 0)]), (.list [(.int 0)]), t1, t2, t3, (.dict [])]) t4 fun t6 =>
  K t6 pot_here5
def qb_law_no_columns_1 (d : PyData) (i : List PyData × PyData) (s : Unit) (sk : (List PyData × PyData) → Unit → Prop) (yd : PyData → (List PyData × PyData) → Unit → Prop) : Prop :=
  yd (.int 0) (i.1, i.2) ()
def qb_law_no_columns_2 (K : PyData → List PyData → Prop) (d : PyData) (i : List PyData × PyData × PyData) (s : List PyData) (nx bk : (List PyData × PyData × PyData) → (List PyData) → Prop) : Prop :=
  soQ i.2.2 fun o21 =>
  oSl i.2.1 none o21 fun l22 =>
  oAdd l22 (.tuple [d]) fun t23 =>
  oAdd i.2.2 (.int 1) fun t24 =>
  soQ t24 fun o25 =>
  oSl i.2.1 o25 none fun l26 =>
  oAdd t23 l26 fun t27 =>
  apQ s t27 fun some_28 =>
  nx (i.1, i.2.1, i.2.2) some_28
def q_law_no_columns (pot_here : List PyData) (sights_here : PyData) (K : PyData → List PyData → Prop) : Prop :=
  oIx sights_here (.int 1) fun t1 =>
  itemsQ t1 fun l2 =>
  qLc qb_law_no_columns_1 (pot_here, sights_here) l2 [] () fun l3 s5 =>
  nTuple [(.list l3)] fun good6 =>
  oAdd good6 (.tuple [(.int 0)]) fun t7 =>
  nList [good6] fun l8 =>
  oAdd good6 (.tuple [.none]) fun t9 =>
  oEmp true good6 (.tuple []) fun t10 =>
  bT t10 fun b11 =>
  jn (fun J35 => bIf b11
  (nLen [good6] fun t12 =>
  q_law_take pot_here t12 fun at_13 pot_here14 =>
  oIx sights_here (.int 1) fun t15 =>
  oIx t15 at_13 fun t16 =>
  oIx t16 (.int 0) fun t17 =>
  nLen [t17] fun t18 =>
  oPow (.int 10) (.int 39) fun t19 =>
  itemsQ (.tuple [(.int (-1)), (.bool true), (.bool false), .none, (.str "0"), (.tuple [(.int 0)]), t18, t19]) fun l20 =>
  qFor (qb_law_no_columns_2 K) (pot_here14, good6, at_13) l20 [t7, (.list l8), .none, (.int 0), (.str ""), (.dict []), t9] fun s30 =>
  oSl good6 (some 1) none fun l31 =>
  apQ s30 l31 fun some_32 =>
  J35 pot_here14 some_32)
  (J35 pot_here [t7, (.list l8), .none, (.int 0), (.str ""), (.dict []), t9])) fun pot_here33 some_34 =>
  q_law_take pot_here33 (.int ((List.length some_34 : Nat) : Int)) fun t36 pot_here37 =>
  ixQ some_34 t36 fun t38 =>
  K t38 pot_here37
def q_law_asked (door : PyData) (handed : PyData) (K : PyData → Prop) : Prop :=
  seqQ handed fun r1 =>
  consQ r1 fun sights_here2 r3 =>
  consQ r3 fun one4 r5 =>
  consQ r5 fun other6 r7 =>
  nilQ r7 (jn (fun J52 => oEq door (.int 0) fun t8 =>
  bT t8 fun b9 =>
  jn (fun J12 => bIf b9
  (q_set_of sights_here2 one4 other6 (fun s10 =>
  J12) (fun c => q_law_sort (exD c) fun s11 =>
  K s11))
  (J12)) (oEq door (.int 1) fun t13 =>
  bT t13 fun b14 =>
  jn (fun J17 => bIf b14
  (q_may_be sights_here2 one4 (fun m15 =>
  J17) (fun c => q_law_sort (exD c) fun s16 =>
  K s16))
  (J17)) (oEq door (.int 2) fun t18 =>
  bT t18 fun b19 =>
  jn (fun J22 => bIf b19
  (q_how_many sights_here2 one4 (fun h20 =>
  J22) (fun c => q_law_sort (exD c) fun s21 =>
  K s21))
  (J22)) (oEq door (.int 3) fun t23 =>
  bT t23 fun b24 =>
  jn (fun J27 => bIf b24
  (q_shows_set sights_here2 one4 other6 (fun s25 =>
  J27) (fun c => q_law_sort (exD c) fun s26 =>
  K s26))
  (J27)) (oEq door (.int 4) fun t28 =>
  bT t28 fun b29 =>
  jn (fun J32 => bIf b29
  (q_must_by sights_here2 one4 (fun m30 =>
  J32) (fun c => q_law_sort (exD c) fun s31 =>
  K s31))
  (J32)) (oEq door (.int 5) fun t33 =>
  bT t33 fun b34 =>
  jn (fun J37 => bIf b34
  (q_can_by sights_here2 one4 (fun c35 =>
  J37) (fun c => q_law_sort (exD c) fun s36 =>
  K s36))
  (J37)) (oEq door (.int 6) fun t38 =>
  bT t38 fun b39 =>
  jn (fun J42 => bIf b39
  (q_all_sets sights_here2 (fun a40 =>
  J42) (fun c => q_law_sort (exD c) fun s41 =>
  K s41))
  (J42)) (oEq door (.int 7) fun t43 =>
  bT t43 fun b44 =>
  jn (fun J47 => bIf b44
  (q_must sights_here2 (fun m45 =>
  J47) (fun c => q_law_sort (exD c) fun s46 =>
  K s46))
  (J47)) (oEq door (.int 8) fun t48 =>
  bT t48 fun b49 =>
  bIf b49
  (q_can sights_here2 (fun c50 =>
  J52) (fun c => q_law_sort (exD c) fun s51 =>
  K s51))
  (J52)))))))))) (K .none))
def qb_law_right_1 (d : PyData) (i : List PyData × PyData × PyData × PyData) (s : Unit) (sk : (List PyData × PyData × PyData × PyData) → Unit → Prop) (yd : PyData → (List PyData × PyData × PyData × PyData) → Unit → Prop) : Prop :=
  yd (.int 0) (i.1, i.2.1, i.2.2.1, i.2.2.2) ()
def qb_law_right_3 (d : PyData) (i : PyData × PyData × List PyData × PyData × PyData × List PyData) (s : List PyData) (sk : (PyData × PyData × List PyData × PyData × PyData × List PyData) → (List PyData) → Prop) (yd : PyData → (PyData × PyData × List PyData × PyData × PyData × List PyData) → (List PyData) → Prop) : Prop :=
  oGt d i.2.2.2.2.1 fun t44 =>
  bT t44 fun b45 =>
  jn (fun k50 => bIf b45 (q_law_take s (.int 2) fun t46 pot_here47 =>
  oEq t46 (.int 0) fun t48 =>
  bT t48 fun b49 =>
  k50 b49 pot_here47) (k50 false s)) fun b51 pot_here52 =>
  bIf b51
  (yd d (i.1, i.2.1, i.2.2.1, i.2.2.2.1, i.2.2.2.2.1, i.2.2.2.2.2) pot_here52)
  (sk (i.1, i.2.1, i.2.2.1, i.2.2.2.1, i.2.2.2.2.1, i.2.2.2.2.2) pot_here52)
def qb_law_right_4 (K : PyData → List PyData → Prop) (d : PyData) (i : List PyData × PyData × PyData × List PyData × PyData × PyData) (s : List PyData) (nx bk : (List PyData × PyData × PyData × List PyData × PyData × PyData) → (List PyData) → Prop) : Prop :=
  ixQ i.2.2.2.1 d fun t58 =>
  stQ s d t58 fun handed59 =>
  nx (i.1, i.2.1, i.2.2.1, i.2.2.2.1, i.2.2.2.2.1, i.2.2.2.2.2) handed59
def qb_law_right_2 (K : PyData → List PyData → Prop) (d : PyData) (i : PyData × PyData × List PyData × PyData) (s : List PyData) (nx bk : (PyData × PyData × List PyData × PyData) → (List PyData) → Prop) : Prop :=
  nList [i.2.1] fun l41 =>
  nLen [i.2.2.2] fun t42 =>
  rng1 [t42] fun l43 =>
  qLc qb_law_right_3 (i.1, i.2.1, i.2.2.1, i.2.2.2, d, l41) l43 [] s fun l53 s55 =>
  oAdd (.list [d]) (.list l53) fun t56 =>
  itemsQ t56 fun l57 =>
  qFor (qb_law_right_4 K) (s55, i.1, i.2.1, i.2.2.1, i.2.2.2, d) l57 l41 fun s61 =>
  nRepr [(.list s61)] fun kept62 =>
  q_law_asked i.1 (.list s61) fun a63 =>
  oIx i.2.2.2 d fun t64 =>
  oNe a63 t64 fun t65 =>
  bT t65 fun b66 =>
  tOr b66 (fun k70 => nRepr [(.list s61)] fun t67 =>
  oNe t67 kept62 fun t68 =>
  bT t68 fun b69 =>
  k70 b69) fun b71 =>
  bIf b71
  (K (.bool false) s55)
  (nx (i.1, i.2.1, i.2.2.1, i.2.2.2) s55)
def q_law_right (pot_here : List PyData) (sights_here : PyData) (door : PyData) (K : PyData → List PyData → Prop) : Prop :=
  oIx sights_here (.int 1) fun t1 =>
  nLen [t1] fun many2 =>
  oIx sights_here (.int 1) fun t3 =>
  itemsQ t3 fun l4 =>
  qLc qb_law_right_1 (pot_here, sights_here, door, many2) l4 [] () fun l5 s7 =>
  nTuple [(.list l5)] fun t8 =>
  q_law_no_sights pot_here sights_here fun n9 pot_here10 =>
  oIx sights_here (.int 0) fun t11 =>
  q_law_no_log pot_here10 t11 fun n12 pot_here13 =>
  q_law_no_columns pot_here13 sights_here fun n14 pot_here15 =>
  oIn door (.tuple [(.int 1), (.int 2), (.int 3)]) fun t16 =>
  bT t16 fun b17 =>
  jn (fun J30 => bIf b17
  (q_law_no_set pot_here15 many2 fun n18 pot_here19 =>
  tupQ (.tuple [n18, (.list [(.str "sights"), (.str "set")])]) fun r20 =>
  consQ r20 fun d21 r22 =>
  stQ [n9, n12, n14] (.int 1) d21 fun odd23 =>
  consQ r22 fun sorts24 r25 =>
  nilQ r25 (J30 pot_here19 (.list [sights_here, (.tuple []), .none]) odd23 sorts24))
  (J30 pot_here15 (.list [sights_here, (.int 0), t8]) [n9, n12, n14] (.list [(.str "sights"), (.str "number"), (.str "number")]))) fun pot_here26 good27 odd28 sorts29 =>
  oIn door (.tuple [(.int 4), (.int 5)]) fun t31 =>
  bT t31 fun b32 =>
  jn (fun J34 => bIf b32
  (J34 (.list [(.str "sights"), (.str "number")]))
  (J34 sorts29)) fun sorts33 =>
  oGt door (.int 5) fun t35 =>
  bT t35 fun b36 =>
  jn (fun J38 => bIf b36
  (J38 (.list [(.str "sights")]))
  (J38 sorts33)) fun sorts37 =>
  nLen [sorts37] fun t39 =>
  rng1 [t39] fun l40 =>
  qFor (qb_law_right_2 K) (door, good27, odd28, sorts37) l40 pot_here26 fun s73 =>
  q_law_asked door good27 fun a74 =>
  oIsN a74 fun t75 =>
  K t75 s73
def qb_law_3 (K : PyData → Prop) (d : PyData) (i : PyData × PyData) (s : List PyData) (nx bk : (PyData × PyData) → (List PyData) → Prop) : Prop :=
  q_law_right s i.2 d fun r10 pot_here11 =>
  bT r10 fun b12 =>
  bIf (!b12)
  (K (.bool false))
  (nx (i.1, i.2) pot_here11)
def qb_law_2 (K : PyData → Prop) (d : PyData) (i : PyData) (s : List PyData) (nx bk : PyData → (List PyData) → Prop) : Prop :=
  q_law_sights s (.int 7) fun sights_here7 pot_here8 =>
  rng1 [(.int 9)] fun l9 =>
  qFor (qb_law_3 K) (i, sights_here7) l9 pot_here8 fun s14 =>
  nx i s14
def qb_law_1 (K : PyData → Prop) (d : PyData) (i : PyData) (s : Unit) (nx bk : PyData → Unit → Prop) : Prop :=
  q_law_pot i d fun pot_here5 =>
  rng1 [(.int 3)] fun l6 =>
  qFor (qb_law_2 K) i l6 pot_here5 fun s16 =>
  nx i ()
def qb_law_4 (K : PyData → Prop) (d : PyData) (i : Unit) (s : Unit) (nx bk : Unit → Unit → Prop) : Prop :=
  tupQ d fun r20 =>
  consQ r20 fun door21 r22 =>
  consQ r22 fun due23 r24 =>
  nilQ r24 (q_law_asked door21 (.list [(.tuple [(.int 1), (.tuple [])]), (.list [(.int 0)]), .none]) fun a25 =>
  oNe a25 due23 fun t26 =>
  bT t26 fun b27 =>
  tOr b27 (fun k31 => q_law_asked door21 (.list [(.tuple [(.int 5), (.tuple [])]), (.list [(.int 0)]), .none]) fun a28 =>
  oNe a28 (.str "sights") fun t29 =>
  bT t29 fun b30 =>
  k31 b30) fun b32 =>
  bIf b32
  (K (.bool false))
  (nx () ()))
def qb_law_6 (d : PyData) (i : PyData × PyData) (s : Unit) (sk : (PyData × PyData) → Unit → Prop) (yd : PyData → (PyData × PyData) → Unit → Prop) : Prop :=
  q_law_asked d (.list [i.1, i.2, .none]) fun a37 =>
  yd a37 (i.1, i.2) ()
def qb_law_5 (K : PyData → Prop) (d : PyData) (i : PyData) (s : Unit) (nx bk : PyData → Unit → Prop) : Prop :=
  itemsQ (.tuple [(.int 1), (.int 2), (.int 3)]) fun l36 =>
  qLc qb_law_6 (i, d) l36 [] () fun l38 s40 =>
  repQ (.str "set") (.int 3) fun l41 =>
  oNe (.list l38) (.list l41) fun t42 =>
  bT t42 fun b43 =>
  bIf b43
  (K (.bool false))
  (nx i ())
def q_law (script : PyData) (K : PyData → Prop) : Prop :=
  nLen [script] fun t1 =>
  nMin2 [(.int 6), t1] fun t2 =>
  nMax2 [(.int 1), t2] fun t3 =>
  rng1 [t3] fun l4 =>
  qFor (qb_law_1 K) script l4 () fun s18 =>
  itemsQ (.tuple [(.tuple [(.int 0), (.str "number")]), (.tuple [(.int 1), (.str "set")]), (.tuple [(.int 2), (.str "set")]), (.tuple [(.int 3), (.str "set")]), (.tuple [(.int 4), (.str "number")]), (.tuple [(.int 5), (.str "number")])]) fun l19 =>
  qFor (qb_law_4 K) () l19 () fun s34 =>
  itemsQ (.tuple [(.tuple [(.int 0), (.int 0)]), (.tuple [(.int 1)]), (.tuple [(.bool true)]), (.tuple [(.bool false)])]) fun l35 =>
  qFor (qb_law_5 K) (.tuple [(.int 1), (.tuple [(.tuple [(.tuple [(.bool true)])])])]) l35 () fun s45 =>
  K (.bool true)
local macro_rules | `(tactic| walk_at "q") => `(tactic| try simp only [q_bT, q_add, q_addT, q_addL, q_addS, q_sub, q_mul, q_mulT, q_div, q_mod, q_pow, q_neg, q_lt, q_le, q_gt, q_ge, q_oI, q_eq, q_ne, q_eqS, q_neS, q_isN, q_isNi, q_isNt, q_isNs, q_notN, q_notNi, q_notNt, q_ix, q_ixL, q_ixQ, q_len, q_lenT, q_lenS, q_abs, q_min, q_max, q_tupleOf, q_tupleOfT, q_int, q_intB, q_list, q_listT, q_tup, q_cons, q_nil, q_so, q_lst, q_items, q_itemsT, q_rev, q_zip, q_zipT, q_rng1, q_rng2, q_sumI, q_sumTI, q_allB, q_anyB, q_ap, q_jn, q_fd, q_rep, q_slT, q_slL, q_max3, q_min3, q_str, q_cat, q_catN, q_scalN, q_scalB, q_scalI, q_scalS, q_enumL, q_enumT, q_inL, q_inT, q_inS, q_ninL, q_ninT, q_ninS, Bool.true_eq_false, Bool.false_eq_true, false_imp_iff, true_imp_iff, q_eqB, q_neB, q_empL, q_empT, q_isB, q_revL, q_revT, List.isEmpty_cons, List.isEmpty_nil, bne_self_eq_false, Bool.bne_false, Bool.bne_true, q_same, q_tAnd_k, q_tOr_k, q_vAnd_k, q_vOr_k, q_tAnd_s, q_tOr_s, q_vAnd_s, q_vOr_s, q_vIf_k, q_tAnd_t, q_tAnd_f, q_tOr_t, q_tOr_f, q_vAnd_t, q_vAnd_f, q_vOr_t, q_vOr_f, q_vIf_t, q_vIf_f, at0, at1, at2, at3, at4, at5, at6, atLast, st0, st1, st2, st3, st4, bIf_t, bIf_f, true_and, and_true, Bool.not_true, Bool.not_false, Bool.true_and, Bool.false_and, Bool.and_true, Bool.and_false, Bool.true_or, Bool.or_true, Bool.false_or, Bool.or_false, Bool.not_not, decide_true, decide_false, List.length_cons, List.cons_append, List.nil_append, List.length_nil, List.length_map, List.length_append, isi_non_int, isi_non_bool, isi_non_str, isi_non_list, isi_non_tuple, isi_non_dict, isi_bl_int, isi_bl_bool, isi_bl_str, isi_bl_list, isi_bl_tuple, isi_bl_dict, isi_int_int, isi_int_bool, isi_int_str, isi_int_list, isi_int_tuple, isi_int_dict, isi_str_int, isi_str_bool, isi_str_str, isi_str_list, isi_str_tuple, isi_str_dict, isi_lst_int, isi_lst_bool, isi_lst_str, isi_lst_list, isi_lst_tuple, isi_lst_dict, isi_tup_int, isi_tup_bool, isi_tup_str, isi_tup_list, isi_tup_tuple, isi_tup_dict, isi_dct_int, isi_dct_bool, isi_dct_str, isi_dct_list, isi_dct_tuple, isi_dct_dict])
local macro_rules | `(tactic| walk_at "side") => `(tactic| first | assumption | exact rfl | omega | exact sz_of (by omega) (by omega) | decide | (refine ⟨?_, ?_⟩ <;> walk_at "side"))
local macro_rules | `(tactic| walk_at "sides") => `(tactic| repeat ((with_reducible refine And.intro ?_ ?_); (· walk_at "side"); walk_at "q"))
local macro_rules | `(tactic| walk_at "go") => `(tactic| (walk_at "q"; walk_at "sides"))
local macro_rules | `(tactic| walk_at "j") => `(tactic| try simp only [q_bT, q_add, q_addT, q_addL, q_addS, q_sub, q_mul, q_mulT, q_div, q_mod, q_pow, q_neg, q_lt, q_le, q_gt, q_ge, q_oI, q_eq, q_ne, q_eqS, q_neS, q_isN, q_isNi, q_isNt, q_isNs, q_notN, q_notNi, q_notNt, q_ix, q_ixL, q_ixQ, q_len, q_lenT, q_lenS, q_abs, q_min, q_max, q_tupleOf, q_tupleOfT, q_int, q_intB, q_list, q_listT, q_tup, q_cons, q_nil, q_so, q_lst, q_items, q_itemsT, q_rev, q_zip, q_zipT, q_rng1, q_rng2, q_sumI, q_sumTI, q_allB, q_anyB, q_ap, q_fd, q_rep, q_slT, q_slL, q_max3, q_min3, q_str, q_cat, q_catN, q_scalN, q_scalB, q_scalI, q_scalS, q_enumL, q_enumT, q_inL, q_inT, q_inS, q_ninL, q_ninT, q_ninS, Bool.true_eq_false, Bool.false_eq_true, false_imp_iff, true_imp_iff, q_eqB, q_neB, q_empL, q_empT, q_isB, q_revL, q_revT, List.isEmpty_cons, List.isEmpty_nil, bne_self_eq_false, Bool.bne_false, Bool.bne_true, q_same, q_tAnd_k, q_tOr_k, q_vAnd_k, q_vOr_k, q_tAnd_s, q_tOr_s, q_vAnd_s, q_vOr_s, q_vIf_k, q_tAnd_t, q_tAnd_f, q_tOr_t, q_tOr_f, q_vAnd_t, q_vAnd_f, q_vOr_t, q_vOr_f, q_vIf_t, q_vIf_f, at0, at1, at2, at3, at4, at5, at6, atLast, st0, st1, st2, st3, st4, bIf_t, bIf_f, true_and, and_true, Bool.not_true, Bool.not_false, Bool.true_and, Bool.false_and, Bool.and_true, Bool.and_false, Bool.true_or, Bool.or_true, Bool.false_or, Bool.or_false, Bool.not_not, decide_true, decide_false, List.length_cons, List.cons_append, List.nil_append, List.length_nil, List.length_map, List.length_append, isi_non_int, isi_non_bool, isi_non_str, isi_non_list, isi_non_tuple, isi_non_dict, isi_bl_int, isi_bl_bool, isi_bl_str, isi_bl_list, isi_bl_tuple, isi_bl_dict, isi_int_int, isi_int_bool, isi_int_str, isi_int_list, isi_int_tuple, isi_int_dict, isi_str_int, isi_str_bool, isi_str_str, isi_str_list, isi_str_tuple, isi_str_dict, isi_lst_int, isi_lst_bool, isi_lst_str, isi_lst_list, isi_lst_tuple, isi_lst_dict, isi_tup_int, isi_tup_bool, isi_tup_str, isi_tup_list, isi_tup_tuple, isi_tup_dict, isi_dct_int, isi_dct_bool, isi_dct_str, isi_dct_list, isi_dct_tuple, isi_dct_dict])
def isW : PyData → Bool
  | .int _ => true
  | _ => false
def isIn (a : PyData) (l m : Int) : Bool := match a with
  | .int i => decide (l ≤ i) && decide (i ≤ m)
  | _ => false
def areW (a : PyData) (n : Int) : Bool := match a with
  | .tuple ds => decide ((ds.length : Int) = n) && ds.all isW
  | _ => false
def isFr (a : PyData) : Bool := match a with
  | .tuple [.int p, .int q] => decide (0 < q) && decide (Int.gcd p q = 1)
  | _ => false
def isPart (a : PyData) : Bool := match a with
  | .tuple [.int p, .int q] => isFr a && (decide (0 ≤ p) && decide (p ≤ q))
  | _ => false
structure Sale (g c r h b p q : Int) : Prop where
  g0 : 0 ≤ g
  g1 : g ≤ 10 ^ 12
  c0 : 0 ≤ c
  c1 : c ≤ 10 ^ 12
  r0 : 0 ≤ r
  r1 : r ≤ 10000
  h0 : 0 ≤ h
  h1 : h ≤ 1000
  b0 : 0 ≤ b
  b1 : b ≤ 10 ^ 9
  p0 : 0 ≤ p
  pq : p ≤ q
  q0 : 0 < q
  q1 : q ≤ 10 ^ 40
  co : Int.gcd p q = 1
structure SaleB (g c r h b p q : Int) : Prop where
  g0 : 0 ≤ g
  g1 : g ≤ 10 ^ 70
  c0 : 0 ≤ c
  c1 : c ≤ 10 ^ 12
  r0 : 0 ≤ r
  r1 : r ≤ 10000
  h0 : 0 ≤ h
  h1 : h ≤ 1000
  b0 : 0 ≤ b
  b1 : b ≤ 10 ^ 9
  p0 : 0 ≤ p
  pq : p ≤ q
  q0 : 0 < q
  q1 : q ≤ 10 ^ 40
theorem Sale.B {g c r h b p q : Int} (s : Sale g c r h b p q) : SaleB g c r h b p q := ⟨s.g0, Int.le_trans s.g1 (by decide), s.c0, s.c1, s.r0, s.r1, s.h0, s.h1, s.b0, s.b1, s.p0, s.pq, s.q0, s.q1⟩
def saleD (g c r h b p q : Int) : PyData := .tuple [.int g, .int c, .int r, .int h, .int b, .tuple [.int p, .int q]]
def paid (g c : Int) : Int := if g < c then g else c
def caps (g c p q : Int) : Int := (g - paid g c) * p / q
def pot (g c h b p q : Int) : Int := caps g c p q + h * b
def fee (g c r h b p q : Int) : Int := pot g c h b p q * r / 10000
def purseD (g c r h b p q : Int) : PyData := .tuple [.int (paid g c), .int (g - paid g c - caps g c p q), .int (fee g c r h b p q), .int (pot g c h b p q - fee g c r h b p q)]
def PotOk (n : Int) (xs : List PyData) : Prop := ∃ g s t : Int, xs = [.int g, .int s, .int t] ∧ 0 ≤ s ∧ s ≤ 10 ^ 12 ∧ 0 ≤ t ∧ t ≤ n
theorem PotOk.mono {n m : Int} {xs : List PyData} (h : PotOk n xs) (e : n ≤ m) : PotOk m xs := by
  obtain ⟨g, s, t, h1, h2, h3, h4, h5⟩ := h
  exact ⟨g, s, t, h1, h2, h3, h4, by omega⟩
theorem gcd_step (i j : Int) (h0 : 0 < j) (hi : 0 ≤ i) : Int.gcd j (i % j) = Int.gcd i j := by
  obtain ⟨a, rfl⟩ := Int.eq_ofNat_of_zero_le hi
  obtain ⟨b, rfl⟩ := Int.eq_ofNat_of_zero_le (Int.le_of_lt h0)
  have e : ((a : Int) % (b : Int)) = ((a % b : Nat) : Int) := by simp
  rw [e]
  show Nat.gcd b (a % b) = Nat.gcd a b
  rw [Nat.gcd_comm a b, Nat.gcd_comm b (a % b)]
  exact (Nat.gcd_rec b a).symm
theorem part_true {p q : Int} (h0 : 0 ≤ p) (h1 : p ≤ q) (h2 : 0 < q) (h3 : Int.gcd p q = 1) : isPart (.tuple [.int p, .int q]) = true := by
  simp [isPart, isFr, h0, h1, h2, h3]
theorem caps_le {x p q : Int} (h0 : 0 ≤ x) (h1 : 0 ≤ p) (h2 : p ≤ q) (h3 : 0 < q) : 0 ≤ x * p / q ∧ x * p / q ≤ x := by
  refine ⟨Int.ediv_nonneg (Int.mul_nonneg h0 h1) (by omega), ?_⟩
  have : x * p ≤ x * q := Int.mul_le_mul_of_nonneg_left h2 h0
  exact Int.le_trans (Int.ediv_le_ediv h3 this) (by rw [Int.mul_ediv_cancel _ (by omega)]; exact Int.le_refl x)
theorem paid_in {g c : Int} (h0 : 0 ≤ g) (h1 : 0 ≤ c) : 0 ≤ paid g c ∧ paid g c ≤ g := by
  unfold paid
  split <;> omega
theorem sale_caps {g c r h b p q : Int} (s : Sale g c r h b p q) : 0 ≤ caps g c p q ∧ caps g c p q ≤ 10 ^ 12 := by
  have h1 := paid_in s.g0 s.c0
  have h2 := s.g1
  have h3 := caps_le (x := g - paid g c) (by omega) s.p0 s.pq s.q0
  unfold caps
  constructor
  · exact h3.1
  · exact Int.le_trans h3.2 (by omega)
theorem sale_pot {g c r h b p q : Int} (s : Sale g c r h b p q) : 0 ≤ pot g c h b p q ∧ pot g c h b p q ≤ 10 ^ 13 := by
  have h1 := sale_caps s
  have h2 : 0 ≤ h * b := Int.mul_nonneg s.h0 s.b0
  have h3 : h * b ≤ 1000 * 10 ^ 9 := Int.mul_le_mul s.h1 s.b1 s.b0 (by decide)
  unfold pot
  constructor <;> omega
theorem sale_fee {g c r h b p q : Int} (s : Sale g c r h b p q) : 0 ≤ fee g c r h b p q ∧ fee g c r h b p q ≤ 10 ^ 13 := by
  have h1 := sale_pot s
  have h2 := caps_le (x := pot g c h b p q) h1.1 s.r0 s.r1 (by decide : (0 : Int) < 10000)
  unfold fee
  exact ⟨h2.1, Int.le_trans h2.2 h1.2⟩
theorem B_caps {g c r h b p q : Int} (s : SaleB g c r h b p q) : 0 ≤ caps g c p q ∧ caps g c p q ≤ 10 ^ 70 := by
  have h1 := paid_in s.g0 s.c0
  have h2 := s.g1
  have h3 := caps_le (x := g - paid g c) (by omega) s.p0 s.pq s.q0
  unfold caps
  constructor
  · exact h3.1
  · exact Int.le_trans h3.2 (by omega)
theorem B_pot {g c r h b p q : Int} (s : SaleB g c r h b p q) : 0 ≤ pot g c h b p q ∧ pot g c h b p q ≤ 10 ^ 71 := by
  have h1 := B_caps s
  have h2 : 0 ≤ h * b := Int.mul_nonneg s.h0 s.b0
  have h3 : h * b ≤ 1000 * 10 ^ 9 := Int.mul_le_mul s.h1 s.b1 s.b0 (by decide)
  unfold pot
  constructor <;> omega
theorem B_fee {g c r h b p q : Int} (s : SaleB g c r h b p q) : 0 ≤ fee g c r h b p q ∧ fee g c r h b p q ≤ 10 ^ 71 := by
  have h1 := B_pot s
  have h2 := caps_le (x := pot g c h b p q) h1.1 s.r0 s.r1 (by decide : (0 : Int) < 10000)
  unfold fee
  exact ⟨h2.1, Int.le_trans h2.2 h1.2⟩
theorem mem3 {α : Type} {x a b c : α} (h : x ∈ [a, b, c]) : x = a ∨ x = b ∨ x = c := by simpa using h
theorem mem4 {α : Type} {x a b c d : α} (h : x ∈ [a, b, c, d]) : x = a ∨ x = b ∨ x = c ∨ x = d := by simpa using h
theorem mem5 {α : Type} {x a b c d e : α} (h : x ∈ [a, b, c, d, e]) : x = a ∨ x = b ∨ x = c ∨ x = d ∨ x = e := by simpa using h
theorem gcd_one (p q : Int) (h0 : 0 ≤ p) (h1 : 0 < q) : Int.gcd (p / (Int.gcd p q : Nat)) (q / (Int.gcd p q : Nat)) = 1 := by
  obtain ⟨a, rfl⟩ := Int.eq_ofNat_of_zero_le h0
  obtain ⟨b, rfl⟩ := Int.eq_ofNat_of_zero_le (Int.le_of_lt h1)
  have hb : 0 < b := by omega
  have e1 : ((a : Int) / ((Int.gcd a b : Nat) : Int)) = ((a / Nat.gcd a b : Nat) : Int) := by
    show ((a : Int) / ((Nat.gcd a b : Nat) : Int)) = _
    simp
  have e2 : ((b : Int) / ((Int.gcd a b : Nat) : Int)) = ((b / Nat.gcd a b : Nat) : Int) := by
    show ((b : Int) / ((Nat.gcd a b : Nat) : Int)) = _
    simp
  rw [e1, e2]
  show Nat.gcd (a / Nat.gcd a b) (b / Nat.gcd a b) = 1
  rw [Nat.gcd_div (Nat.gcd_dvd_left a b) (Nat.gcd_dvd_right a b)]
  exact Nat.div_self (Nat.gcd_pos_of_pos_right a hb)
theorem purse_sum {g c r h b p q : Int} : [paid g c, g - paid g c - caps g c p q, fee g c r h b p q, pot g c h b p q - fee g c r h b p q].sum = g + h * b := by
  simp only [List.sum_cons, List.sum_nil]
  unfold pot
  omega
def leastPot (r n : Int) : PyData := if n = 0 then .int 0 else if r = 10000 then .none else .int ((n - 1) * 10000 / (10000 - r) + 1)
def leastGross (c r h b p q n : Int) : PyData := match leastPot r n with
  | .int m => if m - h * b ≤ 0 then .int 0 else if p = 0 then .none else .int (c + ((m - h * b) * q - 1) / p + 1)
  | _ => .none
def sharedOf (g c r h b p q : Int) : Int := pot g c h b p q - fee g c r h b p q
theorem keep_iff {x r n : Int} (h : r < 10000) : n ≤ x - x * r / 10000 ↔ (n - 1) * 10000 / (10000 - r) + 1 ≤ x := by
  have e : x * (10000 - r) = x * 10000 - x * r := by rw [Int.mul_sub]
  have h1 : (n - 1) * 10000 / (10000 - r) < x ↔ (n - 1) * 10000 < x * (10000 - r) := Int.ediv_lt_iff_lt_mul (by omega)
  constructor
  · intro h2
    have : (n - 1) * 10000 < x * (10000 - r) := by omega
    have := h1.mpr this
    omega
  · intro h2
    have := h1.mp (by omega)
    omega
theorem left_iff {x p q k : Int} (hp : 0 < p) (hq : 0 < q) : k ≤ x * p / q ↔ (k * q - 1) / p + 1 ≤ x := by
  have h1 : (k * q - 1) / p < x ↔ k * q - 1 < x * p := Int.ediv_lt_iff_lt_mul hp
  have h2 : k ≤ x * p / q ↔ k * q ≤ x * p := Int.le_ediv_iff_mul_le hq
  rw [h2]
  constructor
  · intro h
    have := h1.mpr (by omega)
    omega
  · intro h
    have := h1.mp (by omega)
    omega
theorem shared_iff {g c r h b p q n m : Int} (s : SaleB g c r h b p q) (n0 : 0 ≤ n) (lp : leastPot r n = .int m) : n ≤ sharedOf g c r h b p q ↔ m ≤ pot g c h b p q := by
  have hp := B_pot s
  have hf : fee g c r h b p q ≤ pot g c h b p q := by
    have := caps_le (x := pot g c h b p q) hp.1 s.r0 s.r1 (by decide : (0 : Int) < 10000)
    exact this.2
  unfold leastPot at lp
  split at lp
  · cases lp
    unfold sharedOf
    constructor <;> intro _ <;> omega
  · split at lp
    · cases lp
    · cases lp
      have hr := s.r1
      have := keep_iff (x := pot g c h b p q) (r := r) (n := n) (by omega)
      exact this
theorem pot_iff {g c h b p q m : Int} (g0 : 0 ≤ g) (c0 : 0 ≤ c) (hp : 0 < p) (hq : 0 < q) (hm : 0 < m - h * b) : m ≤ pot g c h b p q ↔ c + ((m - h * b) * q - 1) / p + 1 ≤ g := by
  have h1 := left_iff (x := g - paid g c) (k := m - h * b) hp hq
  have h2 : m ≤ pot g c h b p q ↔ m - h * b ≤ (g - paid g c) * p / q := by
    unfold pot caps
    constructor <;> intro _ <;> omega
  have h3 : 0 ≤ ((m - h * b) * q - 1) / p := Int.ediv_nonneg (by have := Int.mul_pos hm hq; omega) (by omega)
  have h4 : g - paid g c = if c ≤ g then g - c else 0 := by unfold paid; split <;> split <;> omega
  rw [h2, h1, h4]
  split <;> constructor <;> intro _ <;> omega
theorem right_law {g c r h b p q n : Int} (s : Sale g c r h b p q) (n0 : 0 ≤ n) (n1 : n ≤ 10 ^ 16) :
    (((r = 10000 ∧ 0 < n) ∨ (p = 0 ∧ sharedOf 0 c r h b p q < n)) ∧ leastGross c r h b p q n = .none) ∨
    (¬ (r = 10000 ∧ 0 < n) ∧ ¬ (p = 0 ∧ sharedOf 0 c r h b p q < n) ∧ ∃ t, leastGross c r h b p q n = .int t ∧ 0 ≤ t ∧ t ≤ 10 ^ 65 ∧ n ≤ sharedOf t c r h b p q ∧ (t = 0 ∨ sharedOf (t - 1) c r h b p q < n)) := by
  obtain ⟨g0, g1, c0, c1, r0, r1, e0, e1, b0, b1, p0, pq, q0, q1, co⟩ := id s
  have hb0 : 0 ≤ h * b := Int.mul_nonneg e0 b0
  have B : ∀ t, 0 ≤ t → t ≤ 10 ^ 70 → SaleB t c r h b p q := fun t t0 t1 => ⟨t0, t1, c0, c1, r0, r1, e0, e1, b0, b1, p0, pq, q0, q1⟩
  by_cases hr : r = 10000 ∧ 0 < n
  · refine .inl ⟨.inl hr, ?_⟩
    unfold leastGross leastPot
    rw [if_neg (by omega), if_pos hr.1]
  · have lp : ∃ m, leastPot r n = .int m ∧ 0 ≤ m ∧ m ≤ 10 ^ 21 := by
      unfold leastPot
      split
      · exact ⟨0, rfl, by omega, by omega⟩
      · rw [if_neg (by omega)]
        refine ⟨_, rfl, ?_, ?_⟩
        · have := Int.ediv_nonneg (a := (n - 1) * 10000) (b := 10000 - r) (by omega) (by omega)
          omega
        · have := Int.ediv_le_self (a := (n - 1) * 10000) (10000 - r) (by omega)
          omega
    obtain ⟨m, lp, m0, m1⟩ := lp
    have p00 : pot 0 c h b p q = h * b := by
      have : paid 0 c = 0 := by unfold paid; split <;> omega
      unfold pot caps
      rw [this]
      simp
    have iff0 := shared_iff (B 0 (by omega) (by decide)) n0 lp
    rw [p00] at iff0
    have lg : leastGross c r h b p q n = if m - h * b ≤ 0 then .int 0 else if p = 0 then .none else .int (c + ((m - h * b) * q - 1) / p + 1) := by
      unfold leastGross
      rw [lp]
    rw [lg]
    by_cases hm : m - h * b ≤ 0
    · rw [if_pos hm]
      have : n ≤ sharedOf 0 c r h b p q := iff0.mpr (by omega)
      exact .inr ⟨hr, by omega, 0, rfl, by omega, by decide, this, .inl rfl⟩
    · rw [if_neg hm]
      have h0 : sharedOf 0 c r h b p q < n := by
        have : ¬ n ≤ sharedOf 0 c r h b p q := fun z => by have := iff0.mp z; omega
        omega
      by_cases hp : p = 0
      · rw [if_pos hp]
        exact .inl ⟨.inr ⟨hp, h0⟩, rfl⟩
      · rw [if_neg hp]
        have hq1 : 0 < (m - h * b) * q := Int.mul_pos (by omega) q0
        have hq2 : (m - h * b) * q ≤ 10 ^ 21 * 10 ^ 40 := Int.mul_le_mul (by omega) q1 (by omega) (by decide)
        have hd0 : 0 ≤ ((m - h * b) * q - 1) / p := Int.ediv_nonneg (by omega) p0
        have hd1 := Int.ediv_le_self (a := (m - h * b) * q - 1) p (by omega)
        have ht0 : 0 ≤ c + ((m - h * b) * q - 1) / p + 1 := by omega
        have ht1 : c + ((m - h * b) * q - 1) / p + 1 ≤ 10 ^ 65 := by omega
        have i1 := (shared_iff (B _ ht0 (by omega)) n0 lp).trans (pot_iff ht0 c0 (by omega) q0 (by omega))
        have i2 := (shared_iff (B _ (show 0 ≤ c + ((m - h * b) * q - 1) / p + 1 - 1 by omega) (by omega)) n0 lp).trans (pot_iff (by omega) c0 (by omega) q0 (by omega))
        refine .inr ⟨hr, fun z => hp z.1, _, rfl, ht0, ht1, i1.mpr (Int.le_refl _), .inr ?_⟩
        have : ¬ n ≤ sharedOf (c + ((m - h * b) * q - 1) / p + 1 - 1) c r h b p q := fun z => by have := i2.mp z; omega
        omega
theorem mem7 {α : Type} {x a b c d e f g : α} (h : x ∈ [a, b, c, d, e, f, g]) : x = a ∨ x = b ∨ x = c ∨ x = d ∨ x = e ∨ x = f ∨ x = g := by simpa using h
theorem Sale.sh {g c r h b p q : Int} (s : Sale g c r h b p q) : 0 ≤ sharedOf g c r h b p q ∧ sharedOf g c r h b p q ≤ 10 ^ 13 := by
  have h1 := sale_pot s
  have h2 := caps_le (x := pot g c h b p q) h1.1 s.r0 s.r1 (by decide : (0 : Int) < 10000)
  unfold sharedOf fee
  omega
theorem Sale.zero {g c r h b p q : Int} (s : Sale g c r h b p q) : Sale 0 c r h b p q := ⟨by omega, by omega, s.c0, s.c1, s.r0, s.r1, s.h0, s.h1, s.b0, s.b1, s.p0, s.pq, s.q0, s.q1, s.co⟩
theorem least_iff {c r h b p q n t x : Int} (s : SaleB x c r h b p q) (n0 : 0 ≤ n) (e : leastGross c r h b p q n = .int t) : n ≤ sharedOf x c r h b p q ↔ t ≤ x := by
  unfold leastGross at e
  split at e
  · rename_i m lp
    have i1 := shared_iff s n0 lp
    rw [i1]
    have hb0 : 0 ≤ h * b := Int.mul_nonneg s.h0 s.b0
    have hx := s.g0
    split at e
    · cases e
      have := (B_caps s).1
      unfold pot
      constructor <;> intro _ <;> omega
    · split at e
      · cases e
      · cases e
        have := s.p0
        exact pot_iff s.g0 s.c0 (by omega) s.q0 (by omega)
  · cases e
theorem least_none {c r h b p q n x : Int} (s : SaleB x c r h b p q) (n0 : 0 ≤ n) (e : leastGross c r h b p q n = .none) : sharedOf x c r h b p q < n := by
  unfold leastGross at e
  split at e
  · rename_i m lp
    have i1 := shared_iff s n0 lp
    split at e
    · cases e
    · split at e
      · rename_i hp
        have : pot x c h b p q = h * b := by
          unfold pot caps
          rw [hp, Int.mul_zero, Int.zero_ediv]
          omega
        rw [this] at i1
        have : ¬ n ≤ sharedOf x c r h b p q := fun z => by have := i1.mp z; omega
        omega
      · cases e
  · rename_i lp
    have hr : r = 10000 ∧ n ≠ 0 := by
      unfold leastPot at lp
      split at lp
      · exact absurd rfl (lp 0)
      · split at lp
        · rename_i h1 h2
          exact ⟨h2, h1⟩
        · exact absurd rfl (lp _)
    have : sharedOf x c r h b p q = 0 := by
      unfold sharedOf fee
      rw [hr.1, Int.mul_ediv_cancel _ (by decide)]
      omega
    omega
theorem least_kind {c r h b p q n : Int} : leastGross c r h b p q n = .none ∨ ∃ t, leastGross c r h b p q n = .int t := by
  unfold leastGross
  split
  · split
    · exact .inr ⟨_, rfl⟩
    · split
      · exact .inl rfl
      · exact .inr ⟨_, rfl⟩
  · exact .inl rfl
theorem parts_rise {g k c r h b p q : Int} (s : SaleB g c r h b p q) (s2 : SaleB k c r h b p q) (hk : g ≤ k) :
    paid g c ≤ paid k c ∧ g - paid g c - caps g c p q ≤ k - paid k c - caps k c p q ∧ fee g c r h b p q ≤ fee k c r h b p q ∧ pot g c h b p q - fee g c r h b p q ≤ pot k c h b p q - fee k c r h b p q := by
  have rise : ∀ x y p q : Int, x ≤ y → 0 ≤ p → 0 < q → x * p / q ≤ y * p / q := fun x y p q h0 h1 h2 => Int.ediv_le_ediv h2 (Int.mul_le_mul_of_nonneg_right h0 h1)
  have slow : ∀ x y p q : Int, x ≤ y → 0 ≤ p → p ≤ q → 0 < q → x - x * p / q ≤ y - y * p / q := fun x y p q h0 h1 h2 h3 => by
    have e : y * p = x * p + (y - x) * p := by rw [Int.sub_mul]; omega
    have l : (y - x) * p ≤ (y - x) * q := Int.mul_le_mul_of_nonneg_left h2 (by omega)
    have : y * p / q ≤ (x * p + (y - x) * q) / q := Int.ediv_le_ediv h3 (by omega)
    rw [Int.add_mul_ediv_right _ _ (by omega)] at this
    omega
  have hl : g - paid g c ≤ k - paid k c := by unfold paid; split <;> split <;> omega
  have hc := rise _ _ p q hl s.p0 s.q0
  have hq : pot g c h b p q ≤ pot k c h b p q := by unfold pot caps; omega
  refine ⟨by unfold paid; split <;> split <;> omega, ?_, rise _ _ r 10000 hq s.r0 (by decide), slow _ _ r 10000 hq s.r0 s.r1 (by decide)⟩
  exact slow _ _ p q hl s.p0 s.pq s.q0
theorem is_whole_q (a : PyData) (K : PyData → Prop) : q_is_whole a K = K (.bool (isW a)) := by
  cases a with
  | dict kv => cases kv <;> rfl
  | _ => rfl
/-! ### the pot of the sights' laws: a great cell, a seed, how many were taken -/
theorem jn_by {α : Type} {f : (α → Prop) → Prop} {K : α → Prop} (P : α → Prop) (h : ∀ J : α → Prop, (∀ x, P x → J x) → f J) (k : ∀ x, P x → K x) : jn f K := h K k
theorem jn_by2 {α β : Type} {f : (α → β → Prop) → Prop} {K : α → β → Prop} (P : α → β → Prop) (h : ∀ J : α → β → Prop, (∀ x y, P x y → J x y) → f J) (k : ∀ x y, P x y → K x y) : jn f K := h K k
theorem cut_takeN {xs : List PyData} {k : Nat} : DL.cutD xs none (some (k : Int)) = xs.take k := by
  unfold DL.cutD
  rw [HT.sIx_none, HT.sIx_nat, List.drop_zero, Nat.sub_zero]
  rcases Nat.le_total k xs.length with h | h
  · rw [Nat.min_eq_left h]
  · rw [Nat.min_eq_right h, List.take_of_length_le h, List.take_of_length_le (Nat.le_refl _)]
def CupOk (n : Int) (xs : List PyData) : Prop := ∃ g s t : Int, xs = [.int g, .int s, .int t] ∧ 0 ≤ s ∧ s < 2147483647 ∧ 0 ≤ t ∧ t ≤ n
theorem CupOk.mono {n m : Int} {xs : List PyData} (h : CupOk n xs) (e : n ≤ m) : CupOk m xs := by
  obtain ⟨g, s, t, h1, h2, h3, h4, h5⟩ := h
  exact ⟨g, s, t, h1, h2, h3, h4, by omega⟩
theorem cup_pot_q (ns : List Int) (k : Int) (k0 : 0 ≤ k) (k1 : k ≤ 1000) (K : List PyData → Prop) (h : ∀ xs, CupOk 0 xs → K xs) : q_law_pot (.list (ns.map .int)) (.int k) K := by
  unfold q_law_pot
  walk_at "j"
  have z := sz_of (i := 10) (by decide) (by decide)
  have z60 : Sz (10 ^ Int.toNat 60) := sz_of (by decide) (by decide)
  have zz : (0 : Int) < (10 ^ Int.toNat 60) ^ Int.toNat 10 := by decide +kernel
  refine jn_by (fun d => ∃ c : Int, d = .int c ∧ 0 ≤ c ∧ c < (10 ^ Int.toNat 60) ^ Int.toNat 10) (fun J hJ => ?_) ?_
  · refine bIf_d (fun hk => ?_) fun _ => ?_
    · refine pick_mem k0 (by simpa using hk) fun d mem => ?_
      obtain ⟨c, _, rfl⟩ := List.mem_map.mp mem
      walk_at "q"
      refine ⟨⟨z, by decide, by decide⟩, ⟨z60, by decide, by decide⟩, zz, ?_⟩
      exact hJ _ ⟨_, rfl, Int.emod_nonneg _ (Int.ne_of_gt zz), Int.emod_lt_of_pos _ zz⟩
    · exact hJ _ ⟨0, rfl, Int.le_refl _, zz⟩
  · rintro _ ⟨c, rfl, c0, c1⟩
    have zc : Sz c := by
      unfold Sz
      have e : (10 : Int) ^ 1000 = (((10 : Nat) ^ 1000 : Nat) : Int) := by rw [Int.natCast_pow]; rfl
      have : (10 ^ Int.toNat 60 : Int) ^ Int.toNat 10 ≤ 10 ^ 1000 := by decide +kernel
      rw [e] at this
      omega
    walk_at "q"
    have b1 := Int.emod_nonneg c (by decide : (2147483629 : Int) ≠ 0)
    have b2 := Int.emod_lt_of_pos c (by decide : (0 : Int) < 2147483629)
    generalize c % 2147483629 = m at b1 b2 ⊢
    refine ⟨⟨z, by decide, by decide⟩, ⟨zc, ?_⟩, by decide, ⟨by walk_at "side", by walk_at "side"⟩, ⟨by walk_at "side", by decide, by decide⟩, by decide, ?_⟩
    · split <;> exact sz_of (by decide) (by decide)
    · exact h _ ⟨_, _, _, rfl, Int.emod_nonneg _ (by decide), Int.emod_lt_of_pos _ (by decide), by decide, by decide⟩
theorem cup_take_q {n m : Int} {xs : List PyData} (hp : CupOk n xs) (hn : n ≤ 10 ^ 6) (m0 : 0 < m) (m1 : m ≤ 10 ^ 50) (K : PyData → List PyData → Prop) (h : ∀ r xs', 0 ≤ r → r < m → CupOk (n + 1) xs' → K (.int r) xs') : q_law_take xs (.int m) K := by
  obtain ⟨g, s, t, rfl, s0, s1, t0, t1⟩ := hp
  unfold q_law_take
  walk_at "q"
  refine bIf_d (fun h0 => ?_) fun h0 => ?_
  · walk_at "sides"
    exact h _ _ (Int.emod_nonneg _ (by omega)) (Int.emod_lt_of_pos _ m0) ⟨_, s, t, rfl, s0, s1, t0, by omega⟩
  · have b1 := Int.emod_nonneg ((s + 104729 * (t + 1)) ^ Int.toNat 3) (by decide : (2147483587 : Int) ≠ 0)
    have b2 := Int.emod_lt_of_pos ((s + 104729 * (t + 1)) ^ Int.toNat 3) (by decide : (0 : Int) < 2147483587)
    have c1 := Int.emod_nonneg s (by decide : (65537 : Int) ≠ 0)
    have c2 := Int.emod_lt_of_pos s (by decide : (0 : Int) < 65537)
    generalize (s + 104729 * (t + 1)) ^ Int.toNat 3 % 2147483587 = A at b1 b2 ⊢
    generalize s % 65537 = C at c1 c2 ⊢
    have d1 := Int.emod_nonneg ((A + C + 31 * (t + 1)) ^ Int.toNat 5) (by decide : (2147483579 : Int) ≠ 0)
    have d2 := Int.emod_lt_of_pos ((A + C + 31 * (t + 1)) ^ Int.toNat 5) (by decide : (0 : Int) < 2147483579)
    generalize (A + C + 31 * (t + 1)) ^ Int.toNat 5 % 2147483579 = D at d1 d2 ⊢
    walk_at "sides"
    exact h _ _ (Int.emod_nonneg _ (by omega)) (Int.emod_lt_of_pos _ m0) ⟨g, s, t + 1, rfl, s0, s1, by omega, by omega⟩
/-! ### how great a thing is that was bent at one place -/
mutual
/-- whole numbers of few figures -/
def nb : PyData → Bool
  | .none => true
  | .bool _ => true
  | .int i => decide (i.natAbs ≤ 10 ^ 45)
  | .str x => x.cps.toList.all fun c => decide (c < 16 ^ 8)
  | .list xs => nbs xs
  | .tuple xs => nbs xs
  | .dict kvs => kvs.isEmpty
def nbs : List PyData → Bool
  | [] => true
  | x :: xs => nb x && nbs xs
end
mutual
theorem nb_rp : ∀ {d : PyData}, nb d = true → DL.rp d = true
  | .none, _ => rfl
  | .bool _, _ => rfl
  | .int i, h => by
    simp only [nb, decide_eq_true_eq] at h
    simp only [DL.rp, decide_eq_true_eq]
    exact Nat.lt_of_le_of_lt h (by decide +kernel)
  | .str x, h => by simpa only [nb, DL.rp] using h
  | .list xs, h => by
    rw [DL.rp]
    exact nbs_rp (by simpa only [nb] using h)
  | .tuple xs, h => by
    rw [DL.rp]
    exact nbs_rp (by simpa only [nb] using h)
  | .dict kvs, h => by simpa only [nb, DL.rp] using h
theorem nbs_rp : ∀ {xs : List PyData}, nbs xs = true → rpAll xs = true
  | [], _ => rfl
  | x :: xs, h => by
    simp only [nbs, Bool.and_eq_true] at h
    rw [rpAll, nb_rp h.1, nbs_rp h.2]
    rfl
end
theorem nbs_mem : ∀ {xs : List PyData}, nbs xs = true → ∀ x ∈ xs, nb x = true
  | [], _, x, h => by simp at h
  | y :: ys, e, x, h => by
    simp only [nbs, Bool.and_eq_true] at e
    rcases List.mem_cons.mp h with rfl | h
    · exact e.1
    · exact nbs_mem e.2 x h
theorem nbs_all : ∀ {xs : List PyData}, (∀ x ∈ xs, nb x = true) → nbs xs = true
  | [], _ => rfl
  | x :: xs, h => by rw [nbs, h x (List.mem_cons_self ..), nbs_all fun y hy => h y (List.mem_cons_of_mem _ hy)]; rfl
theorem rp_all : ∀ {xs : List PyData}, (∀ x ∈ xs, DL.rp x = true) → rpAll xs = true
  | [], _ => rfl
  | x :: xs, h => by rw [rpAll, h x (List.mem_cons_self ..), rp_all fun y hy => h y (List.mem_cons_of_mem _ hy)]; rfl
theorem depth_all {k : Nat} : ∀ {xs : List PyData}, (∀ x ∈ xs, x.depth ≤ k) → PyData.depthAll xs ≤ k
  | [], _ => by simp [PyData.depthAll]
  | x :: xs, h => by
    rw [PyData.depthAll]
    have h1 := h x (List.mem_cons_self ..)
    have h2 := depth_all fun y hy => h y (List.mem_cons_of_mem _ hy)
    omega
theorem bulk_app : ∀ {xs ys : List PyData}, PyData.bulkAll (xs ++ ys) = PyData.bulkAll xs + PyData.bulkAll ys
  | [], ys => by simp [PyData.bulkAll]
  | x :: xs, ys => by rw [List.cons_append, PyData.bulkAll, PyData.bulkAll, bulk_app]; omega
theorem bulk_len : ∀ {xs : List PyData}, xs.length ≤ PyData.bulkAll xs
  | [] => by simp
  | x :: xs => by rw [PyData.bulkAll, List.length_cons]; have := bulk_len (xs := xs); omega
theorem bulk_in : ∀ {xs : List PyData}, ∀ x ∈ xs, x.bulk + 1 ≤ PyData.bulkAll xs
  | [], x, h => by simp at h
  | y :: ys, x, h => by
    rw [PyData.bulkAll]
    rcases List.mem_cons.mp h with rfl | h
    · omega
    · have := bulk_in x h
      omega
theorem bulk_cut {xs : List PyData} {lo hi : Option Int} : PyData.bulkAll (DL.cutD xs lo hi) ≤ PyData.bulkAll xs := by
  have t : ∀ (n : Nat) (ys : List PyData), PyData.bulkAll (ys.take n) ≤ PyData.bulkAll ys := fun n ys => by
    have := bulk_app (xs := ys.take n) (ys := ys.drop n)
    rw [List.take_append_drop] at this
    omega
  have d : ∀ (n : Nat) (ys : List PyData), PyData.bulkAll (ys.drop n) ≤ PyData.bulkAll ys := fun n ys => by
    have := bulk_app (xs := ys.take n) (ys := ys.drop n)
    rw [List.take_append_drop] at this
    omega
  unfold DL.cutD
  exact Nat.le_trans (t _ _) (d _ _)
theorem bulk_rev : ∀ {xs : List PyData}, PyData.bulkAll xs.reverse = PyData.bulkAll xs
  | [] => rfl
  | x :: xs => by
    rw [List.reverse_cons, bulk_app, bulk_rev, PyData.bulkAll, PyData.bulkAll, PyData.bulkAll]
    omega
theorem bulk_set : ∀ {xs : List PyData} {i : Nat} {x y : PyData}, xs[i]? = some x → PyData.bulkAll (xs.set i y) + x.bulk = PyData.bulkAll xs + y.bulk
  | [], i, x, y, h => by simp at h
  | z :: zs, 0, x, y, h => by
    simp at h
    subst h
    rw [List.set_cons_zero, PyData.bulkAll, PyData.bulkAll]
    omega
  | z :: zs, i + 1, x, y, h => by
    have := bulk_set (xs := zs) (i := i) (y := y) (by simpa using h)
    rw [List.set_cons_succ, PyData.bulkAll, PyData.bulkAll]
    omega
theorem sm_tup {B k : Nat} {xs : List PyData} (h : ∀ x ∈ xs, DL.rp x = true ∧ x.depth + 1 ≤ k) (hk : 1 ≤ k) (hb : PyData.bulkAll xs ≤ B) : Sm B k (.tuple xs) := by
  refine ⟨by rw [DL.rp]; exact rp_all fun x hx => (h x hx).1, by rw [PyData.bulk]; exact hb, ?_⟩
  rw [PyData.depth]
  have := depth_all (k := k - 1) fun x hx => by have := (h x hx).2; omega
  omega
theorem sm_lst {B k : Nat} {xs : List PyData} (h : ∀ x ∈ xs, DL.rp x = true ∧ x.depth + 1 ≤ k) (hk : 1 ≤ k) (hb : PyData.bulkAll xs ≤ B) : Sm B k (.list xs) := by
  refine ⟨by rw [DL.rp]; exact rp_all fun x hx => (h x hx).1, by rw [PyData.bulk]; exact hb, ?_⟩
  rw [PyData.depth]
  have := depth_all (k := k - 1) fun x hx => by have := (h x hx).2; omega
  omega
theorem shI_len {i : Int} {k : Nat} (hk : 0 < k) (h : i.natAbs < 10 ^ k) : (shInt i).length ≤ k + 1 := by
  unfold shInt
  show (Str.ofString (toString i)).length ≤ k + 1
  rw [PySem.ofString_length]
  exact int_text_length_le10 hk h
theorem rp_ofS (s : String) : DL.rp (.str (Str.ofString s)) = true := by
  rw [DL.rp, PySem.Str.ofString_eq_toList]
  simp only [List.all_eq_true, decide_eq_true_eq]
  intro c hc
  simp only [List.mem_map] at hc
  obtain ⟨ch, _, rfl⟩ := hc
  have : ch.toNat < 1114112 := by
    rcases ch.valid with h | h
    · exact Nat.lt_trans h (by decide)
    · exact h.2
  exact Nat.lt_trans this (by decide)
theorem sm_str {i : Int} (h : i.natAbs ≤ 10 ^ 45) (k : Nat) : Sm 50 k (.str (shInt i)) := by
  have hl := shI_len (i := i) (k := 46) (by decide) (Nat.lt_of_le_of_lt h (by decide))
  refine ⟨?_, ?_, by rw [PyData.depth]; omega⟩
  · unfold shInt
    exact rp_ofS _
  · rw [PyData.bulk]
    exact Nat.le_trans hl (by decide)
theorem st_in {xs : List PyData} {i : Int} {d : PyData} {K : List PyData → Prop} (h0 : 0 ≤ i) (h1 : i < xs.length) (h : K (xs.set i.toNat d)) : stQ xs (.int i) d K := by
  show (match ixN xs.length i with | some j => K (xs.set j d) | none => False)
  rw [ixN_in h0 h1]
  exact h
theorem pick_get {xs : List PyData} {k : Int} {P : PyData → Prop} (h0 : 0 ≤ k) (h1 : k < xs.length) (h : ∀ d, xs[k.toNat]? = some d → P d) : pick xs k P := by
  have hl : k.toNat < xs.length := by omega
  rw [pick_eq (d := xs[k.toNat]) (by unfold atI; rw [ixN_in h0 h1]; exact List.getElem?_eq_getElem hl)]
  exact h _ (List.getElem?_eq_getElem hl)
/-! ### tables of truths -/
def isBoo : PyData → Bool
  | .bool _ => true
  | _ => false
def tlen : PyData → Nat
  | .tuple xs => xs.length
  | _ => 0
def isTRow : PyData → Bool
  | .tuple xs => decide (1 ≤ xs.length) && decide (xs.length ≤ 4) && xs.all isBoo
  | _ => false
def isTab : PyData → Bool
  | .tuple xs => decide (1 ≤ xs.length) && decide (xs.length ≤ 4) && xs.all isTRow && xs.all fun r => decide (tlen r = tlen (xs.headD .none))
  | _ => false
theorem isi_boo (d : PyData) : isiB d "bool" = isBoo d := by
  cases d with
  | dict kv => cases kv <;> rfl
  | _ => rfl
theorem isi_tup {d : PyData} (h : isiB d "tuple" = true) : ∃ xs, d = .tuple xs := by
  cases d with
  | tuple xs => exact ⟨xs, rfl⟩
  | dict kv => cases kv <;> cases h
  | _ => cases h
theorem isTRow_t {xs : List PyData} : isTRow (.tuple xs) = (decide (1 ≤ xs.length) && decide (xs.length ≤ 4) && xs.all isBoo) := rfl
theorem isTab_t {xs : List PyData} : isTab (.tuple xs) = (decide (1 ≤ xs.length) && decide (xs.length ≤ 4) && xs.all isTRow && xs.all fun r => decide (tlen r = tlen (xs.headD .none))) := rfl
theorem isTRow_inv {d : PyData} (h : isTRow d = true) : ∃ xs, d = .tuple xs ∧ 1 ≤ xs.length ∧ xs.length ≤ 4 ∧ xs.all isBoo = true := by
  unfold isTRow at h
  split at h
  · simp only [Bool.and_eq_true, decide_eq_true_eq] at h
    exact ⟨_, rfl, h.1.1, h.1.2, h.2⟩
  · cases h
theorem is_row_q (d : PyData) (K : PyData → Prop) (h : K (.bool (isTRow d))) : q_is_row d K := by
  unfold q_is_row
  cases e : isiB d "tuple" with
  | false =>
    have : isTRow d = false := by
      cases d with
      | tuple xs => cases e
      | _ => rfl
    rw [this] at h
    walk_at "q"
    exact h
  | true =>
    obtain ⟨xs, rfl⟩ := isi_tup e
    walk_at "q"
    refine bIf_of (fun hc => ?_) fun hc => ?_
    · have : isTRow (.tuple xs) = false := by
        unfold isTRow
        simp only [Bool.not_eq_true', Bool.and_eq_false_iff, decide_eq_false_iff_not] at hc ⊢
        left
        omega
      rwa [this] at h
    · simp only [Bool.not_eq_false', Bool.and_eq_true, decide_eq_true_eq] at hc
      refine qLc_map (fun d => .bool (isBoo d)) (by omega) (fun d hd sk yd hy => ?_) ?_
      · unfold qb_is_row_1
        rw [isi_boo]
        exact hy
      · walk_at "q"
        have : isTRow (.tuple xs) = xs.all isBoo := by
          rw [isTRow_t, decide_eq_true (show 1 ≤ xs.length by omega), decide_eq_true (show xs.length ≤ 4 by omega)]
          rfl
        rwa [this] at h
theorem head_pick {xs : List PyData} (h : 1 ≤ xs.length) {P : PyData → Prop} (hp : P (xs.headD .none)) : pick xs 0 P := by
  cases xs with
  | nil => simp at h
  | cons a b => rw [at0]; exact hp
theorem is_table_q (d : PyData) (K : PyData → Prop) (h : K (.bool (isTab d))) : q_is_table d K := by
  unfold q_is_table
  cases e : isiB d "tuple" with
  | false =>
    have : isTab d = false := by
      cases d with
      | tuple xs => cases e
      | _ => rfl
    rw [this] at h
    walk_at "q"
    exact h
  | true =>
    obtain ⟨xs, rfl⟩ := isi_tup e
    walk_at "q"
    by_cases hl : 1 ≤ xs.length ∧ xs.length ≤ 4
    · rw [decide_eq_true (show (1 : Int) ≤ xs.length by omega), decide_eq_true (show (xs.length : Int) ≤ 4 by omega)]
      walk_at "q"
      refine qLc_map (fun d => .bool (isTRow d)) (by omega) (fun d hd sk yd hy => by unfold qb_is_table_1; exact is_row_q d _ hy) ?_
      walk_at "q"
      have e1 : isTab (.tuple xs) = (xs.all isTRow && xs.all fun r => decide (tlen r = tlen (xs.headD .none))) := by
        rw [isTab_t, decide_eq_true hl.1, decide_eq_true hl.2]
        rfl
      rw [e1] at h
      cases ha : xs.all isTRow with
      | false =>
        walk_at "q"
        rw [ha] at h
        exact h
      | true =>
        walk_at "q"
        rw [ha, Bool.true_and] at h
        have hr := List.all_eq_true.mp ha
        refine qLc_map (fun r => .bool (decide (tlen r = tlen (xs.headD .none)))) (by omega) (fun r hm sk yd hy => ?_) ?_
        · unfold qb_is_table_2
          obtain ⟨ys, rfl, y1, y2, _⟩ := isTRow_inv (hr r hm)
          walk_at "q"
          refine head_pick hl.1 ?_
          have hh : xs.headD .none ∈ xs := by
            cases xs with
            | nil => simp at hl
            | cons a b => exact List.mem_cons_self ..
          obtain ⟨zs, ez, z1, z2, _⟩ := isTRow_inv (hr _ hh)
          rw [ez] at hy ⊢
          walk_at "q"
          have : decide ((ys.length : Int) = (zs.length : Int)) = decide (tlen (.tuple ys) = tlen (.tuple zs)) := by
            simp only [tlen]
            exact decide_eq_decide.mpr (by omega)
          rw [this]
          exact hy
        · walk_at "q"
          exact h
    · have e1 : isTab (.tuple xs) = false := by
        unfold isTab
        simp only [Bool.and_eq_false_iff, decide_eq_false_iff_not]
        left; left
        omega
      rw [e1] at h
      have e2 : (decide ((1 : Int) ≤ xs.length) && decide ((xs.length : Int) ≤ 4)) = false := by
        simp only [Bool.and_eq_false_iff, decide_eq_false_iff_not]
        omega
      rw [e2]
      walk_at "q"
      exact h
def TabOk (rows : Nat) (d : PyData) : Prop := ∃ (many : Nat) (rs : List PyData), d = .tuple rs ∧ rs.length = rows ∧ 1 ≤ many ∧ many ≤ 4 ∧ ∀ r ∈ rs, ∃ bs : List Bool, r = .tuple (bs.map .bool) ∧ bs.length = many
theorem bools_of : ∀ {xs : List PyData}, (∀ y ∈ xs, ∃ b : Bool, y = .bool b) → ∃ bs : List Bool, xs = bs.map .bool
  | [], _ => ⟨[], rfl⟩
  | x :: xs, h => by
    obtain ⟨b, rfl⟩ := h x (List.mem_cons_self ..)
    obtain ⟨bs, rfl⟩ := bools_of fun y hy => h y (List.mem_cons_of_mem _ hy)
    exact ⟨b :: bs, rfl⟩
theorem range_len (lo : Int) (n : Nat) : (rangeD lo n).length = n := by simp [rangeD]
theorem lfs_bools : ∀ bs : List Bool, lfs (bs.map .bool) = true
  | [] => rfl
  | b :: bs => by rw [List.map_cons, lfs, lf, lfs_bools bs]; rfl
theorem neQ_ok {xs ds : List PyData} {n : Int} {d : PyData} {K : List PyData → Prop} (h0 : 0 ≤ n) (h1 : n < ds.length) (hx : xs.all rowB = true) (hd : lfs ds = true) (hl : lf d = true)
    (h : ∀ xs', xs'.length = xs.length → (∀ z ∈ xs', z ∈ xs ∨ z = rowD (ds.set n.toNat d)) → K xs') : neQ xs (rowD ds) (.int n) d K := by
  show bIf (xs.all rowB && lfs ds && lf d) (stQ ds (.int n) d fun ds' => ∀ xs', xs'.length = xs.length → (∀ z ∈ xs', z ∈ xs ∨ z = rowD ds') → K xs') False
  rw [hx, hd, hl]
  exact st_in (K := fun ds' => ∀ xs', xs'.length = xs.length → (∀ z ∈ xs', z ∈ xs ∨ z = rowD ds') → K xs') h0 h1 h
theorem cup_atoms {n : Int} {xs : List PyData} (h : CupOk n xs) : xs.all atB = true ∧ lfs xs = true := by
  obtain ⟨g, s, t, rfl, _⟩ := h
  exact ⟨rfl, rfl⟩
def RowR (many : Nat) (y : PyData) : Prop := ∃ bs : List Bool, y = rowD (bs.map .bool) ∧ bs.length = many
def RowL (many : Nat) (y : PyData) : Prop := ∃ bs : List Bool, (y = rowD (bs.map .bool) ∨ y = .list (bs.map .bool)) ∧ bs.length = many
theorem law_table_q {n : Int} {xs : List PyData} {rows : Nat} (hp : CupOk n xs) (hn : n ≤ 10 ^ 5) (r0 : 1 ≤ rows) (r1 : rows ≤ 4) (K : PyData → List PyData → Prop) (hK : ∀ d xs', TabOk rows d → CupOk (n + 40) xs' → K d xs') : q_law_table xs (.int rows) K := by
  unfold q_law_table
  have ha : atoms [.cel true xs, .dat (.int rows)] = true := by simp only [atoms, (cup_atoms hp).1, atB]; rfl
  rw [ha]
  show q_law_take _ _ _
  refine cup_take_q hp (by omega) (by decide) (by decide) _ fun t xs t0 t1 hp => ?_
  walk_at "j"
  obtain ⟨many, em⟩ : ∃ many : Nat, 1 + t = (many : Int) := ⟨(1 + t).toNat, by omega⟩
  rw [em]
  have m0 : 1 ≤ many := by omega
  have m1 : many ≤ 4 := by omega
  refine cup_take_q hp (by omega) (by decide) (by decide) _ fun way xs w0 w1 hp => ?_
  refine cup_take_q hp (by omega) (by decide) (by decide) _ fun s xs s0 s1 hp => ?_
  walk_at "j"
  refine ⟨by omega, ?_⟩
  generalize decide (s = 0) = sign
  rw [show (rows : Int).toNat = rows by omega]
  refine qLc_each (RowR many) (fun k s => CupOk (n + 3 + 4 * k) s) (hp.mono (by omega)) (by rw [range_len]; omega) (fun k d s sk yd hd hp hy => ?_) fun f1 xs hl1 hf1 hp => ?_
  · unfold qb_law_table_1
    have hk : k < rows := by have := (List.getElem?_eq_some_iff.mp hd).1; rwa [range_len] at this
    dsimp only
    walk_at "j"
    refine ⟨by omega, ?_⟩
    rw [show (many : Int).toNat = many by omega]
    refine qLc_each (fun y => ∃ b : Bool, y = .bool b) (fun j s => CupOk (n + 3 + 4 * k + j) s) (hp.mono (by omega)) (by rw [range_len]; omega) (fun j d s sk yd hd hp hy => ?_) fun acc s hl ht hp => ?_
    · unfold qb_law_table_2
      have hj : j < many := by have := (List.getElem?_eq_some_iff.mp hd).1; rwa [range_len] at this
      refine cup_take_q hp (by omega) (by decide) (by decide) _ fun t xs t0 t1 hp => ?_
      walk_at "j"
      exact hy _ _ ⟨_, rfl⟩ (hp.mono (by omega))
    · obtain ⟨bs, rfl⟩ := bools_of ht
      rw [range_len] at hl hp
      exact hy _ _ ⟨bs, rfl, by simpa using hl⟩ (hp.mono (by omega))
  · rw [range_len] at hl1 hp
    have hp : CupOk (n + 19) xs := hp.mono (by omega)
    refine jn_by (fun f : List PyData => f.length = rows ∧ ∀ y ∈ f, RowR many y) (fun J hJ => ?_) fun f2 ⟨hl2, hf2⟩ => ?_
    · refine bIf_d (fun _ => ?_) fun _ => hJ _ ⟨hl1, hf1⟩
      walk_at "j"
      refine ⟨by omega, ?_⟩
      refine qLc_each (RowR many) (fun _ _ => True) trivial (by rw [range_len]; omega) (fun k d s sk yd hd _ hy => ?_) fun acc s hl ht _ => hJ _ ⟨by rw [hl, range_len], ht⟩
      unfold qb_law_table_3
      dsimp only
      walk_at "j"
      refine ⟨by omega, ?_⟩
      rw [show (many : Int).toNat = many by omega]
      refine qLc_each (fun y => ∃ b : Bool, y = .bool b) (fun _ _ => True) trivial (by rw [range_len]; omega) (fun j d s sk yd hd _ hy => ?_) fun acc s hl ht _ => ?_
      · unfold qb_law_table_4
        exact hy _ _ ⟨_, rfl⟩ trivial
      · obtain ⟨bs, rfl⟩ := bools_of ht
        rw [range_len] at hl
        exact hy _ _ ⟨bs, rfl, by simpa using hl⟩ trivial
    · walk_at "j"
      refine jn_by2 (fun (p f : List PyData) => CupOk (n + 21) p ∧ f.length = rows ∧ ∀ y ∈ f, RowR many y) (fun J hJ => ?_) fun p3 f3 ⟨hp3, hl3, hf3⟩ => ?_
      · refine bIf_d (fun _ => ?_) fun _ => hJ _ _ ⟨hp.mono (by omega), hl2, hf2⟩
        walk_at "j"
        refine cup_take_q hp (by omega) (by omega) (by omega) _ fun a xs a0 a1 hp => ?_
        refine pick_mem a0 (by omega) fun r hr => ?_
        refine cup_take_q hp (by omega) (by omega) (by omega) _ fun b xs b0 b1 hp => ?_
        obtain ⟨bs, rfl, hbs⟩ := hf2 r hr
        have hfl : lfX [.cel true xs, .dat (.int rows), .dat (.int many), .dat (.int way), .dat (.bool sign), .cel false f2, .un, .un] 5 = true := by
          simp only [lfX, (cup_atoms hp).2, lf, lfE, Bool.and_self]
        rw [hfl]
        refine neQ_ok b0 (by rw [List.length_map, hbs]; omega) ?_ (lfs_bools bs) rfl fun f' hl' hf' => hJ _ _ ⟨hp.mono (by omega), by rw [hl', hl2], fun y hy => ?_⟩
        · refine List.all_eq_true.mpr fun y hy => ?_
          obtain ⟨cs, rfl, _⟩ := hf2 y hy
          exact lfs_bools cs
        · rcases hf' y hy with z | rfl
          · exact hf2 y z
          · refine ⟨bs.set b.toNat (!sign), ?_, by rw [List.length_set, hbs]⟩
            rw [List.map_set]
      · walk_at "j"
        refine jn_by2 (fun (p f : List PyData) => CupOk (n + 22) p ∧ f.length = rows ∧ ∀ y ∈ f, RowL many y) (fun J hJ => ?_) fun p4 f4 ⟨hp4, hl4, hf4⟩ => ?_
        · have hf3' : ∀ y ∈ f3, RowL many y := fun y hy => by
            obtain ⟨bs, e, l⟩ := hf3 y hy
            exact ⟨bs, .inl e, l⟩
          refine bIf_d (fun _ => ?_) fun _ => hJ _ _ ⟨hp3.mono (by omega), hl3, hf3'⟩
          walk_at "j"
          refine ⟨by omega, ?_⟩
          refine cup_take_q hp3 (by omega) (by omega) (by omega) _ fun a xs a0 a1 hp => ?_
          refine st_in a0 (by omega) (hJ _ _ ⟨hp.mono (by omega), by rw [List.length_set, hl3], fun y hy => ?_⟩)
          rcases List.mem_or_eq_of_mem_set hy with z | rfl
          · exact hf3' y z
          · exact ⟨List.replicate many (!sign), .inr (by rw [List.map_replicate]; rfl), by simp⟩
        · walk_at "j"
          refine jn_by (fun f : List PyData => f.length = rows ∧ ∀ y ∈ f, RowL many y) (fun J hJ => ?_) fun f5 ⟨hl5, hf5⟩ => ?_
          · refine bIf_d (fun _ => ?_) fun _ => hJ _ ⟨hl4, hf4⟩
            walk_at "j"
            refine ⟨by omega, ?_⟩
            refine qLc_each (RowL many) (fun _ _ => True) trivial (by rw [range_len]; omega) (fun k d s sk yd hd _ hy => ?_) fun acc s hl ht _ => hJ _ ⟨by rw [hl, range_len], ht⟩
            unfold qb_law_table_5
            walk_at "j"
            exact pick_mem (Int.le_refl _) (by omega) fun r hr => hy _ _ (hf4 r hr) trivial
          · walk_at "j"
            refine qLc_each (fun y => ∃ bs : List Bool, y = .tuple (bs.map .bool) ∧ bs.length = many) (fun _ _ => True) trivial (by omega) (fun k d s sk yd hd _ hy => ?_) fun acc s hl ht _ => ?_
            · unfold qb_law_table_6
              obtain ⟨bs, e, l⟩ := hf5 d (List.mem_of_getElem? hd)
              rcases e with rfl | rfl
              · exact hy _ _ ⟨bs, rfl, l⟩ trivial
              · exact hy _ _ ⟨bs, rfl, l⟩ trivial
            · exact hK _ _ ⟨many, acc, rfl, by rw [hl, hl5], m0, m1, ht⟩ (hp4.mono (by omega))
theorem bools_sm (bs : List Bool) (h : bs.length ≤ 8) : Sm 8 1 (.tuple (bs.map .bool)) := (Sm.tup (n := 8) (b := 0) (k := 0) (by simpa using h) fun x hx => by
  obtain ⟨b, _, rfl⟩ := List.mem_map.mp hx
  exact Sm.bool 0 0).mono
theorem TabOk.sm {rows : Nat} {d : PyData} (h : TabOk rows d) (hr : rows ≤ 4) : Sm 60 2 d := by
  obtain ⟨many, rs, rfl, hl, m0, m1, hb⟩ := h
  exact (Sm.tup (n := 4) (b := 8) (k := 1) (by omega) fun x hx => by
    obtain ⟨bs, rfl, l⟩ := hb x hx
    exact bools_sm bs (by omega)).mono
theorem nbs_bools : ∀ bs : List Bool, nbs (bs.map .bool) = true
  | [] => rfl
  | b :: bs => by rw [List.map_cons, nbs, nb, nbs_bools bs]; rfl
theorem TabOk.nums {rows : Nat} {d : PyData} (h : TabOk rows d) : nb d = true := by
  obtain ⟨many, rs, rfl, hl, m0, m1, hb⟩ := h
  rw [nb]
  exact nbs_all fun x hx => by
    obtain ⟨bs, rfl, l⟩ := hb x hx
    rw [nb]
    exact nbs_bools bs
/-! ### sights: logs and tables -/
def isI (a : PyData) (n : Nat) : Bool := match a with
  | .int i => decide (i = (n : Int))
  | _ => false
def isSights : PyData → Bool
  | .tuple [a, .tuple ts] => isIn a 1 4 && decide (ts.length ≤ 7) && ts.all fun t => isTab t && isI a (tlen t)
  | _ => false
theorem isTab_inv {d : PyData} (h : isTab d = true) : ∃ xs, d = .tuple xs ∧ 1 ≤ xs.length ∧ xs.length ≤ 4 := by
  unfold isTab at h
  split at h
  · simp only [Bool.and_eq_true, decide_eq_true_eq] at h
    exact ⟨_, rfl, h.1.1.1, h.1.1.2⟩
  · cases h
theorem is_number_q (a : PyData) (m : Int) (K : PyData → Prop) : q_is_number a (.int m) K = K (.bool (isIn a 0 (m - 1))) := by
  unfold q_is_number
  rw [is_whole_q]
  cases a <;> simp only [isW, isIn] <;> walk_at "q"
  rename_i i
  have e : decide (i < m) = decide (i ≤ m - 1) := decide_eq_decide.mpr (by omega)
  rw [e]
theorem sights_len {xs : List PyData} (h : xs.length ≠ 2) : isSights (.tuple xs) = false := by
  unfold isSights
  split
  · rename_i e
    cases e
    simp at h
  · rfl
theorem are_sights_q (d : PyData) (K : PyData → Prop) (h : K (.bool (isSights d))) : q_are_sights d K := by
  unfold q_are_sights
  cases e : isiB d "tuple" with
  | false =>
    have : isSights d = false := by
      cases d with
      | tuple xs => cases e
      | _ => rfl
    rw [this] at h
    walk_at "q"
    exact h
  | true =>
    obtain ⟨xs, rfl⟩ := isi_tup e
    walk_at "q"
    by_cases hl : xs.length = 2
    · match xs, hl, h with
      | [a, b], _, h =>
        walk_at "q"
        rw [decide_eq_true (show (((0 + 1 + 1 : Nat) : Int) = 2) from rfl)]
        walk_at "q"
        rw [is_number_q]
        walk_at "q"
        cases hn : isIn a 0 (4 + 1 - 1) with
        | false =>
          have : isSights (.tuple [a, b]) = false := by
            have z : isIn a 1 4 = false := by
              cases a with
              | int i =>
                simp only [isIn, Bool.and_eq_false_iff, decide_eq_false_iff_not] at hn ⊢
                omega
              | _ => rfl
            cases b <;> simp only [isSights, z, Bool.false_and]
          rw [this] at h
          walk_at "q"
          exact h
        | true =>
          walk_at "q"
          obtain ⟨n, rfl, n0, n1⟩ : ∃ n : Int, a = .int n ∧ 0 ≤ n ∧ n ≤ 4 := by
            cases a with
            | int i =>
              simp only [isIn, Bool.and_eq_true, decide_eq_true_eq] at hn
              exact ⟨i, rfl, hn.1, by omega⟩
            | _ => cases hn
          walk_at "q"
          refine bIf_d (fun h0 => ?_) fun h0 => ?_
          · subst h0
            have : isSights (.tuple [.int 0, b]) = false := by cases b <;> rfl
            rwa [this] at h
          · cases eb : isiB b "tuple" with
            | false =>
              have : isSights (.tuple [.int n, b]) = false := by
                cases b with
                | tuple xs => cases eb
                | _ => rfl
              rw [this] at h
              walk_at "q"
              exact h
            | true =>
              obtain ⟨ts, rfl⟩ := isi_tup eb
              walk_at "q"
              have e1 : isSights (.tuple [.int n, .tuple ts]) = (decide (ts.length ≤ 7) && ts.all fun t => isTab t && isI (.int n) (tlen t)) := by
                have z : isIn (.int n) 1 4 = true := by
                  simp only [isIn, Bool.and_eq_true, decide_eq_true_eq]
                  omega
                simp only [isSights, z, Bool.true_and]
              rw [e1] at h
              refine bIf_d (fun h7 => ?_) fun h7 => ?_
              · rw [decide_eq_false (show ¬ ts.length ≤ 7 by omega)] at h
                exact h
              · rw [decide_eq_true (show ts.length ≤ 7 by omega), Bool.true_and] at h
                refine qLc_map (fun t => .bool (isTab t && isI (.int n) (tlen t))) (by omega) (fun t ht sk yd hy => ?_) ?_
                · unfold qb_are_sights_1
                  refine is_table_q t _ ?_
                  cases et : isTab t with
                  | false =>
                    walk_at "q"
                    rw [et] at hy
                    exact hy
                  | true =>
                    obtain ⟨zs, rfl, _⟩ := isTab_inv et
                    walk_at "q"
                    rw [et] at hy
                    have z : decide ((zs.length : Int) = n) = isI (.int n) (tlen (.tuple zs)) := decide_eq_decide.mpr ⟨fun e => e.symm, fun e => e.symm⟩
                    rw [z]
                    exact hy
                · walk_at "q"
                  exact h
    · rw [sights_len hl] at h
      rw [decide_eq_false (show ¬ (xs.length : Int) = 2 by omega)]
      walk_at "q"
      exact h
/-! ### tables of truths as lists; their places -/
def rowD1 (bs : List Bool) : PyData := .tuple (bs.map .bool)
def tabD (bss : List (List Bool)) : PyData := .tuple (bss.map rowD1)
def plD (r c : Nat) : PyData := .tuple [.int (r : Int), .int (c : Int)]
def rowPl (w : Bool) (r : Nat) : Nat → List Bool → List PyData
  | _, [] => []
  | c, b :: bs => if b = w then plD r c :: rowPl w r (c + 1) bs else rowPl w r (c + 1) bs
def tabPl (w : Bool) : Nat → List (List Bool) → List PyData
  | _, [] => []
  | r, bs :: bss => rowPl w r 0 bs ++ tabPl w (r + 1) bss
/-- one to four rows of one to four truths, all of a length -/
def TbOk (many : Nat) (bss : List (List Bool)) : Prop := 1 ≤ bss.length ∧ bss.length ≤ 4 ∧ 1 ≤ many ∧ many ≤ 4 ∧ ∀ bs ∈ bss, bs.length = many
theorem TabOk.tb {rows : Nat} {d : PyData} (h : TabOk rows d) (h0 : 1 ≤ rows) (h1 : rows ≤ 4) : ∃ many bss, d = tabD bss ∧ TbOk many bss ∧ bss.length = rows := by
  obtain ⟨many, rs, rfl, hl, m0, m1, hr⟩ := h
  have : ∀ rs : List PyData, (∀ r ∈ rs, ∃ bs : List Bool, r = .tuple (bs.map .bool) ∧ bs.length = many) → ∃ bss : List (List Bool), rs = bss.map rowD1 ∧ ∀ bs ∈ bss, bs.length = many := by
    intro rs
    induction rs with
    | nil => intro _; exact ⟨[], rfl, by simp⟩
    | cons a b ih =>
      intro h
      obtain ⟨bs, rfl, l⟩ := h a (List.mem_cons_self ..)
      obtain ⟨bss, rfl, q⟩ := ih fun r hr => h r (List.mem_cons_of_mem _ hr)
      refine ⟨bs :: bss, rfl, fun x hx => ?_⟩
      rcases List.mem_cons.mp hx with rfl | hx
      · exact l
      · exact q x hx
  obtain ⟨bss, rfl, q⟩ := this rs hr
  rw [List.length_map] at hl
  exact ⟨many, bss, rfl, ⟨by omega, by omega, m0, m1, q⟩, hl⟩
theorem all_boo : ∀ bs : List Bool, (bs.map PyData.bool).all isBoo = true
  | [] => rfl
  | b :: bs => by rw [List.map_cons, List.all_cons, all_boo bs]; rfl
theorem TbOk.tab {many : Nat} {bss : List (List Bool)} (h : TbOk many bss) : isTab (tabD bss) = true := by
  obtain ⟨h0, h1, m0, m1, hr⟩ := h
  unfold tabD
  rw [isTab_t, List.length_map, decide_eq_true h0, decide_eq_true h1]
  simp only [Bool.true_and, Bool.and_eq_true, List.all_eq_true]
  refine ⟨fun r hm => ?_, fun r hm => ?_⟩
  · obtain ⟨bs, hb, rfl⟩ := List.mem_map.mp hm
    have l := hr bs hb
    unfold rowD1
    rw [isTRow_t, all_boo, List.length_map, decide_eq_true (show 1 ≤ bs.length by omega), decide_eq_true (show bs.length ≤ 4 by omega)]
    rfl
  obtain ⟨bs, hb, rfl⟩ := List.mem_map.mp hm
  have l := hr bs hb
  obtain ⟨b0, br, rfl⟩ : ∃ b0 br, bss = b0 :: br := by
    cases bss with
    | nil => simp at h0
    | cons a b => exact ⟨a, b, rfl⟩
  have l2 := hr b0 (List.mem_cons_self ..)
  rw [decide_eq_true_eq]
  show (bs.map PyData.bool).length = (b0.map PyData.bool).length
  rw [List.length_map, List.length_map, l, l2]
theorem rowPl_app {w : Bool} {r : Nat} : ∀ {as bs : List Bool} {c : Nat}, rowPl w r c (as ++ bs) = rowPl w r c as ++ rowPl w r (c + as.length) bs
  | [], bs, c => by simp [rowPl]
  | a :: as, bs, c => by
    rw [List.cons_append, rowPl, rowPl, rowPl_app (as := as), List.length_cons, show c + 1 + as.length = c + (as.length + 1) by omega]
    split <;> rfl
theorem tabPl_app {w : Bool} : ∀ {as bs : List (List Bool)} {r : Nat}, tabPl w r (as ++ bs) = tabPl w r as ++ tabPl w (r + as.length) bs
  | [], bs, r => by simp [tabPl]
  | a :: as, bs, r => by
    rw [List.cons_append, tabPl, tabPl, tabPl_app (as := as), List.length_cons, show r + 1 + as.length = r + (as.length + 1) by omega, List.append_assoc]
theorem rowPl_take {w : Bool} {r : Nat} {bs : List Bool} {k : Nat} {b : Bool} (h : bs[k]? = some b) : rowPl w r 0 (bs.take (k + 1)) = rowPl w r 0 (bs.take k) ++ if b = w then [plD r k] else [] := by
  have hk := (List.getElem?_eq_some_iff.mp h).1
  rw [List.take_add_one, h, Option.toList_some, rowPl_app, List.length_take, Nat.min_eq_left (Nat.le_of_lt hk), Nat.zero_add]
  simp only [rowPl]
theorem tabPl_take {w : Bool} {bss : List (List Bool)} {k : Nat} {bs : List Bool} (h : bss[k]? = some bs) : tabPl w 0 (bss.take (k + 1)) = tabPl w 0 (bss.take k) ++ rowPl w k 0 bs := by
  have hk := (List.getElem?_eq_some_iff.mp h).1
  rw [List.take_add_one, h, Option.toList_some, tabPl_app, List.length_take, Nat.min_eq_left (Nat.le_of_lt hk), Nat.zero_add]
  simp only [tabPl, List.append_nil]
theorem rowPl_len {w : Bool} {r : Nat} : ∀ {bs : List Bool} {c : Nat}, (rowPl w r c bs).length ≤ bs.length
  | [], _ => Nat.le_refl _
  | b :: bs, c => by
    rw [rowPl]
    have := rowPl_len (w := w) (r := r) (bs := bs) (c := c + 1)
    split <;> simp only [List.length_cons] <;> omega
theorem tabPl_len {w : Bool} {many : Nat} : ∀ {bss : List (List Bool)} {r : Nat}, (∀ bs ∈ bss, bs.length = many) → (tabPl w r bss).length ≤ bss.length * many
  | [], _, _ => by simp [tabPl]
  | b :: bss, r, h => by
    rw [tabPl, List.length_append, List.length_cons, Nat.add_mul, Nat.one_mul]
    have h1 := rowPl_len (w := w) (r := r) (bs := b) (c := 0)
    have h2 := tabPl_len (w := w) (bss := bss) (r := r + 1) fun x hx => h x (List.mem_cons_of_mem _ hx)
    have h3 := h b (List.mem_cons_self ..)
    omega
theorem rowPl_mem {w : Bool} {r : Nat} {d : PyData} : ∀ {bs : List Bool} {c : Nat}, d ∈ rowPl w r c bs → ∃ k, d = plD r k ∧ k < c + bs.length
  | [], _, h => by simp [rowPl] at h
  | b :: bs, c, h => by
    rw [rowPl] at h
    have rest : d ∈ rowPl w r (c + 1) bs → ∃ k, d = plD r k ∧ k < c + (bs.length + 1) := fun h => by
      obtain ⟨k, e, l⟩ := rowPl_mem h
      exact ⟨k, e, by omega⟩
    split at h
    · rcases List.mem_cons.mp h with rfl | h
      · exact ⟨c, rfl, by simp⟩
      · exact rest h
    · exact rest h
theorem tabPl_mem {w : Bool} {many : Nat} {d : PyData} : ∀ {bss : List (List Bool)} {r : Nat}, (∀ bs ∈ bss, bs.length = many) → d ∈ tabPl w r bss → ∃ i k, d = plD i k ∧ i < r + bss.length ∧ k < many
  | [], _, _, h => by simp [tabPl] at h
  | b :: bss, r, hm, h => by
    rw [tabPl] at h
    rcases List.mem_append.mp h with h | h
    · obtain ⟨k, e, l⟩ := rowPl_mem h
      have := hm b (List.mem_cons_self ..)
      exact ⟨r, k, e, by simp, by omega⟩
    · obtain ⟨i, k, e, l1, l2⟩ := tabPl_mem (fun x hx => hm x (List.mem_cons_of_mem _ hx)) h
      exact ⟨i, k, e, by simp; omega, l2⟩
theorem rowPl_some {r : Nat} : ∀ {bs : List Bool} {c : Nat}, bs ≠ [] → rowPl true r c bs ≠ [] ∨ rowPl false r c bs ≠ []
  | [], _, h => absurd rfl h
  | true :: bs, c, _ => .inl (by simp [rowPl])
  | false :: bs, c, _ => .inr (by simp [rowPl])
theorem tabPl_some {many : Nat} {bss : List (List Bool)} (h : TbOk many bss) : tabPl true 0 bss ≠ [] ∨ tabPl false 0 bss ≠ [] := by
  obtain ⟨h0, h1, m0, m1, hr⟩ := h
  match bss, h0, hr with
  | b :: bss, _, hr =>
    have l := hr b (List.mem_cons_self ..)
    have hb : b ≠ [] := fun e => by rw [e] at l; simp at l; omega
    simp only [tabPl]
    rcases rowPl_some (r := 0) (c := 0) hb with q | q
    · exact .inl fun e => q (List.append_eq_nil_iff.mp e).1
    · exact .inr fun e => q (List.append_eq_nil_iff.mp e).1
def headK (xs : List PyData) (k : PyData → Prop) (n : Prop) : Prop := match xs with
  | [] => n
  | d :: _ => k d
/-! ### the captor's logs, tables of ships; sets of ships -/
def sgD (logs : Nat) (tts : List (List (List Bool))) : PyData := .tuple [.int (logs : Int), .tuple (tts.map tabD)]
structure SgOk (logs : Nat) (tts : List (List (List Bool))) : Prop where
  l0 : 1 ≤ logs
  l1 : logs ≤ 4
  n1 : tts.length ≤ 7
  tb : ∀ bss ∈ tts, bss.length = logs ∧ ∃ many, TbOk many bss
/-- what a ship's table says by the captor's log k -/
def rowS (tts : List (List (List Bool))) (s k : Nat) : List Bool := (tts.getD s []).getD k []
def setI (p : Nat → Bool) (n : Nat) : List Int := ((List.range n).filter p).map fun i : Nat => (i : Int)
/-- the ships below n of which p is true -/
def setP (p : Nat → Bool) (n : Nat) : PyData := .tuple ((setI p n).map .int)
/-- the ship s bars the set by the log k -/
def barB (tts : List (List (List Bool))) (p : Nat → Bool) (k s : Nat) : Bool := !((rowS tts s k).contains (p s))
theorem sh_ints (x : Int) (ms : List Int) : shp (.int x) (ms.map .int) := by
  refine ⟨by unfold SeqAt.shaped; rfl, ?_⟩
  have z : PyData.canLayAll0 (ms.map PyData.int) = true ∧ PyData.depthAll (ms.map PyData.int) ≤ 1 := by
    induction ms with
    | nil => exact ⟨rfl, by decide⟩
    | cons m r ih =>
      rw [List.map_cons]
      exact ⟨by simp [PyData.canLayAll0, PyData.canLay0, ih.1], by simp [PyData.depthAll, PyData.depth]; exact ih.2⟩
  unfold SeqAt.shaped
  rw [Bool.and_eq_true, decide_eq_true_eq]
  exact ⟨by simp [PyData.canLay0, z.1], by simp [PyData.depth]; omega⟩
theorem sh_bools (t : Bool) (bs : List Bool) : shp (.bool t) (bs.map .bool) := by
  refine ⟨by cases t <;> rfl, ?_⟩
  have z : PyData.canLayAll0 (bs.map PyData.bool) = true ∧ PyData.depthAll (bs.map PyData.bool) ≤ 1 := by
    induction bs with
    | nil => exact ⟨rfl, by decide⟩
    | cons m r ih =>
      rw [List.map_cons]
      exact ⟨by simp [PyData.canLayAll0, PyData.canLay0, ih.1], by simp [PyData.depthAll, PyData.depth]; exact ih.2⟩
  unfold SeqAt.shaped
  rw [Bool.and_eq_true, decide_eq_true_eq]
  exact ⟨by simp [PyData.canLay0, z.1], by simp [PyData.depth]; omega⟩
theorem memI {x : Int} {ms : List Int} : memD (.int x) (ms.map .int) = decide (x ∈ ms) := by
  unfold memD
  rw [Bool.eq_iff_iff, List.any_eq_true, decide_eq_true_eq]
  constructor
  · rintro ⟨z, hz, e⟩
    obtain ⟨y, hy, rfl⟩ := List.mem_map.mp hz
    have : y = x := by simpa [PyData.eqv] using e
    exact this ▸ hy
  · intro h
    exact ⟨_, List.mem_map.mpr ⟨x, h, rfl⟩, by simp [PyData.eqv]⟩
theorem memB {x : Bool} {bs : List Bool} : memD (.bool x) (bs.map .bool) = bs.contains x := by
  unfold memD
  induction bs with
  | nil => rfl
  | cons a b ih =>
    rw [List.map_cons, List.any_cons, ih, List.contains_cons]
    congr 1
    cases a <;> cases x <;> simp [PyData.eqv]
theorem mem_setI {p : Nat → Bool} {n s : Nat} : ((s : Int) ∈ setI p n) ↔ (s < n ∧ p s = true) := by
  unfold setI
  rw [List.mem_map]
  constructor
  · rintro ⟨i, h, e⟩
    have : i = s := by omega
    subst this
    simpa using h
  · intro h
    exact ⟨s, by simpa using h, rfl⟩
theorem in_set {p : Nat → Bool} {n s : Nat} (h : s < n) : memD (.int (s : Int)) ((setI p n).map .int) = p s := by
  rw [memI, Bool.eq_iff_iff, decide_eq_true_eq, mem_setI]
  simp [h]
theorem SgOk.row {logs : Nat} {tts : List (List (List Bool))} (ok : SgOk logs tts) {s k : Nat} (hs : s < tts.length) (hk : k < logs) :
    ∃ bss many, tts[s]? = some bss ∧ TbOk many bss ∧ bss.length = logs ∧ bss[k]? = some (rowS tts s k) ∧ (rowS tts s k).length = many := by
  have e : tts[s]? = some tts[s] := List.getElem?_eq_getElem hs
  obtain ⟨hl, many, tb⟩ := ok.tb _ (List.getElem_mem hs)
  have e2 : (tts[s])[k]? = some (tts[s])[k] := List.getElem?_eq_getElem (by omega)
  have e3 : rowS tts s k = (tts[s])[k] := by
    unfold rowS
    rw [List.getD_eq_getElem?_getD, List.getD_eq_getElem?_getD, e, Option.getD_some, e2, Option.getD_some]
  exact ⟨_, many, e, tb, hl, by rw [e3]; exact e2, by rw [e3]; exact tb.2.2.2.2 _ (List.getElem_mem _)⟩
/-- a ship's table, a log's row -/
theorem ship_pick {tts : List (List (List Bool))} {s : Nat} {bss : List (List Bool)} {P : PyData → Prop} (h : tts[s]? = some bss) (hp : P (tabD bss)) : pick (tts.map tabD) (s : Int) P := pick_at (by rw [List.getElem?_map, h]; rfl) hp
theorem log_pick {bss : List (List Bool)} {k : Nat} {bs : List Bool} {P : PyData → Prop} (h : bss[k]? = some bs) (hp : P (rowD1 bs)) : pick (bss.map rowD1) (k : Int) P := pick_at (by rw [List.getElem?_map, h]; rfl) hp
theorem range_fm {n : Nat} {f : PyData → Option PyData} {g : Nat → Bool} (h : ∀ i : Nat, i < n → f (.int (i : Int)) = if g i = true then some (.int (i : Int)) else none) : (rangeD 0 n).filterMap f = (setI g n).map .int := by
  unfold rangeD setI
  rw [List.filterMap_map, List.map_map]
  have : ∀ l : List Nat, (∀ i ∈ l, i < n) → l.filterMap (f ∘ fun i : Nat => PyData.int (0 + (i : Int))) = (l.filter g).map (PyData.int ∘ fun i : Nat => (i : Int)) := by
    intro l
    induction l with
    | nil => intro _; rfl
    | cons a b ih =>
      intro hl
      have e : (f ∘ fun i : Nat => PyData.int (0 + (i : Int))) a = if g a = true then some (.int (a : Int)) else none := by
        show f (.int (0 + (a : Int))) = _
        rw [Int.zero_add]
        exact h a (hl a (List.mem_cons_self ..))
      have ih := ih fun i hi => hl i (List.mem_cons_of_mem _ hi)
      cases hg : g a with
      | true =>
        rw [List.filterMap_cons_some (b := .int (a : Int)) (by rw [e, hg]; rfl), List.filter_cons, if_pos hg, List.map_cons, ih]
        rfl
      | false =>
        rw [List.filterMap_cons_none (by rw [e, hg]; rfl), List.filter_cons, if_neg (by rw [hg]; decide), ih]
  exact this _ fun i hi => List.mem_range.mp hi
theorem enum_mem {xs : List PyData} {d : PyData} (h : d ∈ enumD 0 xs) : ∃ (i : Nat) (x : PyData), xs[i]? = some x ∧ d = .tuple [.int (i : Int), x] := by
  obtain ⟨i, hi⟩ := List.mem_iff_getElem?.mp h
  obtain ⟨x, h1, h2⟩ := enumD_get hi
  exact ⟨i, x, h1, by rw [h2, Nat.zero_add]⟩
theorem enum_map {α : Type} {f : PyData → α} : ∀ (xs : List PyData) (m : Nat), (enumD m xs).map f = (List.range xs.length).map fun i : Nat => f (.tuple [.int ((m + i : Nat) : Int), xs.getD i .none])
  | [], _ => rfl
  | x :: xs, m => by
    rw [enumD, List.map_cons, enum_map xs (m + 1), List.length_cons, List.range_succ_eq_map, List.map_cons, List.map_map]
    congr 1
    refine List.map_congr_left fun i _ => ?_
    show f _ = f _
    rw [show m + 1 + i = m + (i + 1) by omega]
    rfl
theorem is_barred_q {logs : Nat} {tts : List (List (List Bool))} (ok : SgOk logs tts) {p : Nat → Bool} {s k : Nat} (hs : s < tts.length) (hk : k < logs) (K : PyData → Prop) (h : K (.bool (barB tts p k s))) :
    q_is_barred (sgD logs tts) (setP p tts.length) (.int (k : Int)) (.int (s : Int)) K := by
  obtain ⟨bss, many, e1, tb, hl, e2, e3⟩ := ok.row hs hk
  unfold q_is_barred setP sgD
  walk_at "q"
  refine ⟨sh_ints _ _, ship_pick e1 ?_⟩
  unfold tabD
  walk_at "q"
  refine log_pick e2 ?_
  unfold rowD1
  rw [in_set hs]
  walk_at "q"
  refine ⟨sh_bools _ _, ?_⟩
  rw [memB]
  exact h
theorem bars_by_q {logs : Nat} {tts : List (List (List Bool))} (ok : SgOk logs tts) {p : Nat → Bool} {k : Nat} (hk : k < logs) (K : PyData → Prop) (h : K (.list ((setI (barB tts p k) tts.length).map .int))) :
    q_bars_by (sgD logs tts) (setP p tts.length) (.int (k : Int)) K := by
  have n1 := ok.n1
  unfold q_bars_by
  rw [sgD]
  walk_at "q"
  refine ⟨by omega, ?_⟩
  rw [show ((tts.length : Nat) : Int).toNat = tts.length by omega]
  refine qLc_fmap (fun d => match d with | .int i => if barB tts p k i.toNat = true then some d else none | _ => none) (by rw [range_len]; omega) (fun d hd sk yd hy hs => ?_) ?_
  · obtain ⟨j, hj⟩ := List.mem_iff_getElem?.mp hd
    obtain ⟨h1, rfl⟩ := range_get hj
    rw [Int.zero_add] at *
    unfold qb_bars_by_1
    refine is_barred_q ok h1 hk _ ?_
    dsimp only at hy hs
    rw [show ((j : Nat) : Int).toNat = j by omega] at hy hs
    walk_at "q"
    cases hb : barB tts p k j with
    | true => exact hy _ (by rw [if_pos hb])
    | false => exact hs (by rw [if_neg (by rw [hb]; decide)])
  · rw [range_fm (g := barB tts p k) (fun i hi => by show (if barB tts p k (i : Int).toNat = true then _ else _) = _; rw [show ((i : Nat) : Int).toNat = i by omega])]
    exact h
theorem SgOk.sights {logs : Nat} {tts : List (List (List Bool))} (ok : SgOk logs tts) : isSights (sgD logs tts) = true := by
  have z : isIn (.int (logs : Int)) 1 4 = true := by
    simp only [isIn, Bool.and_eq_true, decide_eq_true_eq]
    have := ok.l0
    have := ok.l1
    omega
  unfold sgD
  simp only [isSights, z, Bool.true_and, Bool.and_eq_true, decide_eq_true_eq, List.length_map, List.all_eq_true]
  refine ⟨ok.n1, fun t ht => ?_⟩
  obtain ⟨bss, hb, rfl⟩ := List.mem_map.mp ht
  obtain ⟨hl, many, tb⟩ := ok.tb bss hb
  refine ⟨tb.tab, ?_⟩
  unfold tabD
  simp only [tlen, isI, List.length_map]
  simp [hl]
def colL (tts : List (List (List Bool))) (p : Nat → Bool) (k : Nat) : List PyData := (List.range tts.length).map fun s => .int (((rowS tts s k).idxOf (p s) : Nat) : Int)
theorem find_bool {b : Bool} : ∀ {bs : List Bool}, b ∈ bs → (bs.map PyData.bool).findIdx? (fun z => eqD z (.bool b)) = some (bs.idxOf b)
  | [], h => by simp at h
  | a :: bs, h => by
    rw [List.map_cons, List.findIdx?_cons, eqD_bool, List.idxOf_cons]
    by_cases e : a = b
    · subst e
      simp
    · have h2 : b ∈ bs := (List.mem_cons.mp h).resolve_left fun z => e z.symm
      have e2 : (a == b) = false := by simpa using e
      rw [decide_eq_false e, find_bool h2, e2]
      rfl
theorem idx_q {bs : List Bool} {b : Bool} {P : PyData → Prop} (hb : b ∈ bs) (h : P (.int ((bs.idxOf b : Nat) : Int))) : idxQ (bs.map .bool) (.bool b) P := by
  unfold idxQ
  rw [find_bool hb]
  exact ⟨⟨(sh_bools b bs).2, (sh_bools b bs).1⟩, h⟩
theorem columns_by_q {logs : Nat} {tts : List (List (List Bool))} (ok : SgOk logs tts) {p : Nat → Bool} {k : Nat} (hk : k < logs) (hb : ∀ s, s < tts.length → p s ∈ rowS tts s k) (K : PyData → Prop) (h : K (.tuple (colL tts p k))) :
    q_columns_by (sgD logs tts) (setP p tts.length) (.int (k : Int)) K := by
  have n1 := ok.n1
  unfold q_columns_by
  rw [sgD]
  walk_at "q"
  refine qLc_map (fun d => match d with | .tuple [.int i, _] => .int (((rowS tts i.toNat k).idxOf (p i.toNat) : Nat) : Int) | _ => .none) (by rw [enumD_length, List.length_map]; omega) (fun d hd sk yd hy => ?_) ?_
  · obtain ⟨s, x, hx, rfl⟩ := enum_mem hd
    rw [List.getElem?_map, Option.map_eq_some_iff] at hx
    obtain ⟨bss, hx, rfl⟩ := hx
    have hs := (List.getElem?_eq_some_iff.mp hx).1
    obtain ⟨bss', many, e1, tb, hl, e2, e3⟩ := ok.row hs hk
    rw [hx] at e1
    cases e1
    dsimp only at hy
    rw [show ((s : Nat) : Int).toNat = s by omega] at hy
    unfold qb_columns_by_1 tabD setP
    walk_at "q"
    refine log_pick e2 ?_
    unfold rowD1
    walk_at "q"
    refine ⟨sh_ints _ _, ?_⟩
    rw [in_set hs]
    exact idx_q (hb s hs) hy
  · rw [enum_map]
    have e : ((List.range (tts.map tabD).length).map fun i : Nat => (match PyData.tuple [.int ((0 + i : Nat) : Int), (tts.map tabD).getD i .none] with | .tuple [.int i, _] => PyData.int (((rowS tts i.toNat k).idxOf (p i.toNat) : Nat) : Int) | _ => .none)) = colL tts p k := by
      unfold colL
      rw [List.length_map]
      refine List.map_congr_left fun i _ => ?_
      dsimp only
      rw [show (((0 + i : Nat) : Int)).toNat = i by omega]
    rw [e]
    walk_at "q"
    exact h
theorem tabs_of {logs : Nat} (l0 : 1 ≤ logs) (l1 : logs ≤ 4) : ∀ {ts : List PyData}, (∀ t ∈ ts, TabOk logs t) → ∃ tts : List (List (List Bool)), ts = tts.map tabD ∧ ∀ bss ∈ tts, bss.length = logs ∧ ∃ many, TbOk many bss
  | [], _ => ⟨[], rfl, by simp⟩
  | t :: ts, h => by
    obtain ⟨many, bss, rfl, tb, hl⟩ := (h t (List.mem_cons_self ..)).tb l0 l1
    obtain ⟨tts, rfl, ht⟩ := tabs_of l0 l1 fun t ht => h t (List.mem_cons_of_mem _ ht)
    refine ⟨bss :: tts, rfl, fun b hb => ?_⟩
    rcases List.mem_cons.mp hb with rfl | hb
    · exact ⟨hl, many, tb⟩
    · exact ht b hb
theorem sg_law_q {n : Int} {xs : List PyData} {most : Nat} (hp : CupOk n xs) (hn : n ≤ 10 ^ 4) (hm : most ≤ 7) (K : PyData → List PyData → Prop)
    (hK : ∀ logs tts xs', SgOk logs tts → tts.length ≤ most → CupOk (n + 410) xs' → K (sgD logs tts) xs') : q_law_sights xs (.int most) K := by
  unfold q_law_sights
  refine cup_take_q hp (by omega) (by decide) (by decide) _ fun t xs t0 t1 hp => ?_
  obtain ⟨logs, el⟩ : ∃ logs : Nat, 1 + t = (logs : Int) := ⟨(1 + t).toNat, by omega⟩
  walk_at "q"
  rw [el]
  refine cup_take_q hp (by omega) (by omega) (by omega) _ fun s xs s0 s1 hp => ?_
  refine cup_take_q hp (by omega) (by decide) (by decide) _ fun w xs w0 w1 hp => ?_
  walk_at "q"
  refine pick_mem w0 (by simpa using w1) fun d hd => ?_
  obtain ⟨m, rfl, hm1⟩ : ∃ m : Nat, d = .int m ∧ m ≤ most := by
    simp only [List.mem_cons, List.not_mem_nil, or_false] at hd
    rcases hd with rfl | rfl
    · exact ⟨s.toNat, by rw [Int.toNat_of_nonneg s0], by omega⟩
    · exact ⟨most, rfl, Nat.le_refl _⟩
  walk_at "q"
  refine ⟨by omega, ?_⟩
  refine qLc_each (TabOk logs) (fun k s => CupOk (n + 3 + 40 * k) s) (hp.mono (by omega)) (by rw [range_len]; omega) (fun k d s sk yd hd hp hy => ?_) fun ts xs hl ht hp => ?_
  · have hk : k < m := by have := (List.getElem?_eq_some_iff.mp hd).1; rw [range_len] at this; omega
    unfold qb_law_sights_1
    exact law_table_q hp (by omega) (by omega) (by omega) _ fun d xs hd hp => hy _ _ hd (hp.mono (by omega))
  · rw [range_len] at hl hp
    obtain ⟨tts, rfl, h⟩ := tabs_of (by omega) (by omega) ht
    rw [List.length_map] at hl
    exact hK logs tts _ ⟨by omega, by omega, by omega, h⟩ (by omega) (hp.mono (by omega))
/-! ### tuples of whole numbers, sorted -/
def tupI (ns : List Int) : PyData := .tuple (ns.map .int)
def tokI : List Int → List (Int ⊕ List Nat)
  | [] => [.inl 0]
  | n :: r => .inl 1 :: .inl n :: tokI r
theorem tokI_eq : ∀ ns : List Int, PySem.W.keyToksAll (ns.map .int) = tokI ns
  | [] => by simp [PySem.W.keyToksAll, tokI]
  | n :: r => by simp [PySem.W.keyToksAll, PySem.W.keyToks, tokI, tokI_eq r]
theorem tokI_inj : ∀ {a b : List Int}, tokI a = tokI b → a = b
  | [], [], _ => rfl
  | [], n :: r, h => by simp [tokI] at h
  | n :: r, [], h => by simp [tokI] at h
  | n :: r, m :: t, h => by
    simp only [tokI, List.cons.injEq, Sum.inl.injEq, true_and] at h
    rw [h.1, tokI_inj h.2]
/-- the one tuple is ahead of the other -/
def ltT (a b : List Int) : Bool := PyProof.Rows.lexLt PyProof.Rows.itemOrd (tokI a) (tokI b)
theorem ltT_irr {a : List Int} : ltT a a = false := PyProof.Rows.lex_irrefl _
theorem ltT_trans {a b c : List Int} (h : ltT a b = true) (k : ltT b c = true) : ltT a c = true := PyProof.Rows.lex_trans _ _ _ h k
theorem ltT_total {a b : List Int} (h : ltT a b = false) (k : ltT b a = false) : a = b := tokI_inj (PyProof.Rows.lex_total _ _ h k)
theorem leT {a b : List Int} : PySem.W.dataLe false id (tupI a) (tupI b) = !ltT b a := by
  unfold PySem.W.dataLe PySem.W.sortLe ltT tupI
  simp only [cond_false, id, PySem.W.keyToks, tokI_eq]
theorem riseT_uniq : ∀ {l m : List (List Int)}, l.Pairwise (fun a b => ltT a b = true) → m.Pairwise (fun a b => ltT a b = true) → (∀ k, k ∈ l ↔ k ∈ m) → l = m
  | [], [], _, _, _ => rfl
  | [], b :: m, _, _, h => by have := (h b).mpr (List.mem_cons_self ..); simp at this
  | a :: l, [], _, _, h => by have := (h a).mp (List.mem_cons_self ..); simp at this
  | a :: l, b :: m, hl, hm, h => by
    obtain ⟨l1, l2⟩ := List.pairwise_cons.mp hl
    obtain ⟨m1, m2⟩ := List.pairwise_cons.mp hm
    have irr : ∀ {x : List Int}, ltT x x = true → False := fun p => by rw [ltT_irr] at p; exact nomatch p
    have e : a = b := by
      rcases List.mem_cons.mp ((h a).mp (List.mem_cons_self ..)) with z | z
      · exact z
      · rcases List.mem_cons.mp ((h b).mpr (List.mem_cons_self ..)) with y | y
        · exact y.symm
        · exact (irr (ltT_trans (m1 a z) (l1 b y))).elim
    subst e
    congr 1
    refine riseT_uniq l2 m2 fun k => ⟨fun z => ?_, fun z => ?_⟩
    · rcases List.mem_cons.mp ((h k).mp (List.mem_cons_of_mem _ z)) with y | y
      · exact (irr (y ▸ l1 k z)).elim
      · exact y
    · rcases List.mem_cons.mp ((h k).mpr (List.mem_cons_of_mem _ z)) with y | y
      · exact (irr (y ▸ m1 k z)).elim
      · exact y
theorem sortT (A : List (List Int)) (nd : A.Nodup) : ∃ B : List (List Int), sortD (A.map tupI) = B.map tupI ∧ B.Pairwise (fun a b => ltT a b = true) ∧ B.Perm A := by
  have e := PySem.W.sort_maps (r := fun a b : List Int => !ltT b a) (s := PySem.W.dataLe false id) tupI (l := A) (fun a b _ _ => leT.symm)
  refine ⟨A.mergeSort fun a b => !ltT b a, by unfold sortD; exact e.symm, ?_, List.mergeSort_perm _ _⟩
  have pw := List.pairwise_mergeSort (le := fun a b : List Int => !ltT b a) (fun a b c h1 h2 => by
    simp only [Bool.not_eq_true'] at h1 h2 ⊢
    cases q : ltT c a with
    | false => rfl
    | true =>
      cases q2 : ltT a b with
      | true => rw [ltT_trans q q2] at h2; cases h2
      | false =>
        have := ltT_total q2 h1
        subst this
        rw [q] at h2
        cases h2) (fun a b => by
    cases q : ltT b a with
    | false => simp
    | true =>
      cases q2 : ltT a b with
      | false => simp
      | true => have := ltT_trans q q2; rw [ltT_irr] at this; cases this) A
  have nd2 : (A.mergeSort fun a b => !ltT b a).Nodup := (List.mergeSort_perm _ _).nodup_iff.mpr nd
  refine (pw.and nd2).imp fun {a b} h => ?_
  obtain ⟨h1, h2⟩ := h
  simp only [Bool.not_eq_true'] at h1
  cases q : ltT a b with
  | true => rfl
  | false => exact absurd (ltT_total q h1) h2
theorem alike_ints : ∀ a b : List Int, PySem.W.alikeAll (a.map .int) (b.map .int) = true
  | [], _ => by simp [PySem.W.alikeAll]
  | _ :: _, [] => by simp [PySem.W.alikeAll]
  | x :: a, y :: b => by simp [PySem.W.alikeAll, PySem.W.alike, alike_ints a b]
theorem depth_ints : ∀ a : List Int, PyData.depthAll (a.map .int) ≤ 1
  | [] => by simp [PyData.depthAll]
  | x :: a => by have := depth_ints a; simp [PyData.depthAll, PyData.depth]; omega
theorem nod_ints : ∀ a : List Int, PyData.hasDictAll (a.map .int) = false
  | [] => by simp [PyData.hasDictAll]
  | x :: a => by simp [PyData.hasDictAll, PyData.hasDict, nod_ints a]
theorem nod_tups : ∀ A : List (List Int), PyData.hasDictAll (A.map tupI) = false
  | [] => by simp [PyData.hasDictAll]
  | x :: a => by simp [PyData.hasDictAll, PyData.hasDict, nod_tups a, tupI, nod_ints]
theorem sortOk_tups (A : List (List Int)) : sortOkT (A.map tupI) := by
  refine ⟨fun d hd d' hd' => ?_, fun d hd => ?_, fun d hd => ?_, nod_tups A⟩
  · obtain ⟨a, _, rfl⟩ := List.mem_map.mp hd
    obtain ⟨b, _, rfl⟩ := List.mem_map.mp hd'
    unfold tupI
    simp only [PySem.W.alike]
    exact alike_ints a b
  · obtain ⟨a, _, rfl⟩ := List.mem_map.mp hd
    exact ⟨_, rfl⟩
  · obtain ⟨a, _, rfl⟩ := List.mem_map.mp hd
    unfold tupI
    have := depth_ints a
    simp only [PyData.depth]
    omega
/-! ### the ships that are sure, that may be -/
def sureB (tts : List (List (List Bool))) (k s : Nat) : Bool := !(rowS tts s k).contains false
def someB (tts : List (List (List Bool))) (k s : Nat) : Bool := (rowS tts s k).contains true
theorem enum_fm2 {n : Nat} {xs : List PyData} {f : PyData → Option PyData} {g : Nat → Bool} (hn : xs.length = n) (h : ∀ (i : Nat) (x : PyData), xs[i]? = some x → f (.tuple [.int (i : Int), x]) = if g i = true then some (.int (i : Int)) else none) : (enumD 0 xs).filterMap f = (setI g n).map .int := by
  rw [← range_fm (n := n) (g := g) (f := fun d => match d with | .int i => f (.tuple [.int i, xs.getD i.toNat .none]) | _ => none) (fun i hi => by
    show f (.tuple [.int (i : Int), xs.getD (i : Int).toNat .none]) = _
    rw [show ((i : Nat) : Int).toNat = i by omega]
    exact h i _ (by rw [List.getD_eq_getElem?_getD, List.getElem?_eq_getElem (by omega), Option.getD_some]))]
  have e := enum_map (f := fun d => d) xs 0
  rw [List.map_id'] at e
  rw [e, List.filterMap_map]
  unfold rangeD
  rw [List.filterMap_map, hn]
  congr 1
  funext i
  show f (.tuple [.int ((0 + i : Nat) : Int), _]) = f _
  rw [Nat.zero_add, Int.zero_add, show ((i : Nat) : Int).toNat = i by omega]
theorem sure_by_q {logs : Nat} {tts : List (List (List Bool))} (ok : SgOk logs tts) {k : Nat} (hk : k < logs) (K : PyData → Prop) (h : K (setP (sureB tts k) tts.length)) : q_sure_by (sgD logs tts) (.int (k : Int)) K := by
  have n1 := ok.n1
  unfold q_sure_by
  rw [sgD]
  walk_at "q"
  refine qLc_fmap (fun d => match d with | .tuple [.int i, _] => if sureB tts k i.toNat = true then some (.int i) else none | _ => none) (by rw [enumD_length, List.length_map]; omega) (fun d hd sk yd hy hsk => ?_) ?_
  · obtain ⟨s, x, hx, rfl⟩ := enum_mem hd
    rw [List.getElem?_map, Option.map_eq_some_iff] at hx
    obtain ⟨bss, hx, rfl⟩ := hx
    have hs := (List.getElem?_eq_some_iff.mp hx).1
    obtain ⟨bss', many, e1, tb, hl, e2, e3⟩ := ok.row hs hk
    rw [hx] at e1
    cases e1
    dsimp only at hy hsk
    rw [show ((s : Nat) : Int).toNat = s by omega] at hy hsk
    unfold qb_sure_by_1 tabD
    walk_at "q"
    refine log_pick e2 ?_
    unfold rowD1
    walk_at "q"
    refine ⟨sh_bools _ _, ?_⟩
    rw [memB]
    walk_at "q"
    cases hb : (rowS tts s k).contains false with
    | true =>
      exact hsk (by unfold sureB; rw [hb]; rfl)
    | false =>
      exact hy _ (by unfold sureB; rw [hb]; rfl)
  · rw [enum_fm2 (g := sureB tts k) (n := tts.length) (by rw [List.length_map]) fun i x _ => by
      show (if sureB tts k (i : Int).toNat = true then _ else _) = _
      rw [show ((i : Nat) : Int).toNat = i by omega]]
    walk_at "q"
    exact h
theorem some_by_q {logs : Nat} {tts : List (List (List Bool))} (ok : SgOk logs tts) {k : Nat} (hk : k < logs) (K : PyData → Prop) (h : K (setP (someB tts k) tts.length)) : q_some_by (sgD logs tts) (.int (k : Int)) K := by
  have n1 := ok.n1
  unfold q_some_by
  rw [sgD]
  walk_at "q"
  refine qLc_fmap (fun d => match d with | .tuple [.int i, _] => if someB tts k i.toNat = true then some (.int i) else none | _ => none) (by rw [enumD_length, List.length_map]; omega) (fun d hd sk yd hy hsk => ?_) ?_
  · obtain ⟨s, x, hx, rfl⟩ := enum_mem hd
    rw [List.getElem?_map, Option.map_eq_some_iff] at hx
    obtain ⟨bss, hx, rfl⟩ := hx
    have hs := (List.getElem?_eq_some_iff.mp hx).1
    obtain ⟨bss', many, e1, tb, hl, e2, e3⟩ := ok.row hs hk
    rw [hx] at e1
    cases e1
    dsimp only at hy hsk
    rw [show ((s : Nat) : Int).toNat = s by omega] at hy hsk
    unfold qb_some_by_1 tabD
    walk_at "q"
    refine log_pick e2 ?_
    unfold rowD1
    walk_at "q"
    refine ⟨sh_bools _ _, ?_⟩
    rw [memB]
    walk_at "q"
    cases hb : (rowS tts s k).contains true with
    | false =>
      exact hsk (by unfold someB; rw [hb]; rfl)
    | true =>
      exact hy _ (by unfold someB; rw [hb]; rfl)
  · rw [enum_fm2 (g := someB tts k) (n := tts.length) (by rw [List.length_map]) fun i x _ => by
      show (if someB tts k (i : Int).toNat = true then _ else _) = _
      rw [show ((i : Nat) : Int).toNat = i by omega]]
    walk_at "q"
    exact h
/-! ### the sets that may be -/
/-- no ship bars by the log k -/
def frB (tts : List (List (List Bool))) (p : Nat → Bool) (k : Nat) : Bool := (List.range tts.length).all fun s => (rowS tts s k).contains (p s)
theorem frB_at {tts : List (List (List Bool))} {p : Nat → Bool} {k : Nat} : frB tts p k = true ↔ ∀ s, s < tts.length → p s ∈ rowS tts s k := by
  unfold frB
  simp
/-- a set that may be by the log k -/
def MayK (tts : List (List (List Bool))) (k : Nat) (ms : List Int) : Prop := ∃ p : Nat → Bool, frB tts p k = true ∧ ms = setI p tts.length
def natI (ss : List Nat) : List Int := ss.map fun s : Nat => (s : Int)
theorem row_some {logs : Nat} {tts : List (List (List Bool))} (ok : SgOk logs tts) {s k : Nat} (hs : s < tts.length) (hk : k < logs) (h : someB tts k s = false) : (rowS tts s k).contains false = true := by
  obtain ⟨bss, many, e1, tb, hl, e2, e3⟩ := ok.row hs hk
  have m1 := tb.2.2.1
  unfold someB at h
  cases e : rowS tts s k with
  | nil => rw [e] at e3; simp at e3; omega
  | cons a r =>
    cases a with
    | true => rw [e] at h; simp at h
    | false => simp
/-- of the ships that may be, all that are sure: just the sets that may be -/
theorem may_iff {logs : Nat} {tts : List (List (List Bool))} (ok : SgOk logs tts) {k : Nat} (hk : k < logs) (ms : List Int) :
    (∃ p : Nat → Bool, (∀ t ∈ (List.range tts.length).filter (someB tts k), sureB tts k t = true → p t = true) ∧ ms = natI (((List.range tts.length).filter (someB tts k)).filter p)) ↔ MayK tts k ms := by
  constructor
  · rintro ⟨p, h1, rfl⟩
    refine ⟨fun t => p t && someB tts k t, frB_at.mpr fun s hs => ?_, ?_⟩
    · cases e : someB tts k s with
      | false =>
        rw [Bool.and_false]
        have := row_some ok hs hk e
        simpa using this
      | true =>
        rw [Bool.and_true]
        cases e2 : p s with
        | true => unfold someB at e; simpa using e
        | false =>
          cases e3 : sureB tts k s with
          | true =>
            have := h1 s (by rw [List.mem_filter]; exact ⟨List.mem_range.mpr hs, e⟩) e3
            rw [e2] at this
            cases this
          | false =>
            unfold sureB at e3
            simpa using e3
    · unfold natI setI
      rw [List.filter_filter]
  · rintro ⟨p, h1, rfl⟩
    have h1 := frB_at.mp h1
    refine ⟨p, fun t ht hs => ?_, ?_⟩
    · have hn := List.mem_range.mp (List.mem_filter.mp ht).1
      have := h1 t hn
      cases e : p t with
      | true => rfl
      | false =>
        rw [e] at this
        unfold sureB at hs
        simp at hs
        exact absurd this hs
    · unfold natI setI
      rw [List.filter_filter]
      congr 1
      refine List.filter_congr fun t ht => ?_
      have := h1 t (List.mem_range.mp ht)
      cases e : p t with
      | false => rfl
      | true =>
        rw [e] at this
        unfold someB
        simpa using this
theorem sets_by_q {logs : Nat} {tts : List (List (List Bool))} (ok : SgOk logs tts) {k : Nat} (hk : k < logs) (K : PyData → Prop) (h : ∀ L : List (List Int), L.length ≤ 128 → (∀ ms, ms ∈ L ↔ MayK tts k ms) → K (.list (L.map tupI))) : q_sets_by (sgD logs tts) (.int (k : Int)) K := by
  have n1 := ok.n1
  unfold q_sets_by
  refine sure_by_q ok hk _ ?_
  refine some_by_q ok hk _ ?_
  unfold setP
  walk_at "q"
  have hss : setI (someB tts k) tts.length = natI ((List.range tts.length).filter (someB tts k)) := rfl
  rw [hss]
  have lss : ((List.range tts.length).filter (someB tts k)).length ≤ 7 := by
    have := List.length_filter_le (someB tts k) (List.range tts.length)
    rw [List.length_range] at this
    omega
  have nss : ((List.range tts.length).filter (someB tts k)).Nodup := List.nodup_range.sublist List.filter_sublist
  have mss : ∀ t ∈ (List.range tts.length).filter (someB tts k), t < tts.length := fun t ht => List.mem_range.mp (List.mem_filter.mp ht).1
  have fin := may_iff ok hk
  generalize (List.range tts.length).filter (someB tts k) = ss at lss nss mss fin ⊢
  refine qFor_ind (fun j s => ∃ L : List (List Int), s = .list (L.map tupI) ∧ L.length ≤ 2 ^ j ∧ ∀ ms, ms ∈ L ↔ ∃ p : Nat → Bool, (∀ t ∈ ss.take j, sureB tts k t = true → p t = true) ∧ ms = natI ((ss.take j).filter p))
    ⟨[[]], rfl, by decide, fun ms => ?_⟩ (fun j d s nx hd hs hnx => ?_) fun s hs => ?_
  · rw [List.mem_singleton]
    exact ⟨fun e => ⟨fun _ => true, by simp, by rw [e]; rfl⟩, fun ⟨p, _, e⟩ => by rw [e]; rfl⟩
  · obtain ⟨L, rfl, hl, hm⟩ := hs
    unfold natI at hd
    rw [List.map_map, List.getElem?_map, Option.map_eq_some_iff] at hd
    obtain ⟨t, ht, ed⟩ := hd
    have ed : d = .int (t : Int) := ed.symm
    subst ed
    have hj : j < ss.length := (List.getElem?_eq_some_iff.mp ht).1
    have l128 : 2 ^ j ≤ 64 := by
      have : j ≤ 6 := by omega
      exact Nat.pow_le_pow_right (n := 2) (by decide) this
    have tk : ss.take (j + 1) = ss.take j ++ [t] := by rw [List.take_add_one, ht]; rfl
    have tn : t ∉ ss.take j := fun hmem => by
      have nd2 : (ss.take (j + 1)).Nodup := nss.sublist (List.take_sublist _ _)
      rw [tk, List.nodup_append] at nd2
      exact nd2.2.2 t hmem t (List.mem_singleton.mpr rfl) rfl
    have tl := mss t (List.mem_of_getElem? ht)
    have more : ∀ ms, (∃ a ∈ L, ms = a ++ [(t : Int)]) ↔ ∃ p : Nat → Bool, (∀ u ∈ ss.take j, sureB tts k u = true → p u = true) ∧ p t = true ∧ ms = natI ((ss.take (j + 1)).filter p) := fun ms => by
      constructor
      · rintro ⟨a, ha, rfl⟩
        obtain ⟨p, h1, rfl⟩ := (hm a).mp ha
        refine ⟨fun u => if u = t then true else p u, fun u hu hsu => ?_, by simp, ?_⟩
        · have : u ≠ t := fun e => tn (e ▸ hu)
          simp [this, h1 u hu hsu]
        · rw [tk, List.filter_append]
          have : (ss.take j).filter (fun u => if u = t then true else p u) = (ss.take j).filter p := List.filter_congr fun u hu => by
            have : u ≠ t := fun e => tn (e ▸ hu)
            simp [this]
          rw [this]
          simp [natI]
      · rintro ⟨p, h1, h2, rfl⟩
        refine ⟨natI ((ss.take j).filter p), (hm _).mpr ⟨p, h1, rfl⟩, ?_⟩
        rw [tk, List.filter_append]
        simp [natI, h2]
    have less : ∀ ms, ms ∈ L ↔ ∃ p : Nat → Bool, (∀ u ∈ ss.take j, sureB tts k u = true → p u = true) ∧ p t = false ∧ ms = natI ((ss.take (j + 1)).filter p) := fun ms => by
      rw [hm]
      constructor
      · rintro ⟨p, h1, rfl⟩
        refine ⟨fun u => if u = t then false else p u, fun u hu hsu => ?_, by simp, ?_⟩
        · have : u ≠ t := fun e => tn (e ▸ hu)
          simp [this, h1 u hu hsu]
        · rw [tk, List.filter_append]
          have : (ss.take j).filter (fun u => if u = t then false else p u) = (ss.take j).filter p := List.filter_congr fun u hu => by
            have : u ≠ t := fun e => tn (e ▸ hu)
            simp [this]
          rw [this]
          simp [natI]
      · rintro ⟨p, h1, h2, rfl⟩
        refine ⟨p, h1, ?_⟩
        rw [tk, List.filter_append]
        simp [natI, h2]
    unfold qb_sets_by_1
    walk_at "q"
    refine qLc_map (fun d => match d with | .tuple ds => .tuple (ds ++ [.int (t : Int)]) | _ => .none) (by rw [List.length_map]; omega) (fun d hd sk yd hy => ?_) ?_
    · obtain ⟨a, ha, rfl⟩ := List.mem_map.mp hd
      unfold qb_sets_by_2 tupI
      walk_at "q"
      have al : a.length ≤ 7 := by
        obtain ⟨p, _, rfl⟩ := (hm a).mp ha
        unfold natI
        rw [List.length_map]
        have := List.length_filter_le p (ss.take j)
        have : (ss.take j).length ≤ ss.length := by rw [List.length_take]; omega
        omega
      exact ⟨by omega, hy⟩
    · walk_at "q"
      have em : (L.map tupI).map (fun d => match d with | .tuple ds => PyData.tuple (ds ++ [.int (t : Int)]) | _ => .none) = (L.map fun a => a ++ [(t : Int)]).map tupI := by
        rw [List.map_map, List.map_map]
        refine List.map_congr_left fun a _ => ?_
        simp [tupI]
      rw [em]
      refine ⟨sh_ints _ _, ?_⟩
      rw [in_set tl]
      cases es : sureB tts k t with
      | true =>
        walk_at "q"
        refine hnx _ ⟨_, rfl, by rw [List.length_map, Nat.pow_succ]; omega, fun ms => ?_⟩
        rw [List.mem_map]
        have mm := more ms
        constructor
        · rintro ⟨a, ha, rfl⟩
          obtain ⟨p, h1, h2, h3⟩ := mm.mp ⟨a, ha, rfl⟩
          refine ⟨p, fun u hu hsu => ?_, h3⟩
          rw [tk, List.mem_append] at hu
          rcases hu with hu | hu
          · exact h1 u hu hsu
          · rw [List.mem_singleton.mp hu]
            exact h2
        · rintro ⟨p, h1, h3⟩
          obtain ⟨a, ha, e⟩ := mm.mpr ⟨p, fun u hu hsu => h1 u (by rw [tk]; exact List.mem_append_left _ hu) hsu, h1 t (by rw [tk]; simp) es, h3⟩
          exact ⟨a, ha, e.symm⟩
      | false =>
        walk_at "q"
        refine ⟨by omega, ?_⟩
        rw [← List.map_append]
        refine hnx _ ⟨_, rfl, by rw [List.length_append, List.length_map, Nat.pow_succ]; omega, fun ms => ?_⟩
        rw [List.mem_append, List.mem_map]
        constructor
        · rintro (ha | ⟨a, ha, rfl⟩)
          · obtain ⟨p, h1, h2, h3⟩ := (less ms).mp ha
            refine ⟨p, fun u hu hsu => ?_, h3⟩
            rw [tk, List.mem_append] at hu
            rcases hu with hu | hu
            · exact h1 u hu hsu
            · rw [List.mem_singleton.mp hu, es] at hsu
              cases hsu
          · obtain ⟨p, h1, h2, h3⟩ := (more _).mp ⟨a, ha, rfl⟩
            refine ⟨p, fun u hu hsu => ?_, h3⟩
            rw [tk, List.mem_append] at hu
            rcases hu with hu | hu
            · exact h1 u hu hsu
            · rw [List.mem_singleton.mp hu, es] at hsu
              cases hsu
        · rintro ⟨p, h1, h3⟩
          have h1' : ∀ u ∈ ss.take j, sureB tts k u = true → p u = true := fun u hu hsu => h1 u (by rw [tk]; exact List.mem_append_left _ hu) hsu
          cases e : p t with
          | false => exact .inl ((less ms).mpr ⟨p, h1', e, h3⟩)
          | true =>
            obtain ⟨a, ha, e⟩ := (more ms).mpr ⟨p, h1', e, h3⟩
            exact .inr ⟨a, ha, e.symm⟩
  · obtain ⟨L, rfl, hl, hm⟩ := hs
    have ll : (List.map PyData.int (natI ss)).length = ss.length := by simp [natI]
    rw [ll] at hl hm
    rw [List.take_length] at hm
    refine h L (Nat.le_trans hl (show 2 ^ ss.length ≤ 2 ^ 7 from Nat.pow_le_pow_right (by decide) lss)) fun ms => ?_
    rw [hm]
    exact fin ms
/-! ### a dict whose keys are tuples of whole numbers -/
theorem kys_ints : ∀ ns : List Int, kysOf (ns.map .int) = some (ns.map Sum.inl)
  | [] => rfl
  | n :: r => by
    rw [List.map_cons, kysOf, kys_ints r]
    rfl
theorem kt_tup (ns : List Int) : ktOf (tupI ns) = some (ns.map Sum.inl) := kys_ints ns
def KS (s : KVD) (A : List (List Int)) : Prop := s.map (·.1) = A.map (fun ns => ns.map Sum.inl) ∧ A.Nodup
theorem inl_inj : ∀ {a b : List Int}, (a.map Sum.inl : List Key) = b.map Sum.inl → a = b
  | [], [], _ => rfl
  | [], _ :: _, h => by simp at h
  | _ :: _, [], h => by simp at h
  | x :: a, y :: b, h => by
    simp only [List.map_cons, List.cons.injEq, Sum.inl.injEq] at h
    rw [h.1, inl_inj h.2]
theorem KS.keys {s : KVD} {A : List (List Int)} (h : KS s A) : keysD s = A.map tupI := by
  have e : keysD s = (s.map (·.1)).map fun ks => PyData.tuple (ks.map keyD) := by unfold keysD; rw [List.map_map]; rfl
  rw [e, h.1, List.map_map]
  refine List.map_congr_left fun ns _ => ?_
  simp only [Function.comp, tupI, List.map_map]
  congr 1
theorem KS.len {s : KVD} {A : List (List Int)} (h : KS s A) : s.length = A.length := by simpa using congrArg List.length h.1
theorem atD_some {s : KVD} {k : List Key} : (atD s k).isSome = true ↔ k ∈ s.map (·.1) := by
  unfold atD
  rw [Option.isSome_map, List.find?_isSome]
  simp
theorem KS.put {s : KVD} {A : List (List Int)} (h : KS s A) (ns : List Int) (d : PyData) : ∃ A', KS (putD s (ns.map Sum.inl) d) A' ∧ A'.length ≤ A.length + 1 ∧ ∀ ms, ms ∈ A' ↔ ms ∈ A ∨ ms = ns := by
  obtain ⟨h1, h2⟩ := h
  have mem : (atD s (ns.map Sum.inl)).isSome = true ↔ ns ∈ A := by
    rw [atD_some, h1, List.mem_map]
    exact ⟨fun ⟨a, ha, e⟩ => inl_inj e ▸ ha, fun ha => ⟨ns, ha, rfl⟩⟩
  unfold putD
  by_cases e : (atD s (ns.map Sum.inl)).isSome = true
  · rw [if_pos e]
    refine ⟨A, ⟨?_, h2⟩, by omega, fun ms => ⟨.inl, fun z => z.elim id fun z => z ▸ mem.mp e⟩⟩
    rw [List.map_map, ← h1]
    refine List.map_congr_left fun p _ => ?_
    show (if p.1 = _ then (p.1, d) else p).1 = p.1
    split <;> rfl
  · rw [if_neg e]
    refine ⟨A ++ [ns], ⟨by simp [h1], ?_⟩, by simp, fun ms => by simp⟩
    rw [List.nodup_append]
    refine ⟨h2, by simp, fun a ha b hb z => ?_⟩
    rw [List.mem_singleton] at hb
    subst hb z
    exact e (mem.mpr ha)
/-- a set that may be by one of the logs -/
def MayS (tts : List (List (List Bool))) (ks : List Nat) (ms : List Int) : Prop := ∃ k ∈ ks, MayK tts k ms
theorem chosen_pick {cs : List Nat} {s : Nat} {P : PyData → Prop} (h : s < cs.length) (hp : P (.int ((cs.getD s 0 : Nat) : Int))) : pick (cs.map fun c : Nat => .int (c : Int)) (s : Int) P := by
  have e : cs[s]? = some (cs.getD s 0) := by rw [List.getD_eq_getElem?_getD, List.getElem?_eq_getElem h, Option.getD_some]
  exact pick_at (by rw [List.getElem?_map, e]; rfl) hp
theorem bool_pick {bs : List Bool} {j : Nat} {P : PyData → Prop} (h : j < bs.length) (hp : P (.bool (bs.getD j false))) : pick (bs.map .bool) (j : Int) P := by
  have e : bs[j]? = some (bs.getD j false) := by rw [List.getD_eq_getElem?_getD, List.getElem?_eq_getElem h, Option.getD_some]
  exact pick_at (by rw [List.getElem?_map, e]; rfl) hp
/-- whether a choice has the ship s -/
def chB (tts : List (List (List Bool))) (k : Nat) (cs : List Nat) (s : Nat) : Bool := (rowS tts s k).getD (cs.getD s 0) false
/-- a column of each ship's table -/
def ChOk (tts : List (List (List Bool))) (k : Nat) (cs : List Nat) : Prop := cs.length = tts.length ∧ ∀ s, s < tts.length → cs.getD s 0 < (rowS tts s k).length
theorem enum_fm {n : Nat} {xs : List PyData} {f : PyData → Option PyData} {g : Nat → Bool} (hn : xs.length = n) (h : ∀ (i : Nat) (x : PyData), xs[i]? = some x → f (.tuple [.int (i : Int), x]) = if g i = true then some (.int (i : Int)) else none) : (enumD 0 xs).filterMap f = (setI g n).map .int := by
  rw [← range_fm (n := n) (g := g) (f := fun d => match d with | .int i => f (.tuple [.int i, xs.getD i.toNat .none]) | _ => none) (fun i hi => by
    show f (.tuple [.int (i : Int), xs.getD (i : Int).toNat .none]) = _
    rw [show ((i : Nat) : Int).toNat = i by omega]
    exact h i _ (by rw [List.getD_eq_getElem?_getD, List.getElem?_eq_getElem (by omega), Option.getD_some]))]
  have e := enum_map (f := fun d => d) xs 0
  rw [List.map_id'] at e
  rw [e, List.filterMap_map]
  unfold rangeD
  rw [List.filterMap_map, hn]
  congr 1
  funext i
  show f (.tuple [.int ((0 + i : Nat) : Int), _]) = f _
  rw [Nat.zero_add, Int.zero_add, show ((i : Nat) : Int).toNat = i by omega]
theorem chosen_q {logs : Nat} {tts : List (List (List Bool))} (ok : SgOk logs tts) {k : Nat} {cs : List Nat} (hk : k < logs) (hc : ChOk tts k cs) (K : PyData → Prop) (h : K (setP (chB tts k cs) tts.length)) :
    q_chosen (sgD logs tts) (.int (k : Int)) (.tuple (cs.map fun c : Nat => .int (c : Int))) K := by
  have n1 := ok.n1
  unfold q_chosen
  rw [sgD]
  walk_at "q"
  refine qLc_fmap (fun d => match d with | .tuple [.int i, _] => if chB tts k cs i.toNat = true then some (.int i) else none | _ => none) (by rw [enumD_length, List.length_map]; omega) (fun d hd sk yd hy hsk => ?_) ?_
  · obtain ⟨s, x, hx, rfl⟩ := enum_mem hd
    rw [List.getElem?_map, Option.map_eq_some_iff] at hx
    obtain ⟨bss, hx, rfl⟩ := hx
    have hs := (List.getElem?_eq_some_iff.mp hx).1
    obtain ⟨bss', many, e1, tb, hl, e2, e3⟩ := ok.row hs hk
    rw [hx] at e1
    cases e1
    dsimp only at hy hsk
    rw [show ((s : Nat) : Int).toNat = s by omega] at hy hsk
    unfold qb_chosen_1 tabD
    walk_at "q"
    refine log_pick e2 (chosen_pick (by rw [hc.1]; exact hs) ?_)
    unfold rowD1
    walk_at "q"
    refine bool_pick (hc.2 s hs) ?_
    walk_at "q"
    cases hb : chB tts k cs s with
    | true =>
      have := hy _ (by rw [if_pos hb])
      unfold chB at hb
      rw [hb]
      exact this
    | false =>
      have := hsk (by rw [if_neg (by rw [hb]; decide)])
      unfold chB at hb
      rw [hb]
      exact this
  · rw [enum_fm (g := chB tts k cs) (n := tts.length) (by rw [List.length_map]) fun i x _ => by
      show (if chB tts k cs (i : Int).toNat = true then _ else _) = _
      rw [show ((i : Nat) : Int).toNat = i by omega]]
    walk_at "q"
    exact h
def manyS (tts : List (List (List Bool))) (s : Nat) : Nat := (rowS tts s 0).length
theorem SgOk.many {logs : Nat} {tts : List (List (List Bool))} (ok : SgOk logs tts) {s k : Nat} (hs : s < tts.length) (hk : k < logs) : (rowS tts s k).length = manyS tts s := by
  obtain ⟨b, m, e1, tb, _, _, l1⟩ := ok.row hs hk
  obtain ⟨b2, m2, e2, tb2, _, _, l2⟩ := ok.row hs (show 0 < logs from ok.l0)
  rw [e1] at e2
  cases e2
  have h0 := tb.1
  have hm := tb.2.2.2.2 _ (List.getElem_mem (l := b) (n := 0) (by omega))
  have hm2 := tb2.2.2.2.2 _ (List.getElem_mem (l := b) (n := 0) (by omega))
  unfold manyS
  omega
def numN : PyData → Nat
  | .int i => i.toNat
  | _ => 0
def partsD : PyData → List PyData
  | .tuple xs => xs
  | _ => []
def isTp : PyData → Bool
  | .tuple _ => true
  | _ => false
def inCol (tts : List (List (List Bool))) (i : Nat) (c : PyData) : Bool := isIn c 0 ((manyS tts i : Int) - 1)
def isCh (logs : Nat) (tts : List (List (List Bool))) (l c : PyData) : Bool :=
  isIn l 0 ((logs : Int) - 1) && (isTp c && (decide ((partsD c).length = tts.length) && (List.range tts.length).all fun i => inCol tts i ((partsD c).getD i .none)))
theorem isIn_inv {a : PyData} {m : Int} (h : isIn a 0 m = true) : ∃ n : Nat, a = .int (n : Int) ∧ (n : Int) ≤ m := by
  cases a with
  | int i =>
    simp only [isIn, Bool.and_eq_true, decide_eq_true_eq] at h
    exact ⟨i.toNat, by rw [Int.toNat_of_nonneg h.1], by omega⟩
  | _ => cases h
theorem isTp_of {d : PyData} (h : isTp d = true) : ∃ xs, d = .tuple xs := by
  cases d with
  | tuple xs => exact ⟨xs, rfl⟩
  | _ => cases h
theorem isi_tp (d : PyData) : isiB d "tuple" = isTp d := by
  cases d with
  | dict kv => cases kv <;> rfl
  | _ => rfl
theorem zip_map {α : Type} {f : PyData → α} : ∀ (xs ys : List PyData), xs.length = ys.length → (zipD xs ys).map f = (List.range xs.length).map fun i : Nat => f (.tuple [xs.getD i .none, ys.getD i .none])
  | [], [], _ => rfl
  | [], _ :: _, h => by simp at h
  | _ :: _, [], h => by simp at h
  | x :: xs, y :: ys, h => by
    rw [zipD, List.map_cons, zip_map xs ys (by simpa using h), List.length_cons, List.range_succ_eq_map, List.map_cons, List.map_map]
    rfl
theorem first_row {logs : Nat} {tts : List (List (List Bool))} (ok : SgOk logs tts) {i : Nat} (hi : i < tts.length) {x : PyData} (hx : (tts.map tabD)[i]? = some x) :
    ∃ bss, x = tabD bss ∧ bss[0]? = some (rowS tts i 0) := by
  obtain ⟨bss, m, e1, tb, _, e2, _⟩ := ok.row hi (show 0 < logs from ok.l0)
  rw [List.getElem?_map, e1] at hx
  cases hx
  exact ⟨bss, rfl, e2⟩
def colOk : PyData → Bool
  | .tuple [c, .tuple (r :: _)] => isIn c 0 ((tlen r : Int) - 1)
  | _ => false
theorem colOk_eq {logs : Nat} {tts : List (List (List Bool))} (ok : SgOk logs tts) {i : Nat} (hi : i < tts.length) (c : PyData) : colOk (.tuple [c, (tts.map tabD).getD i .none]) = inCol tts i c := by
  have e : (tts.map tabD)[i]? = some ((tts.map tabD).getD i .none) := by rw [List.getD_eq_getElem?_getD, List.getElem?_eq_getElem (by simpa using hi), Option.getD_some]
  obtain ⟨bss, e1, e2⟩ := first_row ok hi e
  rw [e1]
  cases bss with
  | nil => simp at e2
  | cons b r =>
    have : b = rowS tts i 0 := by simpa using e2
    subst this
    unfold tabD
    rw [List.map_cons]
    show isIn c 0 ((tlen (rowD1 (rowS tts i 0)) : Int) - 1) = _
    unfold rowD1 inCol manyS
    simp only [tlen, List.length_map]
theorem is_choice_q {logs : Nat} {tts : List (List (List Bool))} (ok : SgOk logs tts) (l c : PyData) (hs : (partsD c).length ≤ 100000) (K : PyData → Prop) (h : K (.bool (isCh logs tts l c))) : q_is_choice (sgD logs tts) l c K := by
  unfold q_is_choice
  rw [sgD]
  walk_at "q"
  rw [is_number_q]
  unfold isCh at h
  cases e1 : isIn l 0 ((logs : Int) - 1) with
  | false =>
    rw [e1] at h
    walk_at "q"
    exact h
  | true =>
    rw [e1, Bool.true_and] at h
    walk_at "q"
    rw [isi_tp]
    cases e2 : isTp c with
    | false =>
      rw [e2] at h
      walk_at "q"
      exact h
    | true =>
      rw [e2, Bool.true_and] at h
      obtain ⟨xs, rfl⟩ := isTp_of e2
      walk_at "q"
      by_cases hl : xs.length = tts.length
      · rw [decide_eq_true (show ((xs.length : Nat) : Int) = (tts.length : Nat) by omega)]
        walk_at "q"
        have h : K (.bool (decide (xs.length = tts.length) && (List.range tts.length).all fun i => inCol tts i (xs.getD i .none))) := h
        rw [decide_eq_true hl, Bool.true_and] at h
        refine qLc_map (fun d => .bool (colOk d)) (by rw [zipD_length, List.length_map]; have : xs.length ≤ 100000 := hs; omega) (fun d hd sk yd hy => ?_) ?_
        · obtain ⟨i, hi⟩ := List.mem_iff_getElem?.mp hd
          obtain ⟨x, y, h1, h2, rfl⟩ := zipD_get hi
          have hi := (List.getElem?_eq_some_iff.mp h2).1
          rw [List.length_map] at hi
          obtain ⟨bss, e5, e6⟩ := first_row ok hi h2
          have e7 := colOk_eq ok hi x
          rw [List.getD_eq_getElem?_getD, h2, Option.getD_some] at e7
          rw [e7] at hy
          subst e5
          unfold qb_is_choice_1 tabD
          walk_at "q"
          refine log_pick (k := 0) e6 ?_
          unfold rowD1
          walk_at "q"
          rw [is_number_q]
          exact hy
        · rw [q_allB]
          have e8 : (zipD xs (tts.map tabD)).all colOk = (List.range tts.length).all fun i => inCol tts i (xs.getD i .none) := by
            have z := zip_map (f := colOk) xs (tts.map tabD) (by rw [List.length_map]; exact hl)
            have a : (zipD xs (tts.map tabD)).all colOk = ((zipD xs (tts.map tabD)).map colOk).all id := by rw [List.all_map]; rfl
            rw [a, z, List.all_map, hl, Bool.eq_iff_iff, List.all_eq_true, List.all_eq_true]
            refine forall_congr' fun i => forall_congr' fun hi => ?_
            show colOk _ = true ↔ _
            rw [colOk_eq ok (List.mem_range.mp hi)]
          rw [e8]
          exact h
      · rw [decide_eq_false (show ¬ ((xs.length : Nat) : Int) = (tts.length : Nat) by omega)]
        walk_at "q"
        have h : K (.bool (decide (xs.length = tts.length) && (List.range tts.length).all fun i => inCol tts i (xs.getD i .none))) := h
        rw [decide_eq_false hl] at h
        exact h

theorem ch_is {logs : Nat} {tts : List (List (List Bool))} (ok : SgOk logs tts) {k : Nat} {cs : List Nat} (hk : k < logs) (hc : ChOk tts k cs) : isCh logs tts (.int (k : Int)) (.tuple (cs.map fun c : Nat => .int (c : Int))) = true := by
  unfold isCh
  have a : isIn (.int (k : Int)) 0 ((logs : Int) - 1) = true := by
    simp only [isIn, Bool.and_eq_true, decide_eq_true_eq]
    omega
  have b : (partsD (.tuple (cs.map fun c : Nat => .int (c : Int)))) = cs.map fun c : Nat => .int (c : Int) := rfl
  rw [a, b, List.length_map, decide_eq_true hc.1, Bool.true_and, Bool.true_and]
  have c : isTp (.tuple (cs.map fun c : Nat => .int (c : Int))) = true := rfl
  rw [c, Bool.true_and, List.all_eq_true]
  intro i hi
  have hi := List.mem_range.mp hi
  have h1 := hc.2 i hi
  have h2 := ok.many hi hk
  have e : (cs.map fun c : Nat => PyData.int (c : Int)).getD i .none = .int ((cs.getD i 0 : Nat) : Int) := by
    rw [List.getD_eq_getElem?_getD, List.getElem?_map, List.getD_eq_getElem?_getD, List.getElem?_eq_getElem (by rw [hc.1]; exact hi)]
    rfl
  rw [e]
  unfold inCol
  simp only [isIn, Bool.and_eq_true, decide_eq_true_eq]
  omega
def ltP : PyData → Bool
  | .tuple [.int a, .int b] => decide (a < b)
  | _ => false
theorem zip_rise : ∀ {xs : List Int}, xs.Pairwise (· < ·) → (zipD (xs.map .int) ((xs.map PyData.int).drop 1)).all ltP = true
  | [], _ => rfl
  | [a], _ => rfl
  | a :: b :: r, h => by
    have h2 := (List.pairwise_cons.mp h).2
    have ab := (List.pairwise_cons.mp h).1 b (List.mem_cons_self ..)
    have ih := zip_rise h2
    rw [List.map_cons, List.map_cons, List.drop_succ_cons, List.drop_zero, zipD, List.all_cons]
    rw [List.map_cons, List.drop_succ_cons, List.drop_zero] at ih
    rw [ih, Bool.and_true]
    exact decide_eq_true ab
theorem setI_rise {p : Nat → Bool} {n : Nat} : (setI p n).Pairwise (· < ·) := by
  unfold setI
  rw [List.pairwise_map]
  exact (List.Pairwise.filter _ List.pairwise_lt_range).imp fun h => by omega
theorem setI_mem {p : Nat → Bool} {n : Nat} {x : Int} (h : x ∈ setI p n) : ∃ s : Nat, x = s ∧ s < n ∧ p s = true := by
  unfold setI at h
  obtain ⟨s, hs, rfl⟩ := List.mem_map.mp h
  rw [List.mem_filter, List.mem_range] at hs
  exact ⟨s, rfl, hs⟩
theorem setI_len {p : Nat → Bool} {n : Nat} : (setI p n).length ≤ n := by
  unfold setI
  rw [List.length_map]
  have := List.length_filter_le p (List.range n)
  rwa [List.length_range] at this
theorem cut_tail {xs : List PyData} : DL.cutD xs (some 1) none = xs.drop 1 := by
  unfold DL.cutD
  have e1 : HT.sIx xs.length 0 (some 1) = min 1 xs.length := HT.sIx_nat xs.length 0 1
  rw [e1, HT.sIx_none]
  cases xs with
  | nil => rfl
  | cons a b =>
    have : min 1 (a :: b).length = 1 := by simp
    rw [this]
    exact List.take_of_length_le (by simp)
theorem need_sightsX (d : PyData) {K : PyData → Prop} {E : Str → Prop} (h1 : isSights d = true → K .none) (h2 : isSights d = false → E "NoSights") : q_need_sights d K E := by
  unfold q_need_sights
  refine are_sights_q _ _ ?_
  cases e : isSights d with
  | true => walk_at "q"; exact h1 e
  | false => walk_at "q"; exact h2 e
theorem need_sightsK {logs : Nat} {tts : List (List (List Bool))} (ok : SgOk logs tts) {K : PyData → Prop} {E : Str → Prop} (h : K .none) : q_need_sights (sgD logs tts) K E :=
  need_sightsX _ (fun _ => h) fun e => by rw [ok.sights] at e; cases e
/-! ### how many choices have a set -/
def cntS (tts : List (List (List Bool))) (p : Nat → Bool) (k s : Nat) : Nat := (rowS tts s k).count (p s)
def prodS (tts : List (List (List Bool))) (p : Nat → Bool) (k : Nat) : Nat → Nat
  | 0 => 1
  | s + 1 => prodS tts p k s * cntS tts p k s
def sumS (tts : List (List (List Bool))) (p : Nat → Bool) : Nat → Nat
  | 0 => 0
  | k + 1 => sumS tts p k + prodS tts p k tts.length
theorem cnt_le {logs : Nat} {tts : List (List (List Bool))} (ok : SgOk logs tts) {p : Nat → Bool} {s k : Nat} (hs : s < tts.length) (hk : k < logs) : cntS tts p k s ≤ 4 := by
  obtain ⟨bss, many, e1, tb, hl, e2, e3⟩ := ok.row hs hk
  have := tb.2.2.2.1
  have := List.count_le_length (a := p s) (l := rowS tts s k)
  unfold cntS
  omega
theorem prod_le {logs : Nat} {tts : List (List (List Bool))} (ok : SgOk logs tts) {p : Nat → Bool} {k : Nat} (hk : k < logs) : ∀ s, s ≤ tts.length → prodS tts p k s ≤ 4 ^ s
  | 0, _ => by simp [prodS]
  | s + 1, h => by
    have := prod_le ok hk (p := p) s (by omega)
    have := Nat.mul_le_mul this (cnt_le ok (p := p) (s := s) (by omega) hk)
    rw [prodS, Nat.pow_succ]
    exact this
theorem prod_big {logs : Nat} {tts : List (List (List Bool))} (ok : SgOk logs tts) {p : Nat → Bool} {k s : Nat} (hk : k < logs) (hs : s ≤ tts.length) : prodS tts p k s ≤ 16384 := by
  have n1 := ok.n1
  exact Nat.le_trans (prod_le ok hk s hs) (show 4 ^ s ≤ 4 ^ 7 from Nat.pow_le_pow_right (by decide) (by omega))
theorem sum_big {logs : Nat} {tts : List (List (List Bool))} (ok : SgOk logs tts) {p : Nat → Bool} : ∀ k, k ≤ logs → sumS tts p k ≤ 16384 * k
  | 0, _ => by simp [sumS]
  | k + 1, h => by
    have := sum_big ok (p := p) k (by omega)
    have := prod_big ok (p := p) (k := k) (s := tts.length) (by omega) (Nat.le_refl _)
    rw [sumS]
    omega
theorem cnt_bool {bs : List Bool} {b : Bool} : (bs.map PyData.bool).countP (fun z => eqD z (.bool b)) = bs.count b := by
  rw [List.countP_map, List.count]
  refine List.countP_congr fun x _ => ?_
  simp [eqD_bool]
/-! ### what is a set of ships -/
def isSetB (n : Nat) : PyData → Bool
  | .tuple xs => (xs.all fun x => isIn x 0 ((n : Int) - 1)) && (zipD xs (xs.drop 1)).all ltP
  | _ => false
theorem isSet_eq {n : Nat} {xs : List PyData} : isSetB n (.tuple xs) = ((xs.all fun x => isIn x 0 ((n : Int) - 1)) && (zipD xs (xs.drop 1)).all ltP) := rfl
theorem need_setX {logs : Nat} {tts : List (List (List Bool))} (ok : SgOk logs tts) (d : PyData) (hd : (partsD d).length ≤ 100000) {K : PyData → Prop} {E : Str → Prop} (h1 : isSetB tts.length d = true → K .none) (h2 : isSetB tts.length d = false → E "NoSet") : q_need_set (sgD logs tts) d K E := by
  unfold q_need_set
  rw [sgD]
  walk_at "q"
  rw [isi_tp]
  cases e : isTp d with
  | false =>
    walk_at "q"
    refine h2 ?_
    cases d <;> first | rfl | cases e
  | true =>
    obtain ⟨xs, rfl⟩ := isTp_of e
    have hl : xs.length ≤ 100000 := hd
    walk_at "q"
    refine qLc_map (fun d => .bool (isIn d 0 ((tts.length : Int) - 1))) hl (fun d hd sk yd hy => ?_) ?_
    · unfold qb_need_set_1
      rw [is_number_q]
      exact hy
    · rw [q_allB]
      walk_at "q"
      cases ea : xs.all fun d => isIn d 0 ((tts.length : Int) - 1) with
      | false =>
        walk_at "q"
        refine h2 ?_
        rw [isSet_eq, ea, Bool.false_and]
      | true =>
        walk_at "q"
        rw [cut_tail]
        have ai := List.all_eq_true.mp ea
        refine qLc_map (fun d => .bool (ltP d)) ?_ (fun d hd sk yd hy => ?_) ?_
        · rw [zipD_length]
          omega
        · obtain ⟨j, hj⟩ := List.mem_iff_getElem?.mp hd
          obtain ⟨x, y, g1, g2, rfl⟩ := zipD_get hj
          obtain ⟨a, rfl, _⟩ := isIn_inv (ai x (List.mem_of_getElem? g1))
          obtain ⟨b, rfl, _⟩ := isIn_inv (ai y (List.mem_of_mem_drop (List.mem_of_getElem? g2)))
          unfold qb_need_set_2
          walk_at "q"
          exact hy
        · rw [q_allB]
          walk_at "q"
          have eb : isSetB tts.length (.tuple xs) = (zipD xs (xs.drop 1)).all ltP := by
            rw [isSet_eq, ea, Bool.true_and]
          cases ez : (zipD xs (xs.drop 1)).all ltP with
          | false => walk_at "q"; exact h2 (eb.trans ez)
          | true => walk_at "q"; exact h1 (eb.trans ez)
theorem set_is {p : Nat → Bool} {n : Nat} : isSetB n (setP p n) = true := by
  unfold setP
  rw [isSet_eq, zip_rise setI_rise, Bool.and_true, List.all_eq_true]
  intro d hd
  obtain ⟨x, hx, rfl⟩ := List.mem_map.mp hd
  obtain ⟨s, rfl, h1, _⟩ := setI_mem hx
  simp only [isIn, Bool.and_eq_true, decide_eq_true_eq]
  omega
theorem need_setK {logs : Nat} {tts : List (List (List Bool))} (ok : SgOk logs tts) {p : Nat → Bool} {K : PyData → Prop} {E : Str → Prop} (h : K .none) : q_need_set (sgD logs tts) (setP p tts.length) K E := by
  have n1 := ok.n1
  have := setI_len (p := p) (n := tts.length)
  refine need_setX ok _ (by show ((setI p tts.length).map _).length ≤ 100000; rw [List.length_map]; omega) (fun _ => h) fun e => ?_
  rw [set_is] at e
  cases e
theorem need_logX {logs : Nat} {tts : List (List (List Bool))} (d : PyData) {K : PyData → Prop} {E : Str → Prop} (h1 : isIn d 0 ((logs : Int) - 1) = true → K .none) (h2 : isIn d 0 ((logs : Int) - 1) = false → E "NoNumber") : q_need_log (sgD logs tts) d K E := by
  unfold q_need_log
  rw [sgD]
  walk_at "q"
  rw [is_number_q]
  walk_at "q"
  cases e : isIn d 0 ((logs : Int) - 1) with
  | true => walk_at "q"; exact h1 e
  | false => walk_at "q"; exact h2 e
/-- by all of the logs sure; by one of them perhaps -/
def allS (tts : List (List (List Bool))) (ks : List Nat) (s : Nat) : Bool := ks.all fun k => sureB tts k s
def anyS (tts : List (List (List Bool))) (ks : List Nat) (s : Nat) : Bool := ks.any fun k => someB tts k s
theorem setI_fm {p q : Nat → Bool} {n : Nat} {f : PyData → Option PyData} (h : ∀ i, i < n → p i = true → f (.int (i : Int)) = if q i = true then some (.int (i : Int)) else none) (hq : ∀ i, i < n → q i = true → p i = true) : ((setI p n).map PyData.int).filterMap f = (setI q n).map .int := by
  unfold setI
  rw [List.map_map, List.map_map, List.filterMap_map]
  have : ∀ l : List Nat, (∀ i ∈ l, i < n) → (l.filter p).filterMap (f ∘ (PyData.int ∘ fun i : Nat => (i : Int))) = (l.filter q).map (PyData.int ∘ fun i : Nat => (i : Int)) := by
    intro l
    induction l with
    | nil => intro _; rfl
    | cons a r ih =>
      intro hl
      have ha := hl a (List.mem_cons_self ..)
      have ih := ih fun i hi => hl i (List.mem_cons_of_mem _ hi)
      cases ep : p a with
      | false =>
        have eq : q a = false := by
          cases e : q a with
          | false => rfl
          | true => have := hq a ha e; rw [ep] at this; cases this
        rw [List.filter_cons_of_neg (by simp [ep]), List.filter_cons_of_neg (by simp [eq]), ih]
      | true =>
        have hf : (f ∘ (PyData.int ∘ fun i : Nat => (i : Int))) a = _ := h a ha ep
        cases eq : q a with
        | false => rw [List.filter_cons_of_pos (by simp [ep]), List.filter_cons_of_neg (by simp [eq]), List.filterMap_cons_none (by rw [hf, eq]; rfl), ih]
        | true => rw [List.filter_cons_of_pos (by simp [ep]), List.filter_cons_of_pos (by simp [eq]), List.filterMap_cons_some (by rw [hf, eq]; rfl), ih, List.map_cons]; rfl
  exact this _ fun i hi => List.mem_range.mp hi
theorem range_map0 {α : Type} {n : Nat} {f : PyData → α} : (rangeD 0 n).map f = (List.range n).map fun k : Nat => f (.int (k : Int)) := by
  unfold rangeD
  rw [List.map_map]
  refine List.map_congr_left fun k _ => ?_
  show f (.int (0 + (k : Int))) = _
  rw [Int.zero_add]
theorem setI_mem2 {p : Nat → Bool} {n : Nat} {x : Int} (h : x ∈ setI p n) : ∃ s : Nat, x = s ∧ s < n ∧ p s = true := by
  unfold setI at h
  obtain ⟨s, hs, rfl⟩ := List.mem_map.mp h
  rw [List.mem_filter, List.mem_range] at hs
  exact ⟨s, rfl, hs⟩
theorem setI_len2 {p : Nat → Bool} {n : Nat} : (setI p n).length ≤ n := by
  unfold setI
  rw [List.length_map]
  have := List.length_filter_le p (List.range n)
  rwa [List.length_range] at this
def memT (x : PyData) (d : PyData) : Bool := match d with
  | .tuple ds => memD x ds
  | _ => false
theorem how_many_x {logs : Nat} {tts : List (List (List Bool))} (ok : SgOk logs tts) {p : Nat → Bool} {K : PyData → Prop} {E : Str → Prop} (h : K (.int (sumS tts p logs : Nat))) : q_how_many (sgD logs tts) (setP p tts.length) K E := by
  have n1 := ok.n1
  have l1 := ok.l1
  unfold q_how_many
  refine need_sightsK ok ?_
  refine need_setK ok ?_
  rw [sgD]
  walk_at "q"
  rw [← sgD]
  refine ⟨by omega, ?_⟩
  rw [show ((logs : Nat) : Int).toNat = logs by omega]
  refine qFor_range (fun k s => s = .int (sumS tts p k : Nat)) rfl (fun k s nx hk hs hnx => ?_) fun s hs => by subst hs; exact h
  subst hs
  rw [Int.zero_add]
  unfold qb_how_many_1
  dsimp only
  rw [sgD]
  walk_at "q"
  rw [← sgD]
  refine qFor_ind (fun j s => s = .int (prodS tts p k j : Nat)) rfl (fun j d s nx2 hd hs hnx2 => ?_) fun s hs => ?_
  · subst hs
    obtain ⟨x, hx, rfl⟩ := enumD_get hd
    rw [List.getElem?_map, Option.map_eq_some_iff] at hx
    obtain ⟨bss, hx, rfl⟩ := hx
    have hs := (List.getElem?_eq_some_iff.mp hx).1
    obtain ⟨bss', many, e1, tb, hl, e2, e3⟩ := ok.row hs hk
    rw [hx] at e1
    cases e1
    rw [Nat.zero_add]
    unfold qb_how_many_2 setP tabD
    walk_at "q"
    refine log_pick e2 ?_
    unfold rowD1
    walk_at "q"
    refine ⟨sh_ints _ _, ?_⟩
    rw [in_set hs]
    unfold cntQ
    refine ⟨⟨(sh_bools (p j) _).2, (sh_bools (p j) (rowS tts j k)).1⟩, ?_⟩
    unfold cntN
    rw [cnt_bool]
    have b1 := prod_big ok (p := p) hk (show j ≤ tts.length by omega)
    have b2 := cnt_le ok (p := p) hs hk
    show oMul (.int (prodS tts p k j : Nat)) (.int (cntS tts p k j : Nat)) _
    walk_at "q"
    refine ⟨⟨sz_of (by omega) (by omega), sz_of (by omega) (by omega)⟩, hnx2 _ ?_⟩
    rw [prodS, Int.natCast_mul]
  · subst hs
    rw [enumD_length, List.length_map]
    walk_at "q"
    refine hnx _ ?_
    rw [sumS, Int.natCast_add]
theorem all_sets_x {logs : Nat} {tts : List (List (List Bool))} (ok : SgOk logs tts) {K : PyData → Prop} {E : Str → Prop} (h : ∀ B : List (List Int), B.length ≤ 512 → B.Pairwise (fun a b => ltT a b = true) → (∀ ms, ms ∈ B ↔ MayS tts (List.range logs) ms) → K (.tuple (B.map tupI))) : q_all_sets (sgD logs tts) K E := by
  have l1 := ok.l1
  unfold q_all_sets
  refine need_sightsK ok ?_
  rw [sgD]
  walk_at "q"
  rw [← sgD]
  refine ⟨by omega, ?_⟩
  rw [show ((logs : Nat) : Int).toNat = logs by omega]
  refine qFor_range (fun j s => ∃ A : List (List Int), KS s A ∧ A.length ≤ 128 * j ∧ ∀ ms, ms ∈ A ↔ MayS tts (List.range j) ms) ⟨[], ⟨rfl, List.nodup_nil⟩, by simp, fun ms => by simp [MayS]⟩ (fun j s nx hj hs hnx => ?_) fun s hs => ?_
  · obtain ⟨A, ks, hl, hm⟩ := hs
    rw [Int.zero_add]
    unfold qb_all_sets_1
    refine sets_by_q ok hj _ fun L hL hmL => ?_
    walk_at "q"
    refine qFor_ind (fun i s => ∃ B : List (List Int), KS s B ∧ B.length ≤ A.length + i ∧ ∀ ms, ms ∈ B ↔ ms ∈ A ∨ ms ∈ L.take i) ⟨A, ks, by omega, fun ms => by simp⟩ (fun i d s nx2 hd hs hnx2 => ?_) fun s hs => ?_
    · obtain ⟨B, kb, hlB, hmB⟩ := hs
      rw [List.getElem?_map, Option.map_eq_some_iff] at hd
      obtain ⟨ns, hd, rfl⟩ := hd
      have hi := (List.getElem?_eq_some_iff.mp hd).1
      unfold qb_all_sets_2
      rw [q_put (kt_tup ns)]
      have := kb.len
      refine ⟨by omega, ?_⟩
      obtain ⟨B', kb', hl', hm'⟩ := kb.put ns (.bool true)
      refine hnx2 _ ⟨B', kb', by omega, fun ms => ?_⟩
      rw [hm', hmB, List.take_add_one, hd]
      simp [or_assoc]
    · obtain ⟨B, kb, hlB, hmB⟩ := hs
      rw [List.length_map] at hlB hmB
      rw [List.take_length] at hmB
      refine hnx _ ⟨B, kb, by omega, fun ms => ?_⟩
      rw [hmB, hm, hmL]
      unfold MayS
      simp only [List.mem_range]
      constructor
      · rintro (⟨k, hk, z⟩ | z)
        · exact ⟨k, by omega, z⟩
        · exact ⟨j, by omega, z⟩
      · rintro ⟨k, hk, z⟩
        by_cases e : k = j
        · exact .inr (e ▸ z)
        · exact .inl ⟨k, by omega, z⟩
  · obtain ⟨A, ks, hl, hm⟩ := hs
    obtain ⟨B, e1, e2, e3⟩ := sortT A ks.2
    have kl := ks.len
    have kk := ks.keys
    unfold sortKQ
    rw [kk, e1]
    refine ⟨⟨by omega, sortOk_tups A⟩, ?_⟩
    walk_at "q"
    exact h B (by rw [e3.length_eq]; omega) e2 fun ms => by rw [e3.mem_iff, hm]
theorem must_x {logs : Nat} {tts : List (List (List Bool))} (ok : SgOk logs tts) {K : PyData → Prop} {E : Str → Prop} (h : K (setP (allS tts (List.range logs)) tts.length)) : q_must (sgD logs tts) K E := by
  have l0 := ok.l0
  have l1 := ok.l1
  have n1 := ok.n1
  unfold q_must
  refine need_sightsK ok ?_
  rw [sgD]
  walk_at "q"
  rw [← sgD]
  refine ⟨by omega, ?_⟩
  rw [show ((logs : Nat) : Int).toNat = logs by omega]
  refine qLc_map (fun d => match d with | .int k => setP (sureB tts k.toNat) tts.length | _ => .none) (by rw [range_len]; omega) (fun d hd sk yd hy => ?_) ?_
  · obtain ⟨i, hi⟩ := List.mem_iff_getElem?.mp hd
    obtain ⟨hl, rfl⟩ := range_get hi
    dsimp only at hy
    rw [show (0 + (i : Int)).toNat = i by omega] at hy
    unfold qb_must_1
    rw [Int.zero_add]
    exact sure_by_q ok hl _ hy
  · rw [range_map0]
    dsimp only
    simp only [Int.toNat_natCast]
    have e0 : ((List.range logs).map fun k : Nat => setP (sureB tts k) tts.length)[0]? = some (setP (sureB tts 0) tts.length) := by
      rw [List.getElem?_map, List.getElem?_range (by omega)]
      rfl
    walk_at "q"
    refine pick_at (k := 0) e0 ?_
    unfold setP
    walk_at "q"
    refine qLc_fmap (fun d => match d with | .int s => if allS tts (List.range logs) s.toNat = true then some (.int s) else none | _ => none) (by rw [List.length_map]; have := setI_len2 (p := sureB tts 0) (n := tts.length); omega) (fun d hd sk yd hy hsk => ?_) ?_
    · obtain ⟨x, hx, rfl⟩ := List.mem_map.mp hd
      obtain ⟨s, rfl, hs, _⟩ := setI_mem2 hx
      dsimp only at hy hsk
      rw [show ((s : Nat) : Int).toNat = s by omega] at hy hsk
      unfold qb_must_2
      walk_at "q"
      refine qLc_map (fun d => .bool (memT (.int (s : Int)) d)) (by rw [List.length_map, List.length_range]; omega) (fun d hd sk yd hy => ?_) ?_
      · obtain ⟨k, hk, rfl⟩ := List.mem_map.mp hd
        unfold qb_must_3
        walk_at "q"
        exact ⟨sh_ints _ _, hy⟩
      · rw [q_allB, List.all_map]
        have e : ((List.range logs).all ((fun d => memT (.int (s : Int)) d) ∘ fun k : Nat => PyData.tuple ((setI (sureB tts k) tts.length).map .int))) = allS tts (List.range logs) s := by
          unfold allS
          congr 1
          funext k
          exact in_set hs
        rw [e]
        walk_at "q"
        cases ea : allS tts (List.range logs) s with
        | true => exact hy _ (by rw [ea]; rfl)
        | false => exact hsk (by rw [ea]; rfl)
    · rw [setI_fm (q := allS tts (List.range logs)) (fun i hi _ => by
        dsimp only
        rw [show ((i : Nat) : Int).toNat = i by omega]) (fun i hi h => by
        unfold allS at h
        rw [List.all_eq_true] at h
        exact h 0 (List.mem_range.mpr (by omega)))]
      walk_at "q"
      exact h
theorem can_x {logs : Nat} {tts : List (List (List Bool))} (ok : SgOk logs tts) {K : PyData → Prop} {E : Str → Prop} (h : K (setP (anyS tts (List.range logs)) tts.length)) : q_can (sgD logs tts) K E := by
  have l0 := ok.l0
  have l1 := ok.l1
  have n1 := ok.n1
  unfold q_can
  refine need_sightsK ok ?_
  rw [sgD]
  walk_at "q"
  rw [← sgD]
  refine ⟨by omega, ?_⟩
  rw [show ((logs : Nat) : Int).toNat = logs by omega]
  refine qLc_map (fun d => match d with | .int k => setP (someB tts k.toNat) tts.length | _ => .none) (by rw [range_len]; omega) (fun d hd sk yd hy => ?_) ?_
  · obtain ⟨i, hi⟩ := List.mem_iff_getElem?.mp hd
    obtain ⟨hl, rfl⟩ := range_get hi
    dsimp only at hy
    rw [show (0 + (i : Int)).toNat = i by omega] at hy
    unfold qb_can_1
    rw [Int.zero_add]
    exact some_by_q ok hl _ hy
  · rw [range_map0]
    dsimp only
    simp only [Int.toNat_natCast]
    rw [sgD]
    walk_at "q"
    refine ⟨by omega, ?_⟩
    try rw [show ((tts.length : Nat) : Int).toNat = tts.length by omega]
    refine qLc_fmap (fun d => match d with | .int s => if anyS tts (List.range logs) s.toNat = true then some (.int s) else none | _ => none) (by rw [range_len]; omega) (fun d hd sk yd hy hsk => ?_) ?_
    · obtain ⟨i, hi⟩ := List.mem_iff_getElem?.mp hd
      obtain ⟨hs, rfl⟩ := range_get hi
      rw [Int.zero_add] at hy hsk ⊢
      dsimp only at hy hsk
      rw [show ((i : Nat) : Int).toNat = i by omega] at hy hsk
      unfold qb_can_2
      walk_at "q"
      refine qLc_map (fun d => .bool (memT (.int (i : Int)) d)) (by rw [List.length_map, List.length_range]; omega) (fun d hd sk yd hy => ?_) ?_
      · obtain ⟨k, hk, rfl⟩ := List.mem_map.mp hd
        unfold qb_can_3 setP
        walk_at "q"
        exact ⟨sh_ints _ _, hy⟩
      · rw [q_anyB, List.any_map]
        have e : ((List.range logs).any ((fun d => memT (.int (i : Int)) d) ∘ fun k : Nat => setP (someB tts k) tts.length)) = anyS tts (List.range logs) i := by
          unfold anyS
          congr 1
          funext k
          exact in_set hs
        rw [e]
        walk_at "q"
        cases ea : anyS tts (List.range logs) i with
        | true => exact hy _ (by rw [ea]; rfl)
        | false => exact hsk (by rw [ea]; rfl)
    · rw [range_fm (g := anyS tts (List.range logs)) (fun i hi => by
        dsimp only
        rw [show ((i : Nat) : Int).toNat = i by omega])]
      walk_at "q"
      exact h

def mayD (tts : List (List (List Bool))) (p : Nat → Bool) (k : Nat) : PyData := .tuple [.str "may", .int (k : Int), .tuple (colL tts p k)]
def barsD (bs : List Nat) : PyData := .tuple [.str "barred", .tuple (bs.map fun b : Nat => .int (b : Int))]
/-- no ship bars by the log k -/
def freeB (tts : List (List (List Bool))) (p : Nat → Bool) (k : Nat) : Prop := ∀ s, s < tts.length → p s ∈ rowS tts s k
theorem may_be_x {logs : Nat} {tts : List (List (List Bool))} (ok : SgOk logs tts) (p : Nat → Bool) {K : PyData → Prop} {E : Str → Prop} (hM : ∀ k, k < logs → freeB tts p k → K (mayD tts p k))
    (hB : ∀ bs : List Nat, bs.length = logs → (∀ k s, bs[k]? = some s → s < tts.length ∧ barB tts p k s = true) → K (barsD bs)) : q_may_be (sgD logs tts) (setP p tts.length) K E := by
  have l1 := ok.l1
  unfold q_may_be
  refine need_sightsK ok ?_
  refine need_setK ok ?_
  rw [sgD]
  walk_at "q"
  rw [← sgD]
  refine ⟨by omega, ?_⟩
  rw [show ((logs : Nat) : Int).toNat = logs by omega]
  refine qFor_range (fun k s => ∃ bs : List Nat, s = bs.map (fun b : Nat => PyData.int (b : Int)) ∧ bs.length = k ∧ ∀ k s, bs[k]? = some s → s < tts.length ∧ barB tts p k s = true) ⟨[], rfl, rfl, by simp⟩ (fun k s nx hk hs hnx => ?_) fun s hs => ?_
  · obtain ⟨bs, rfl, hl, hb⟩ := hs
    rw [Int.zero_add]
    unfold qb_may_be_1
    refine bars_by_q ok hk _ ?_
    walk_at "q"
    cases e : setI (barB tts p k) tts.length with
    | nil =>
      have fr : freeB tts p k := fun s hs => by
        have : ¬ ((s : Int) ∈ setI (barB tts p k) tts.length) := by rw [e]; simp
        rw [mem_setI] at this
        have b : barB tts p k s = false := by
          cases q : barB tts p k s with
          | false => rfl
          | true => exact absurd ⟨hs, q⟩ this
        unfold barB at b
        rw [Bool.not_eq_false', List.contains_iff_mem] at b
        exact b
      rw [List.map_nil]
      walk_at "q"
      refine columns_by_q ok hk fr _ ?_
      walk_at "q"
      exact hM k hk fr
    | cons x r =>
      obtain ⟨s, rfl, hs, hb2⟩ := setI_mem (x := x) (by rw [e]; exact List.mem_cons_self ..)
      rw [List.map_cons]
      walk_at "q"
      refine ⟨by rw [hl]; omega, hnx _ ⟨bs ++ [s], by simp, by simp [hl], fun j t hj => ?_⟩⟩
      rw [List.getElem?_append] at hj
      split at hj
      · exact hb j t hj
      · rename_i hjl
        have : j = k := by
          have := (List.getElem?_eq_some_iff.mp hj).1
          simp at this
          omega
        subst this
        have : t = s := by
          rw [show j - bs.length = 0 by omega] at hj
          simpa using hj.symm
        subst this
        exact ⟨hs, hb2⟩
  · obtain ⟨bs, rfl, hl, hb⟩ := hs
    exact hB bs hl hb

/-! ### the word of a refusal -/
theorem cnt_q {bs : List Bool} {b : Bool} {P : PyData → Prop} (h : P (.int (bs.count b : Nat))) : cntQ (bs.map .bool) (.bool b) P := by
  unfold cntQ
  refine ⟨⟨(sh_bools b bs).2, (sh_bools b bs).1⟩, ?_⟩
  unfold cntN
  rw [cnt_bool]
  exact h
theorem sort_q {c w : Str} {bs : List Bool} {j : Nat} (h1 : (["NoLogs"] : List Str).any (exSub c) = bs.getD 0 false) (h2 : (["NoChase"] : List Str).any (exSub c) = bs.getD 1 false) (h3 : (["NoMiles"] : List Str).any (exSub c) = bs.getD 2 false)
    (h4 : (["NoTable"] : List Str).any (exSub c) = bs.getD 3 false) (h5 : (["NoSights"] : List Str).any (exSub c) = bs.getD 4 false) (h6 : (["NoSet"] : List Str).any (exSub c) = bs.getD 5 false) (h7 : (["NoNumber"] : List Str).any (exSub c) = bs.getD 6 false)
    (h8 : (["NoWeights", "NoPart", "NoLog", "NoRoll", "NoName", "NoHour", "NoScheme", "NoCrew", "NoMan", "NoSale"] : List Str).any (exSub c) = false)
    (h9 : (["NoCrews", "NoPages", "NoPage", "NoPrize", "NoBalances", "NoMoney", "NoChange", "NoText", "NoRow"] : List Str).any (exSub c) = false)
    (h10 : (["TooMany"] : List Str).any (exSub c) = false) (hb : bs = [bs.getD 0 false, bs.getD 1 false, bs.getD 2 false, bs.getD 3 false, bs.getD 4 false, bs.getD 5 false, bs.getD 6 false]) (hc : bs.count true = 1) (hi : bs.idxOf true = j) (hm : true ∈ bs)
    (hw : ([.str "logs", .str "chase", .str "miles", .str "table", .str "sights", .str "set", .str "number"] : List PyData)[j]? = some (.str w)) (K : PyData → Prop) (hK : K (.str w)) : q_law_sort (exD c) K := by
  unfold q_law_sort
  simp only [q_isx, h1, h2, h3, h4, h5, h6, h7, h8, h9, h10]
  walk_at "q"
  refine ⟨by simp, ?_⟩
  try refine ⟨by simp, ?_⟩
  have e : ([.bool (bs.getD 0 false), .bool (bs.getD 1 false), .bool (bs.getD 2 false), .bool (bs.getD 3 false), .bool (bs.getD 4 false), .bool (bs.getD 5 false), .bool (bs.getD 6 false)] : List PyData) = bs.map .bool := by
    conv => rhs; rw [hb]
    rfl
  rw [e]
  refine cnt_q ?_
  rw [hc]
  walk_at "q"
  rw [decide_eq_true (show ((1 : Nat) : Int) = 1 from rfl)]
  simp only [q_isv]
  walk_at "q"
  refine idx_q hm ?_
  rw [hi]
  walk_at "q"
  exact pick_at hw hK
theorem sort_sights (K : PyData → Prop) (hK : K (.str "sights")) : q_law_sort (exD "NoSights") K :=
  sort_q (bs := [false, false, false, false, true, false, false]) (j := 4) (by decide +kernel) (by decide +kernel) (by decide +kernel) (by decide +kernel) (by decide +kernel) (by decide +kernel) (by decide +kernel) (by decide +kernel) (by decide +kernel) (by decide +kernel) rfl (by decide) (by decide) (by decide) rfl K hK
theorem sort_set (K : PyData → Prop) (hK : K (.str "set")) : q_law_sort (exD "NoSet") K :=
  sort_q (bs := [false, false, false, false, false, true, false]) (j := 5) (by decide +kernel) (by decide +kernel) (by decide +kernel) (by decide +kernel) (by decide +kernel) (by decide +kernel) (by decide +kernel) (by decide +kernel) (by decide +kernel) (by decide +kernel) rfl (by decide) (by decide) (by decide) rfl K hK
theorem sort_number (K : PyData → Prop) (hK : K (.str "number")) : q_law_sort (exD "NoNumber") K :=
  sort_q (bs := [false, false, false, false, false, false, true]) (j := 6) (by decide +kernel) (by decide +kernel) (by decide +kernel) (by decide +kernel) (by decide +kernel) (by decide +kernel) (by decide +kernel) (by decide +kernel) (by decide +kernel) (by decide +kernel) rfl (by decide) (by decide) (by decide) rfl K hK
/-! ### what is asked -/
section
variable {s a b : PyData} {K : PyData → Prop}
theorem asked0 (h : q_set_of s a b (fun _ => K .none) fun c => q_law_sort (exD c) fun w => K w) : q_law_asked (.int 0) (.list [s, a, b]) K := by
  unfold q_law_asked
  simp only [q_seqL, q_cons, q_nil, q_jn, q_eq, q_bT, decide_true, bIf_t, Int.reduceEq, decide_false, bIf_f]
  exact h
theorem asked1 (h : q_may_be s a (fun _ => K .none) fun c => q_law_sort (exD c) fun w => K w) : q_law_asked (.int 1) (.list [s, a, b]) K := by
  unfold q_law_asked
  simp only [q_seqL, q_cons, q_nil, q_jn, q_eq, q_bT, decide_true, bIf_t, Int.reduceEq, decide_false, bIf_f]
  exact h
theorem asked2 (h : q_how_many s a (fun _ => K .none) fun c => q_law_sort (exD c) fun w => K w) : q_law_asked (.int 2) (.list [s, a, b]) K := by
  unfold q_law_asked
  simp only [q_seqL, q_cons, q_nil, q_jn, q_eq, q_bT, decide_true, bIf_t, Int.reduceEq, decide_false, bIf_f]
  exact h
theorem asked3 (h : q_shows_set s a b (fun _ => K .none) fun c => q_law_sort (exD c) fun w => K w) : q_law_asked (.int 3) (.list [s, a, b]) K := by
  unfold q_law_asked
  simp only [q_seqL, q_cons, q_nil, q_jn, q_eq, q_bT, decide_true, bIf_t, Int.reduceEq, decide_false, bIf_f]
  exact h
theorem asked4 (h : q_must_by s a (fun _ => K .none) fun c => q_law_sort (exD c) fun w => K w) : q_law_asked (.int 4) (.list [s, a, b]) K := by
  unfold q_law_asked
  simp only [q_seqL, q_cons, q_nil, q_jn, q_eq, q_bT, decide_true, bIf_t, Int.reduceEq, decide_false, bIf_f]
  exact h
theorem asked5 (h : q_can_by s a (fun _ => K .none) fun c => q_law_sort (exD c) fun w => K w) : q_law_asked (.int 5) (.list [s, a, b]) K := by
  unfold q_law_asked
  simp only [q_seqL, q_cons, q_nil, q_jn, q_eq, q_bT, decide_true, bIf_t, Int.reduceEq, decide_false, bIf_f]
  exact h
theorem asked6 (h : q_all_sets s (fun _ => K .none) fun c => q_law_sort (exD c) fun w => K w) : q_law_asked (.int 6) (.list [s, a, b]) K := by
  unfold q_law_asked
  simp only [q_seqL, q_cons, q_nil, q_jn, q_eq, q_bT, decide_true, bIf_t, Int.reduceEq, decide_false, bIf_f]
  exact h
theorem asked7 (h : q_must s (fun _ => K .none) fun c => q_law_sort (exD c) fun w => K w) : q_law_asked (.int 7) (.list [s, a, b]) K := by
  unfold q_law_asked
  simp only [q_seqL, q_cons, q_nil, q_jn, q_eq, q_bT, decide_true, bIf_t, Int.reduceEq, decide_false, bIf_f]
  exact h
theorem asked8 (h : q_can s (fun _ => K .none) fun c => q_law_sort (exD c) fun w => K w) : q_law_asked (.int 8) (.list [s, a, b]) K := by
  unfold q_law_asked
  simp only [q_seqL, q_cons, q_nil, q_jn, q_eq, q_bT, decide_true, bIf_t, Int.reduceEq, decide_false, bIf_f]
  exact h
/-- of what are no sights -/
theorem asked_sights {d : Nat} (hd : d ≤ 8) (h : isSights s = false) (hK : K (.str "sights")) : q_law_asked (.int (d : Int)) (.list [s, a, b]) K := by
  have go : ∀ {Ka : PyData → Prop}, q_need_sights s Ka fun c => q_law_sort (exD c) fun w => K w := fun {Ka} => need_sightsX s (fun e => by rw [h] at e; cases e) fun _ => sort_sights _ hK
  match d, hd with
  | 0, _ => exact asked0 go
  | 1, _ => exact asked1 go
  | 2, _ => exact asked2 go
  | 3, _ => exact asked3 go
  | 4, _ => exact asked4 go
  | 5, _ => exact asked5 go
  | 6, _ => exact asked6 go
  | 7, _ => exact asked7 go
  | 8, _ => exact asked8 go
end
section
variable {logs : Nat} {tts : List (List (List Bool))} {a b : PyData} {K : PyData → Prop}
theorem asked_log (ok : SgOk logs tts) (hb : (partsD b).length ≤ 100000) (h : isCh logs tts a b = false) (hK : K (.str "number")) : q_law_asked (.int 0) (.list [sgD logs tts, a, b]) K := by
  refine asked0 (need_sightsK ok ?_)
  refine is_choice_q ok a b hb _ ?_
  rw [h]
  walk_at "q"
  exact sort_number _ hK
theorem asked_none0 (ok : SgOk logs tts) {k : Nat} {cs : List Nat} (hk : k < logs) (hc : ChOk tts k cs) (hK : K .none) : q_law_asked (.int 0) (.list [sgD logs tts, .int (k : Int), .tuple (cs.map fun c : Nat => .int (c : Int))]) K := by
  have n1 := ok.n1
  refine asked0 (need_sightsK ok ?_)
  refine is_choice_q ok _ _ (by show (cs.map _).length ≤ 100000; rw [List.length_map, hc.1]; omega) _ ?_
  rw [ch_is ok hk hc]
  walk_at "q"
  exact chosen_q ok hk hc _ hK
theorem asked_set (ok : SgOk logs tts) {d : Nat} (h1 : 1 ≤ d) (h3 : d ≤ 3) (ha : (partsD a).length ≤ 100000) (h : isSetB tts.length a = false) (hK : K (.str "set")) : q_law_asked (.int (d : Int)) (.list [sgD logs tts, a, b]) K := by
  have go : ∀ {Ka : PyData → Prop}, q_need_set (sgD logs tts) a Ka fun c => q_law_sort (exD c) fun w => K w := fun {Ka} => need_setX ok a ha (fun e => by rw [h] at e; cases e) fun _ => sort_set _ hK
  match d, h1, h3 with
  | 1, _, _ => exact asked1 (need_sightsK ok go)
  | 2, _, _ => exact asked2 (need_sightsK ok go)
  | 3, _, _ => exact asked3 (need_sightsK ok go)
theorem asked_noneS (ok : SgOk logs tts) {d : Nat} (h1 : 1 ≤ d) (h3 : d ≤ 3) {p : Nat → Bool} (hK : K .none) : q_law_asked (.int (d : Int)) (.list [sgD logs tts, setP p tts.length, .none]) K := by
  match d, h1, h3 with
  | 1, _, _ => exact asked1 (may_be_x ok p (fun _ _ _ => hK) fun _ _ _ => hK)
  | 2, _, _ => exact asked2 (how_many_x ok hK)
  | 3, _, _ =>
    refine asked3 (need_sightsK ok (need_setK ok ?_))
    walk_at "q"
    exact hK
theorem asked_by (ok : SgOk logs tts) {d : Nat} (h4 : 4 ≤ d) (h5 : d ≤ 5) (h : isIn a 0 ((logs : Int) - 1) = false) (hK : K (.str "number")) : q_law_asked (.int (d : Int)) (.list [sgD logs tts, a, b]) K := by
  have go : ∀ {Ka : PyData → Prop}, q_need_log (sgD logs tts) a Ka fun c => q_law_sort (exD c) fun w => K w := fun {Ka} => need_logX a (fun e => by rw [h] at e; cases e) fun _ => sort_number _ hK
  match d, h4, h5 with
  | 4, _, _ => exact asked4 (need_sightsK ok go)
  | 5, _, _ => exact asked5 (need_sightsK ok go)
theorem log_in {k : Nat} (hk : k < logs) : isIn (.int (k : Int)) 0 ((logs : Int) - 1) = true := by
  simp only [isIn, Bool.and_eq_true, decide_eq_true_eq]
  omega
theorem asked_noneB (ok : SgOk logs tts) {d k : Nat} (h4 : 4 ≤ d) (h5 : d ≤ 5) (hk : k < logs) (hK : K .none) : q_law_asked (.int (d : Int)) (.list [sgD logs tts, .int (k : Int), b]) K := by
  have go : ∀ {Ka : PyData → Prop}, Ka .none → q_need_log (sgD logs tts) (.int (k : Int)) Ka fun c => q_law_sort (exD c) fun w => K w := fun {Ka} h => need_logX _ (fun _ => h) fun e => by rw [log_in hk] at e; cases e
  match d, h4, h5 with
  | 4, _, _ => exact asked4 (need_sightsK ok (go (sure_by_q ok hk _ hK)))
  | 5, _, _ => exact asked5 (need_sightsK ok (go (some_by_q ok hk _ hK)))
theorem asked_noneA (ok : SgOk logs tts) {d : Nat} (h6 : 6 ≤ d) (h8 : d ≤ 8) (hK : K .none) : q_law_asked (.int (d : Int)) (.list [sgD logs tts, a, b]) K := by
  match d, h6, h8 with
  | 6, _, _ => exact asked6 (all_sets_x ok fun _ _ _ _ => hK)
  | 7, _, _ => exact asked7 (must_x ok hK)
  | 8, _, _ => exact asked8 (can_x ok hK)
end
/-! ### what is none -/
theorem cut_mem {xs : List PyData} {lo hi : Option Int} {x : PyData} (h : x ∈ DL.cutD xs lo hi) : x ∈ xs := by
  unfold DL.cutD at h
  first
    | exact List.mem_of_mem_drop (List.mem_of_mem_take h)
    | exact List.mem_of_mem_take (List.mem_of_mem_drop h)
theorem cut_len {xs : List PyData} {lo hi : Option Int} : (DL.cutD xs lo hi).length ≤ xs.length := by
  unfold DL.cutD
  simp only [List.length_take, List.length_drop]
  omega
theorem cut_t {xs : List PyData} {k : Nat} : DL.cutD xs none (some (k : Int)) = xs.take k := by
  unfold DL.cutD
  rw [HT.sIx_nat, HT.sIx_none]
  simp
theorem cut_d {xs : List PyData} {k : Nat} : DL.cutD xs (some (k : Int)) none = xs.drop k := by
  unfold DL.cutD
  have e1 : HT.sIx xs.length 0 (some (k : Int)) = min k xs.length := HT.sIx_nat xs.length 0 k
  rw [e1, HT.sIx_none]
  by_cases h : k ≤ xs.length
  · rw [Nat.min_eq_left h]
    exact List.take_of_length_le (by simp)
  · rw [Nat.min_eq_right (by omega), List.drop_of_length_le (Nat.le_refl _), List.drop_of_length_le (by omega), List.take_nil]
/-- small, and not long -/
def Tiny (x : PyData) : Prop := Sm 60 2 x ∧ (partsD x).length ≤ 100
theorem tiny_int {i : Int} (h0 : -(10 ^ 100) ≤ i) (h1 : i ≤ 10 ^ 100) : Tiny (.int i) := ⟨Sm.int' h0 h1, by simp [partsD]⟩
theorem tiny_none : Tiny .none := ⟨Sm.none _ _, by simp [partsD]⟩
theorem tiny_bool {b : Bool} : Tiny (.bool b) := ⟨Sm.bool _ _, by simp [partsD]⟩
theorem tiny_dict : Tiny (.dict []) := ⟨Sm.dict0 _ _, by simp [partsD]⟩
theorem tiny_s0 : Tiny (.str "") := ⟨⟨by decide, by decide, by decide⟩, by simp [partsD]⟩
theorem tiny_s1 : Tiny (.str "0") := ⟨⟨by decide, by decide, by decide⟩, by simp [partsD]⟩
theorem sm0_int {i : Int} (h0 : -(10 ^ 100) ≤ i) (h1 : i ≤ 10 ^ 100) : Sm 5 1 (.int i) := Sm.int' h0 h1
theorem tiny_tup {xs : List PyData} (hl : xs.length ≤ 9) (h : ∀ x ∈ xs, Sm 5 1 x) : Tiny (.tuple xs) := ⟨(Sm.tup (n := 9) (b := 5) (k := 1) hl h).mono, by show xs.length ≤ 100; omega⟩
theorem tiny_lst {xs : List PyData} (hl : xs.length ≤ 9) (h : ∀ x ∈ xs, Sm 5 1 x) : Tiny (.list xs) := ⟨(Sm.lst (n := 9) (b := 5) (k := 1) hl h).mono, by show ([] : List PyData).length ≤ 100; simp⟩
theorem in_no {m : Int} {xs : List PyData} {x : PyData} (h : x ∈ xs) (hx : isIn x 0 m = false) : (xs.all fun x => isIn x 0 m) = false := by
  rw [Bool.eq_false_iff]
  intro z
  rw [List.all_eq_true] at z
  rw [z x h] at hx
  cases hx
theorem set_no {n : Nat} {xs : List PyData} {x : PyData} (h : x ∈ xs) (hx : isIn x 0 ((n : Int) - 1) = false) : isSetB n (.tuple xs) = false := by
  rw [isSet_eq, in_no h hx, Bool.false_and]
theorem isIn_big {m i : Int} (h : m < i) : isIn (.int i) 0 m = false := by
  simp only [isIn, Bool.and_eq_false_iff, decide_eq_false_iff_not]
  omega
theorem isIn_neg {m i : Int} (h : i < 0) : isIn (.int i) 0 m = false := by
  simp only [isIn, Bool.and_eq_false_iff, decide_eq_false_iff_not]
  omega
/-- what is no set -/
def OddSet (n : Nat) (x : PyData) : Prop := isSetB n x = false ∧ Tiny x
theorem law_no_set_q {n : Nat} (hn : n ≤ 7) {m : Int} {xs : List PyData} (hp : CupOk m xs) (hm : m ≤ 10 ^ 5) (K : PyData → List PyData → Prop) (hK : ∀ x xs', OddSet n x → CupOk (m + 1) xs' → K x xs') : q_law_no_set xs (.int (n : Int)) K := by
  unfold q_law_no_set
  walk_at "q"
  refine ⟨by omega, ?_⟩
  have e39 : (10 : Int) ^ Int.toNat 39 = 10 ^ 39 := rfl
  refine ⟨⟨sz_of (by decide) (by decide), by decide, by decide⟩, by decide, ?_⟩
  refine cup_take_q hp (by omega) (by decide) (by decide) _ fun t xs t0 t1 hp => ?_
  refine pick_mem t0 (by simpa using t1) fun d hd => hK _ _ ?_ hp
  have i0 : ∀ {i : Int}, -(10 ^ 100) ≤ i → i ≤ 10 ^ 100 → Sm 5 1 (.int i) := fun h0 h1 => sm0_int h0 h1
  have one : ∀ {x : PyData}, Sm 5 1 x → ∀ y ∈ [x], Sm 5 1 y := fun h y hy => by rw [List.mem_singleton.mp hy]; exact h
  simp only [List.mem_cons, List.not_mem_nil, or_false] at hd
  rcases hd with rfl | rfl | rfl | rfl | rfl | rfl | rfl | rfl | rfl | rfl | rfl | rfl | rfl | rfl | rfl | rfl | rfl | rfl | rfl
  · exact ⟨set_no (List.mem_cons_self ..) (isIn_big (by omega)), tiny_tup (by simp) (one (i0 (by omega) (by omega)))⟩
  · exact ⟨set_no (List.mem_cons_self ..) (isIn_neg (by omega)), tiny_tup (by simp) (one (i0 (by omega) (by omega)))⟩
  · exact ⟨by rw [isSet_eq]; exact Bool.and_eq_false_iff.mpr (.inr rfl), tiny_tup (by simp) fun y hy => by simp only [List.mem_cons, List.not_mem_nil, or_false, or_self] at hy; subst hy; exact i0 (by decide) (by decide)⟩
  · exact ⟨by rw [isSet_eq]; exact Bool.and_eq_false_iff.mpr (.inr rfl), tiny_tup (by simp) fun y hy => by simp only [List.mem_cons, List.not_mem_nil, or_false] at hy; rcases hy with rfl | rfl <;> exact i0 (by decide) (by decide)⟩
  · exact ⟨rfl, tiny_lst (by simp) (one (i0 (by decide) (by decide)))⟩
  · exact ⟨rfl, tiny_lst (by simp) (by simp)⟩
  · exact ⟨rfl, tiny_none⟩
  · exact ⟨rfl, tiny_int (by decide) (by decide)⟩
  · exact ⟨rfl, tiny_s0⟩
  · exact ⟨rfl, tiny_dict⟩
  · exact ⟨set_no (List.mem_cons_self ..) rfl, tiny_tup (by simp) (one (Sm.bool _ _))⟩
  · exact ⟨set_no (List.mem_cons_self ..) rfl, tiny_tup (by simp) (one (Sm.bool _ _))⟩
  · exact ⟨set_no (List.mem_cons_self ..) rfl, tiny_tup (by simp) (one (Sm.none _ _))⟩
  · exact ⟨set_no (List.mem_cons_self ..) rfl, tiny_tup (by simp) (one ⟨by decide, by decide, by decide⟩)⟩
  · exact ⟨set_no (List.mem_cons_self ..) rfl, tiny_tup (by simp) (one (Sm.tup (n := 1) (b := 0) (k := 0) (by simp) fun y hy => by rw [List.mem_singleton.mp hy]; exact Sm.int' (by decide) (by decide)).mono)⟩
  · exact ⟨set_no (x := .int (n : Int)) (by simp) (isIn_big (by omega)), tiny_tup (by simp) fun y hy => by simp only [List.mem_cons, List.not_mem_nil, or_false] at hy; rcases hy with rfl | rfl <;> exact i0 (by omega) (by omega)⟩
  · exact ⟨by rw [isSet_eq]; exact Bool.and_eq_false_iff.mpr (.inr rfl), tiny_tup (by simp) fun y hy => by simp only [List.mem_cons, List.not_mem_nil, or_false, or_self] at hy; rcases hy with rfl | rfl <;> exact i0 (by decide) (by decide)⟩
  · have el : rangeD 0 ((n : Int) + 1).toNat = rangeD 0 (n + 1) := by rw [show ((n : Int) + 1).toNat = n + 1 by omega]
    rw [el]
    refine ⟨set_no (x := .int (n : Int)) ?_ (isIn_big (by omega)), tiny_tup (by rw [range_len]; omega) fun y hy => ?_⟩
    · unfold rangeD
      exact List.mem_map.mpr ⟨n, by simp, by rw [Int.zero_add]⟩
    · obtain ⟨i, hi⟩ := List.mem_iff_getElem?.mp hy
      obtain ⟨hl, rfl⟩ := range_get hi
      exact i0 (by omega) (by omega)
  · exact ⟨set_no (List.mem_cons_self ..) (isIn_big (by omega)), tiny_tup (by simp) (one (i0 (by decide) (by decide)))⟩
theorem law_no_log_q {logs : Nat} (l0 : 1 ≤ logs) (l1 : logs ≤ 4) {m : Int} {xs : List PyData} (hp : CupOk m xs) (hm : m ≤ 10 ^ 5) (K : PyData → List PyData → Prop) (hK : ∀ x xs', isIn x 0 ((logs : Int) - 1) = false → Tiny x → CupOk (m + 1) xs' → K x xs') : q_law_no_log xs (.int (logs : Int)) K := by
  unfold q_law_no_log
  walk_at "q"
  have e39 : (10 : Int) ^ Int.toNat 39 = 10 ^ 39 := rfl
  refine ⟨⟨sz_of (by decide) (by decide), by decide, by decide⟩, ?_⟩
  refine cup_take_q hp (by omega) (by decide) (by decide) _ fun t xs t0 t1 hp => ?_
  refine pick_mem t0 (by simpa using t1) fun d hd => ?_
  simp only [List.mem_cons, List.not_mem_nil, or_false] at hd
  rcases hd with rfl | rfl | rfl | rfl | rfl | rfl | rfl | rfl | rfl | rfl | rfl | rfl
  · exact hK _ _ (isIn_big (by omega)) (tiny_int (by omega) (by omega)) hp
  · exact hK _ _ (isIn_neg (by omega)) (tiny_int (by omega) (by omega)) hp
  · exact hK _ _ rfl tiny_bool hp
  · exact hK _ _ rfl tiny_bool hp
  · exact hK _ _ rfl tiny_none hp
  · exact hK _ _ rfl tiny_s1 hp
  · exact hK _ _ rfl (tiny_tup (by simp) fun y hy => by rw [List.mem_singleton.mp hy]; exact sm0_int (by decide) (by decide)) hp
  · exact hK _ _ rfl (tiny_lst (by simp) fun y hy => by rw [List.mem_singleton.mp hy]; exact sm0_int (by decide) (by decide)) hp
  · exact hK _ _ (isIn_big (by omega)) (tiny_int (by decide) (by decide)) hp
  · exact hK _ _ (isIn_neg (by omega)) (tiny_int (by omega) (by omega)) hp
  · exact hK _ _ (isIn_big (by omega)) (tiny_int (by omega) (by omega)) hp
  · exact hK _ _ rfl tiny_dict hp
/-! ### columns -/
def zerosD (n : Nat) : List PyData := List.replicate n (.int 0)
theorem zeros_map {n : Nat} : zerosD n = (List.replicate n 0).map fun c : Nat => .int (c : Int) := by
  unfold zerosD
  rw [List.map_replicate]
  rfl
theorem zeros_ok {logs : Nat} {tts : List (List (List Bool))} (ok : SgOk logs tts) : ChOk tts 0 (List.replicate tts.length 0) := by
  have l0 := ok.l0
  refine ⟨by simp, fun s hs => ?_⟩
  obtain ⟨bss, many, e1, tb, hl, e2, e3⟩ := ok.row (k := 0) hs (by omega)
  have := tb.2.2.1
  have e : (List.replicate tts.length 0).getD s 0 = 0 := by
    rw [List.getD_eq_getElem?_getD, List.getElem?_replicate]
    split <;> rfl
  rw [e]
  omega
theorem zeros_tiny {n : Nat} (hn : n ≤ 7) : ∀ x ∈ zerosD n, Sm 5 1 x := fun x hx => by
  unfold zerosD at hx
  rw [List.mem_replicate] at hx
  rw [hx.2]
  exact sm0_int (by decide) (by decide)
theorem zeros_len {n : Nat} : (zerosD n).length = n := by simp [zerosD]
/-- what is no choice by the first log -/
def OddCh (logs : Nat) (tts : List (List (List Bool))) (x : PyData) : Prop := isCh logs tts (.int 0) x = false ∧ Tiny x
theorem ch_tp {logs : Nat} {tts : List (List (List Bool))} {x : PyData} (h : isTp x = false) : isCh logs tts (.int 0) x = false := by
  unfold isCh
  rw [h, Bool.false_and, Bool.and_false]
theorem ch_len {logs : Nat} {tts : List (List (List Bool))} {xs : List PyData} (h : xs.length ≠ tts.length) : isCh logs tts (.int 0) (.tuple xs) = false := by
  unfold isCh
  have : decide ((partsD (.tuple xs)).length = tts.length) = false := decide_eq_false h
  rw [this, Bool.false_and, Bool.and_false, Bool.and_false]
theorem ch_at {logs : Nat} {tts : List (List (List Bool))} {xs : List PyData} {i : Nat} (hi : i < tts.length) (h : inCol tts i (xs.getD i .none) = false) : isCh logs tts (.int 0) (.tuple xs) = false := by
  unfold isCh
  have : ((List.range tts.length).all fun i => inCol tts i ((partsD (.tuple xs)).getD i .none)) = false := by
    rw [Bool.eq_false_iff]
    intro z
    rw [List.all_eq_true] at z
    have z := z i (List.mem_range.mpr hi)
    have z : inCol tts i (xs.getD i .none) = true := z
    rw [h] at z
    cases z
  rw [this, Bool.and_false, Bool.and_false, Bool.and_false]
theorem law_no_columns_q {logs : Nat} {tts : List (List (List Bool))} (ok : SgOk logs tts) {m : Int} {xs : List PyData} (hp : CupOk m xs) (hm : m ≤ 10 ^ 5) (K : PyData → List PyData → Prop) (hK : ∀ x xs', OddCh logs tts x → CupOk (m + 2) xs' → K x xs') : q_law_no_columns xs (sgD logs tts) K := by
  have n1 := ok.n1
  have l0 := ok.l0
  have l1 := ok.l1
  unfold q_law_no_columns
  rw [sgD]
  walk_at "q"
  rw [← sgD]
  refine qLc_map (fun _ => .int 0) (by rw [List.length_map]; omega) (fun d hd sk yd hy => by unfold qb_law_no_columns_1; exact hy) ?_
  have ez : (tts.map tabD).map (fun _ => PyData.int 0) = zerosD tts.length := by
    rw [List.map_map]
    unfold zerosD
    exact List.eq_replicate_iff.mpr ⟨by simp, fun y hy => by
      obtain ⟨_, _, rfl⟩ := List.mem_map.mp hy
      rfl⟩
  rw [ez]
  walk_at "q"
  rw [zeros_len]
  refine ⟨by omega, by omega, ?_⟩
  have zt := zeros_tiny n1
  have tz : ∀ {a : PyData}, Sm 5 1 a → Tiny (.tuple (zerosD tts.length ++ [a])) := fun {a} h => tiny_tup (by rw [List.length_append, zeros_len]; simp; omega) fun y hy => by
    rcases List.mem_append.mp hy with hy | hy
    · exact zt y hy
    · rw [List.mem_singleton.mp hy]; exact h
  have base : ∀ x ∈ [PyData.tuple (zerosD tts.length ++ [.int 0]), .list (zerosD tts.length), .none, .int 0, .str "", .dict [], .tuple (zerosD tts.length ++ [.none])], OddCh logs tts x := by
    intro x hx
    simp only [List.mem_cons, List.not_mem_nil, or_false] at hx
    rcases hx with rfl | rfl | rfl | rfl | rfl | rfl | rfl
    · exact ⟨ch_len (by rw [List.length_append, zeros_len]; simp), tz (sm0_int (by decide) (by decide))⟩
    · exact ⟨ch_tp rfl, tiny_lst (by rw [zeros_len]; omega) zt⟩
    · exact ⟨ch_tp rfl, tiny_none⟩
    · exact ⟨ch_tp rfl, tiny_int (by decide) (by decide)⟩
    · exact ⟨ch_tp rfl, tiny_s0⟩
    · exact ⟨ch_tp rfl, tiny_dict⟩
    · exact ⟨ch_len (by rw [List.length_append, zeros_len]; simp), tz (Sm.none _ _)⟩
  generalize hb7 : [PyData.tuple (zerosD tts.length ++ [.int 0]), .list (zerosD tts.length), .none, .int 0, .str "", .dict [], .tuple (zerosD tts.length ++ [.none])] = b7 at base ⊢
  have l7 : b7.length = 7 := by rw [← hb7]; rfl
  cases hn : tts.length with
  | zero =>
    have e0 : (zerosD 0).isEmpty = true := rfl
    rw [e0]
    walk_at "q"
    refine cup_take_q hp (by omega) (by decide) (by decide) _ fun t xs t0 t1 hp => ?_
    walk_at "q"
    exact pick_mem t0 (by rw [l7]; simpa using t1) fun d hd => hK _ _ (base d hd) (hp.mono (by omega))
  | succ n' =>
    have e0 : (zerosD (n' + 1)).isEmpty = false := rfl
    rw [e0]
    walk_at "q"
    rw [← hn]
    refine cup_take_q hp (by omega) (by omega) (by omega) _ fun t xs t0 t1 hp => ?_
    obtain ⟨i, rfl⟩ : ∃ i : Nat, t = (i : Int) := ⟨t.toNat, by omega⟩
    have hi : i < tts.length := by omega
    obtain ⟨bss, many, e1, tb, hl, e2, e3⟩ := ok.row (k := 0) hi (by omega)
    have m0 := tb.2.2.1
    have m1 := tb.2.2.2.1
    have hm : manyS tts i = many := e3
    walk_at "q"
    refine ship_pick e1 ?_
    unfold tabD
    walk_at "q"
    refine log_pick (k := 0) e2 ?_
    unfold rowD1
    walk_at "q"
    rw [e3]
    refine ⟨⟨sz_of (by decide) (by decide), by decide, by decide⟩, ?_⟩
    refine qFor_ind (fun j s => s.length = 7 + j ∧ ∀ x ∈ s, OddCh logs tts x) ⟨l7, base⟩ (fun j d s nx hd hs hnx => ?_) fun s hs => ?_
    · obtain ⟨sl, so⟩ := hs
      have hj := (List.getElem?_eq_some_iff.mp hd).1
      have hj : j < 8 := by simpa using hj
      have hd := List.mem_of_getElem? hd
      have dd : inCol tts i d = false ∧ Sm 5 1 d := by
        unfold inCol
        rw [hm]
        simp only [List.mem_cons, List.not_mem_nil, or_false] at hd
        rcases hd with rfl | rfl | rfl | rfl | rfl | rfl | rfl | rfl
        · exact ⟨isIn_neg (by omega), sm0_int (by decide) (by decide)⟩
        · exact ⟨rfl, Sm.bool _ _⟩
        · exact ⟨rfl, Sm.bool _ _⟩
        · exact ⟨rfl, Sm.none _ _⟩
        · exact ⟨rfl, ⟨by decide, by decide, by decide⟩⟩
        · exact ⟨rfl, (Sm.tup (n := 1) (b := 0) (k := 0) (by simp) fun y hy => by rw [List.mem_singleton.mp hy]; exact Sm.int' (by decide) (by decide)).mono⟩
        · exact ⟨isIn_big (by omega), sm0_int (by omega) (by omega)⟩
        · exact ⟨isIn_big (Int.lt_of_lt_of_le (show (many : Int) - 1 < 4 by omega) (by decide)), sm0_int (by decide) (by decide)⟩
      unfold qb_law_no_columns_2
      walk_at "q"
      rw [show ((i : Int) + 1) = ((i + 1 : Nat) : Int) by omega, cut_t, cut_d]
      have tl : ((zerosD tts.length).take i).length = i := by rw [List.length_take, zeros_len]; omega
      have dl : ((zerosD tts.length).drop (i + 1)).length = tts.length - (i + 1) := by rw [List.length_drop, zeros_len]
      refine ⟨by omega, by omega, by omega, hnx _ ⟨by simp [sl]; omega, fun x hx => ?_⟩⟩
      rcases List.mem_append.mp hx with hx | hx
      · exact so x hx
      · rw [List.mem_singleton.mp hx]
        refine ⟨ch_at hi ?_, tiny_tup (by simp only [List.length_append, List.length_cons, List.length_nil, tl, dl]; omega) fun y hy => ?_⟩
        · have : (((zerosD tts.length).take i ++ [d]) ++ (zerosD tts.length).drop (i + 1)).getD i .none = d := by
            rw [List.getD_eq_getElem?_getD, List.append_assoc, List.getElem?_append, if_neg (by omega), tl, Nat.sub_self]
            rfl
          rw [this]
          exact dd.1
        · rcases List.mem_append.mp hy with hy | hy
          · rcases List.mem_append.mp hy with hy | hy
            · exact zt y (List.mem_of_mem_take hy)
            · rw [List.mem_singleton.mp hy]
              exact dd.2
          · exact zt y (List.mem_of_mem_drop hy)
    · obtain ⟨sl, so⟩ := hs
      have sl : s.length = 15 := by simpa using sl
      rw [sl]
      refine ⟨by omega, ?_⟩
      refine cup_take_q hp (by omega) (by decide) (by decide) _ fun t xs t0 t1 hp => ?_
      walk_at "q"
      refine pick_mem t0 (by rw [List.length_append, sl]; simpa using t1) fun d hd => hK _ _ ?_ (hp.mono (by omega))
      rcases List.mem_append.mp hd with hd | hd
      · exact so d hd
      · rw [List.mem_singleton.mp hd]
        have e1 : DL.cutD (zerosD tts.length) (some 1) none = (zerosD tts.length).drop 1 := cut_d (k := 1)
        rw [e1]
        refine ⟨ch_len (by rw [List.length_drop, zeros_len]; omega), tiny_tup (by rw [List.length_drop, zeros_len]; omega) fun y hy => zt y (List.mem_of_mem_drop hy)⟩
/-- what are no sights -/
def OddSg (x : PyData) : Prop := isSights x = false ∧ Sm 2000 5 x
/-- what is no table of so many rows -/
def BadT (logs : Nat) (b : PyData) : Prop := (isTab b && isI (.int (logs : Int)) (tlen b)) = false ∧ Sm 60 2 b
theorem tab_in {xs : List PyData} {x : PyData} (h : x ∈ xs) (hx : isTRow x = false) : isTab (.tuple xs) = false := by
  have : xs.all isTRow = false := by
    rw [Bool.eq_false_iff]
    intro z
    rw [List.all_eq_true] at z
    rw [z x h] at hx
    cases hx
  simp only [isTab, this, Bool.and_false, Bool.false_and]
theorem badT_in {logs : Nat} {xs : List PyData} {x : PyData} (h : x ∈ xs) (hx : isTRow x = false) (hs : Sm 60 2 (.tuple xs)) : BadT logs (.tuple xs) := ⟨by rw [tab_in h hx, Bool.false_and], hs⟩
theorem badT_len {logs : Nat} {xs : List PyData} (h : xs.length ≠ logs) (hs : Sm 60 2 (.tuple xs)) : BadT logs (.tuple xs) := ⟨by
  have : isI (.int (logs : Int)) (tlen (.tuple xs)) = false := by
    show decide ((logs : Int) = (xs.length : Int)) = false
    exact decide_eq_false (by omega)
  rw [this, Bool.and_false], hs⟩
theorem row_in {xs : List PyData} {x : PyData} (h : x ∈ xs) (hx : isBoo x = false) : isTRow (.tuple xs) = false := by
  have : xs.all isBoo = false := by
    rw [Bool.eq_false_iff]
    intro z
    rw [List.all_eq_true] at z
    rw [z x h] at hx
    cases hx
  simp only [isTRow, this, Bool.and_false]
theorem row_long {xs : List PyData} (h : 4 < xs.length) : isTRow (.tuple xs) = false := by
  simp only [isTRow, decide_eq_false (show ¬ xs.length ≤ 4 by omega), Bool.and_false, Bool.false_and]
theorem sg_not {a b : PyData} {ts : List PyData} (h : b ∈ ts) (hb : (isTab b && isI a (tlen b)) = false) : isSights (.tuple [a, .tuple ts]) = false := by
  have : (ts.all fun t => isTab t && isI a (tlen t)) = false := by
    rw [Bool.eq_false_iff]
    intro z
    rw [List.all_eq_true] at z
    rw [z b h] at hb
    cases hb
  simp only [isSights, this, Bool.and_false]
/-- sights with such a table are none -/
theorem sg_bad {logs : Nat} {ts : List PyData} {b : PyData} (h : b ∈ ts) (hb : BadT logs b) : isSights (.tuple [.int (logs : Int), .tuple ts]) = false := by
  have : (ts.all fun t => isTab t && isI (.int (logs : Int)) (tlen t)) = false := by
    rw [Bool.eq_false_iff]
    intro z
    rw [List.all_eq_true] at z
    have := hb.1
    rw [z b h] at this
    cases this
  simp only [isSights, this, Bool.and_false]
theorem sg_num {a : PyData} {ts : List PyData} (h : isIn a 1 4 = false) : isSights (.tuple [a, .tuple ts]) = false := by simp only [isSights, h, Bool.false_and]
theorem sg_many {a : PyData} {ts : List PyData} (h : 7 < ts.length) : isSights (.tuple [a, .tuple ts]) = false := by
  simp only [isSights, decide_eq_false (show ¬ ts.length ≤ 7 by omega), Bool.and_false, Bool.false_and]
theorem tab_smK {many : Nat} {bss : List (List Bool)} (tb : TbOk many bss) : Sm 60 2 (tabD bss) := (Sm.tup (n := 4) (b := 8) (k := 1) (by rw [List.length_map]; exact tb.2.1) fun x hx => by
  obtain ⟨bs, hb, rfl⟩ := List.mem_map.mp hx
  have hl := tb.2.2.2.2 bs hb
  have := tb.2.2.2.1
  exact (Sm.tup (n := 4) (b := 0) (k := 0) (by rw [List.length_map]; omega) fun y hy => by
    obtain ⟨b, _, rfl⟩ := List.mem_map.mp hy
    exact Sm.bool _ _).mono).mono
theorem law_no_sights_q {logs : Nat} {tts : List (List (List Bool))} (ok : SgOk logs tts) {m : Int} {xs : List PyData} (hp : CupOk m xs) (hm : m ≤ 10 ^ 4) (K : PyData → List PyData → Prop) (hK : ∀ x xs', OddSg x → CupOk (m + 50) xs' → K x xs') : q_law_no_sights xs (sgD logs tts) K := by
  have n1 := ok.n1
  have l0 := ok.l0
  have l1 := ok.l1
  unfold q_law_no_sights
  rw [sgD]
  walk_at "q"
  refine law_table_q hp (by omega) l0 l1 _ fun other xs hto hp => ?_
  have osm := hto.sm l1
  obtain ⟨many, bss, rfl, tb, hbl⟩ := hto.tb l0 l1
  obtain ⟨row, hrow⟩ : ∃ row, bss[0]? = some row := ⟨_, List.getElem?_eq_getElem (by omega)⟩
  have rl : row.length = many := tb.2.2.2.2 _ (List.mem_of_getElem? hrow)
  have m0 := tb.2.2.1
  have m1 := tb.2.2.2.1
  unfold tabD
  walk_at "q"
  refine log_pick (k := 0) hrow ?_
  unfold rowD1
  walk_at "q"
  have tsl : (tts.map tabD).length ≤ 7 := by rw [List.length_map]; exact n1
  have tss : ∀ t ∈ tts.map tabD, Sm 60 2 t := fun t ht => by
    obtain ⟨b, hb, rfl⟩ := List.mem_map.mp ht
    obtain ⟨hl, many, tb⟩ := ok.tb b hb
    exact tab_smK tb
  have tsm : Sm 430 3 (.tuple (tts.map tabD)) := (Sm.tup (n := 7) (b := 60) (k := 2) tsl tss).mono
  have rsl : (bss.map rowD1).length = logs := by rw [List.length_map]; exact hbl
  have rss : ∀ r ∈ bss.map rowD1, Sm 8 1 r := fun r hr => by
    obtain ⟨b, hb, rfl⟩ := List.mem_map.mp hr
    have := tb.2.2.2.2 b hb
    exact (Sm.tup (n := 4) (b := 0) (k := 0) (by rw [List.length_map]; omega) fun y hy => by
      obtain ⟨c, _, rfl⟩ := List.mem_map.mp hy
      exact Sm.bool _ _).mono
  have bl : (row.map PyData.bool).length = many := by rw [List.length_map]; exact rl
  have bb : ∀ x ∈ row.map PyData.bool, ∃ c, x = .bool c := fun x hx => by
    obtain ⟨c, _, rfl⟩ := List.mem_map.mp hx
    exact ⟨c, rfl⟩
  have rmem : PyData.tuple (row.map .bool) ∈ bss.map rowD1 := List.mem_map.mpr ⟨row, List.mem_of_getElem? hrow, rfl⟩
  have e4 : (List.replicate (Int.toNat 4) [PyData.bool true]).flatten = [.bool true, .bool true, .bool true, .bool true] := rfl
  rw [e4]
  have ets : (tts.map fun bss => PyData.tuple (bss.map fun bs => PyData.tuple (bs.map .bool))) = tts.map tabD := rfl
  have ers : (bss.map fun bs => PyData.tuple (bs.map .bool)) = bss.map rowD1 := rfl
  have osm : Sm 60 2 (.tuple (bss.map rowD1)) := osm
  have otab : isTab (.tuple (bss.map rowD1)) = true := tb.tab
  rw [ets, ers]
  generalize tts.map tabD = ts at tsl tss tsm ⊢
  generalize bss.map rowD1 = rs at rsl rss rmem osm otab ⊢
  have c6 : (DL.cutD ts none (some 6)).length ≤ 7 := Nat.le_trans cut_len tsl
  have cr : (DL.cutD (row.map PyData.bool) (some 1) none).length ≤ 4 := Nat.le_trans cut_len (by omega)
  refine ⟨⟨by simp, by decide, by decide, by simp⟩, by decide, by omega, by simp, by omega, by simp, by simp, by omega, ⟨by simp, by decide, by decide, by simp⟩, by simp; omega, ⟨by simp, by omega, by omega, by simp⟩, ⟨by simp, by omega, by omega, by simp⟩, ⟨by simp, by decide, by decide, by simp⟩, by simp; omega, by omega, by omega, ?_⟩
  refine pick_mem (by decide) (by rw [bl]; omega) fun t33 ht33 => ?_
  obtain ⟨c33, rfl⟩ := bb t33 ht33
  have sl : ∀ {i : Int}, 0 ≤ i → i ≤ 10 → Sm 488 3 (.int i) := fun h0 h1 => Sm.int' (by omega) (by omega)
  have base : ∀ x ∈ [PyData.tuple [.int (logs : Int), .tuple (List.replicate (Int.toNat 8) [PyData.tuple rs]).flatten], .tuple [.int ((logs : Int) % 4 + 1), .tuple (.tuple rs :: DL.cutD ts none (some 6))], .tuple [.int 0, .tuple ts], .tuple [.int 5, .tuple ts], .tuple [.bool true, .tuple ts], .none,
      .tuple [.int (logs : Int), .list ts], .list [.int (logs : Int), .tuple ts], .tuple [.int (logs : Int)], .tuple [.int (logs : Int), .tuple ts, .int 0], .tuple [.tuple ts, .int (logs : Int)], .tuple [], .tuple [.str (shInt (logs : Int)), .tuple ts], .tuple [.int (logs : Int), .none], .dict [], .int 0, .tuple [.int (-1), .tuple []]], OddSg x := by
    have tsm3 : Sm 488 3 (.tuple ts) := tsm.mono
    have tsl3 : Sm 488 3 (.list ts) := (Sm.lst (n := 7) (b := 60) (k := 2) tsl tss).mono
    have lg : Sm 488 3 (.int (logs : Int)) := sl (by omega) (by omega)
    have t2 : ∀ {a b : PyData}, Sm 488 3 a → Sm 488 3 b → Sm 2000 5 (.tuple [a, b]) := fun ha hb => (Sm.tup (n := 3) (b := 488) (k := 3) (by simp) fun y hy => by
      simp only [List.mem_cons, List.not_mem_nil, or_false] at hy
      rcases hy with rfl | rfl <;> assumption).mono
    have t1 : ∀ {a : PyData}, Sm 488 3 a → Sm 2000 5 (.tuple [a]) := fun ha => (Sm.tup (n := 3) (b := 488) (k := 3) (by simp) fun y hy => by rw [List.mem_singleton.mp hy]; exact ha).mono
    intro x hx
    simp only [List.mem_cons, List.not_mem_nil, or_false] at hx
    rcases hx with rfl | rfl | rfl | rfl | rfl | rfl | rfl | rfl | rfl | rfl | rfl | rfl | rfl | rfl | rfl | rfl | rfl
    · refine ⟨sg_many (by simp), t2 lg ((Sm.tup (n := 8) (b := 60) (k := 2) (by simp) fun y hy => ?_).mono)⟩
      simp only [List.mem_flatten, List.mem_replicate] at hy
      obtain ⟨l, ⟨_, rfl⟩, hy⟩ := hy
      rw [List.mem_singleton.mp hy]
      exact osm
    · refine ⟨sg_not (b := .tuple rs) (List.mem_cons_self ..) ?_, t2 (sl (by omega) (by omega)) ((Sm.tup (n := 8) (b := 60) (k := 2) (by rw [List.length_cons]; omega) fun y hy => ?_).mono)⟩
      · have : isI (.int ((logs : Int) % 4 + 1)) (tlen (.tuple rs)) = false := by
          show decide ((logs : Int) % 4 + 1 = (rs.length : Int)) = false
          exact decide_eq_false (by omega)
        rw [this, Bool.and_false]
      · rcases List.mem_cons.mp hy with rfl | hy
        · exact osm
        · exact tss y (cut_mem hy)
    · exact ⟨sg_num rfl, t2 (sl (by decide) (by decide)) tsm3⟩
    · exact ⟨sg_num rfl, t2 (sl (by decide) (by decide)) tsm3⟩
    · exact ⟨sg_num rfl, t2 (Sm.bool _ _) tsm3⟩
    · exact ⟨rfl, Sm.none _ _⟩
    · exact ⟨rfl, t2 lg tsl3⟩
    · exact ⟨rfl, (Sm.lst (n := 3) (b := 488) (k := 3) (by simp) fun y hy => by
        simp only [List.mem_cons, List.not_mem_nil, or_false] at hy
        rcases hy with rfl | rfl <;> assumption).mono⟩
    · exact ⟨rfl, t1 lg⟩
    · exact ⟨rfl, (Sm.tup (n := 3) (b := 488) (k := 3) (by simp) fun y hy => by
        simp only [List.mem_cons, List.not_mem_nil, or_false] at hy
        rcases hy with rfl | rfl | rfl
        · exact lg
        · exact tsm3
        · exact sl (by decide) (by decide)).mono⟩
    · exact ⟨rfl, t2 tsm3 lg⟩
    · exact ⟨rfl, (Sm.tup (n := 0) (b := 0) (k := 0) (by simp) (by simp)).mono⟩
    · exact ⟨sg_num rfl, t2 ((sm_str (by omega) 3).mono) tsm3⟩
    · exact ⟨rfl, t2 lg (Sm.none _ _)⟩
    · exact ⟨rfl, Sm.dict0 _ _⟩
    · exact ⟨rfl, (sl (by decide) (by decide)).mono⟩
    · exact ⟨sg_num rfl, t2 (Sm.int' (by decide) (by decide)) ((Sm.tup (n := 0) (b := 0) (k := 0) (by simp) (by simp)).mono)⟩
  have bads : ∀ x ∈ [PyData.tuple (DL.cutD rs (some 1) none), .tuple (rs ++ [.tuple (row.map .bool)]), .list rs, .none, .tuple (List.replicate (logs : Int).toNat [PyData.tuple (row.map .bool ++ [.bool true, .bool true, .bool true, .bool true])]).flatten, .tuple (List.replicate (logs : Int).toNat [PyData.tuple [.int 1]]).flatten], BadT logs x := by
    have r10 : ∀ r ∈ rs, Sm 10 1 r := fun r hr => (rss r hr).mono
    have tt : ∀ {xs : List PyData}, xs.length ≤ 5 → (∀ r ∈ xs, Sm 10 1 r) → Sm 60 2 (.tuple xs) := fun hl h => (Sm.tup (n := 5) (b := 10) (k := 1) hl h).mono
    intro x hx
    simp only [List.mem_cons, List.not_mem_nil, or_false] at hx
    rcases hx with rfl | rfl | rfl | rfl | rfl | rfl
    · have e1 : DL.cutD rs (some 1) none = rs.drop 1 := cut_d (k := 1)
      rw [e1]
      exact badT_len (by rw [List.length_drop]; omega) (tt (by rw [List.length_drop]; omega) fun r hr => r10 r (List.mem_of_mem_drop hr))
    · exact badT_len (by simp; omega) (tt (by simp; omega) fun r hr => by
        rcases List.mem_append.mp hr with hr | hr
        · exact r10 r hr
        · rw [List.mem_singleton.mp hr]; exact r10 _ rmem)
    · exact ⟨rfl, (Sm.lst (n := 5) (b := 10) (k := 1) (by omega) r10).mono⟩
    · exact ⟨rfl, Sm.none _ _⟩
    · have hx : ∀ y ∈ (List.replicate (logs : Int).toNat [PyData.tuple (row.map .bool ++ [.bool true, .bool true, .bool true, .bool true])]).flatten, y = PyData.tuple (row.map .bool ++ [.bool true, .bool true, .bool true, .bool true]) := fun y hy => by
        simp only [List.mem_flatten, List.mem_replicate] at hy
        obtain ⟨l, ⟨_, rfl⟩, hy⟩ := hy
        exact List.mem_singleton.mp hy
      refine badT_in (x := PyData.tuple (row.map .bool ++ [.bool true, .bool true, .bool true, .bool true])) ?_ (row_long (by simp; omega)) (tt (by simp; omega) fun r hr => ?_)
      · simp only [List.mem_flatten, List.mem_replicate]
        exact ⟨_, ⟨by omega, rfl⟩, List.mem_singleton.mpr rfl⟩
      · rw [hx r hr]
        exact (Sm.tup (n := 9) (b := 0) (k := 0) (by simp; omega) fun y hy => by
          rcases List.mem_append.mp hy with hy | hy
          · obtain ⟨c, rfl⟩ := bb y hy
            exact Sm.bool _ _
          · simp only [List.mem_cons, List.not_mem_nil, or_false, or_self] at hy
            subst hy
            exact Sm.bool _ _).mono
    · refine badT_in (x := PyData.tuple [.int 1]) ?_ rfl (tt (by simp; omega) fun r hr => ?_)
      · simp only [List.mem_flatten, List.mem_replicate]
        exact ⟨_, ⟨by omega, rfl⟩, List.mem_singleton.mpr rfl⟩
      · simp only [List.mem_flatten, List.mem_replicate] at hr
        obtain ⟨l, ⟨_, rfl⟩, hr⟩ := hr
        rw [List.mem_singleton.mp hr]
        exact (Sm.tup (n := 1) (b := 0) (k := 0) (by simp) fun y hy => by rw [List.mem_singleton.mp hy]; exact Sm.int' (by decide) (by decide)).mono
  have l17 : [PyData.tuple [.int (logs : Int), .tuple (List.replicate (Int.toNat 8) [PyData.tuple rs]).flatten], .tuple [.int ((logs : Int) % 4 + 1), .tuple (.tuple rs :: DL.cutD ts none (some 6))], .tuple [.int 0, .tuple ts], .tuple [.int 5, .tuple ts], .tuple [.bool true, .tuple ts], .none,
      .tuple [.int (logs : Int), .list ts], .list [.int (logs : Int), .tuple ts], .tuple [.int (logs : Int)], .tuple [.int (logs : Int), .tuple ts, .int 0], .tuple [.tuple ts, .int (logs : Int)], .tuple [], .tuple [.str (shInt (logs : Int)), .tuple ts], .tuple [.int (logs : Int), .none], .dict [], .int 0, .tuple [.int (-1), .tuple []]].length = 17 := rfl
  generalize [PyData.tuple [.int (logs : Int), .tuple (List.replicate (Int.toNat 8) [PyData.tuple rs]).flatten], .tuple [.int ((logs : Int) % 4 + 1), .tuple (.tuple rs :: DL.cutD ts none (some 6))], .tuple [.int 0, .tuple ts], .tuple [.int 5, .tuple ts], .tuple [.bool true, .tuple ts], .none,
      .tuple [.int (logs : Int), .list ts], .list [.int (logs : Int), .tuple ts], .tuple [.int (logs : Int)], .tuple [.int (logs : Int), .tuple ts, .int 0], .tuple [.tuple ts, .int (logs : Int)], .tuple [], .tuple [.str (shInt (logs : Int)), .tuple ts], .tuple [.int (logs : Int), .none], .dict [], .int 0, .tuple [.int (-1), .tuple []]] = b17 at base l17 ⊢
  refine qFor_ind (fun j s => s.length = 6 + j ∧ ∀ x ∈ s, BadT logs x) ⟨rfl, bads⟩ (fun j d s nx hd hs hnx => ?_) fun s hs => ?_
  · obtain ⟨hl, hs⟩ := hs
    have hj := (List.getElem?_eq_some_iff.mp hd).1
    have hj : j < 6 := by simpa using hj
    have hd := List.mem_of_getElem? hd
    have dd : isTRow d = false ∧ Sm 10 1 d := by
      simp only [List.mem_cons, List.not_mem_nil, or_false] at hd
      have cb : ∀ y ∈ DL.cutD (row.map PyData.bool) (some 1) none, Sm 0 0 y := fun y hy => by
        obtain ⟨c, rfl⟩ := bb y (cut_mem hy)
        exact Sm.bool _ _
      rcases hd with rfl | rfl | rfl | rfl | rfl | rfl
      · refine ⟨row_long (by simp; omega), (Sm.tup (n := 9) (b := 0) (k := 0) (by simp; omega) fun y hy => ?_).mono⟩
        rcases List.mem_append.mp hy with hy | hy
        · obtain ⟨c, rfl⟩ := bb y hy
          exact Sm.bool _ _
        · simp only [List.mem_cons, List.not_mem_nil, or_false, or_self] at hy
          subst hy
          exact Sm.bool _ _
      · refine ⟨row_in (List.mem_cons_self ..) rfl, (Sm.tup (n := 5) (b := 0) (k := 0) (by rw [List.length_cons]; omega) fun y hy => ?_).mono⟩
        rcases List.mem_cons.mp hy with rfl | hy
        · exact Sm.int' (by decide) (by decide)
        · exact cb y hy
      · exact ⟨rfl, (Sm.lst (n := 5) (b := 0) (k := 0) (by omega) fun y hy => by
          obtain ⟨c, rfl⟩ := bb y hy
          exact Sm.bool _ _).mono⟩
      · refine ⟨row_in (List.mem_cons_self ..) rfl, (Sm.tup (n := 5) (b := 0) (k := 0) (by rw [List.length_cons]; omega) fun y hy => ?_).mono⟩
        rcases List.mem_cons.mp hy with rfl | hy
        · exact Sm.none _ _
        · exact cb y hy
      · exact ⟨rfl, (Sm.tup (n := 0) (b := 0) (k := 0) (by simp) (by simp)).mono⟩
      · exact ⟨rfl, Sm.bool _ _⟩
    unfold qb_law_no_sights_1
    walk_at "q"
    have cl : (DL.cutD rs none (some (-1))).length ≤ 4 := Nat.le_trans cut_len (by omega)
    refine ⟨by omega, by omega, hnx _ ⟨by simp [hl]; omega, fun x hx => ?_⟩⟩
    rcases List.mem_append.mp hx with hx | hx
    · exact hs x hx
    · rw [List.mem_singleton.mp hx]
      refine badT_in (x := d) (by simp) dd.1 ((Sm.tup (n := 5) (b := 10) (k := 1) (by simp; omega) fun y hy => ?_).mono)
      rcases List.mem_append.mp hy with hy | hy
      · exact (rss y (cut_mem hy)).mono
      · rw [List.mem_singleton.mp hy]; exact dd.2
  · obtain ⟨hl, hs⟩ := hs
    have hl : s.length = 12 := by simpa using hl
    refine cup_take_q hp (by omega) (by omega) (by omega) _ fun at_ xs a0 a1 hp => ?_
    obtain ⟨at', rfl⟩ : ∃ k : Nat, at_ = (k : Int) := ⟨at_.toNat, by omega⟩
    refine qFor_ind (fun j z => z.length = 17 + j ∧ ∀ x ∈ z, OddSg x) ⟨l17, base⟩ (fun j d z nx hd hz hnx => ?_) fun z hz => ?_
    · obtain ⟨zl, hz⟩ := hz
      have hj := (List.getElem?_eq_some_iff.mp hd).1
      have bd := hs d (List.mem_of_getElem? hd)
      unfold qb_law_no_sights_2
      walk_at "q"
      have k1 : (DL.cutD ts none (some (at' : Int))).length ≤ 7 := Nat.le_trans cut_len tsl
      have k2 : (DL.cutD ts (some (at' : Int)) (some 6)).length ≤ 7 := Nat.le_trans cut_len tsl
      refine ⟨by omega, by omega, by omega, hnx _ ⟨by simp [zl]; omega, fun x hx => ?_⟩⟩
      rcases List.mem_append.mp hx with hx | hx
      · exact hz x hx
      · rw [List.mem_singleton.mp hx]
        refine ⟨sg_bad (b := d) (by simp) bd, (Sm.tup (n := 2) (b := 930) (k := 3) (by simp) fun y hy => ?_).mono⟩
        simp only [List.mem_cons, List.not_mem_nil, or_false] at hy
        rcases hy with rfl | rfl
        · exact Sm.int' (by omega) (by omega)
        · refine (Sm.tup (n := 15) (b := 60) (k := 2) (by simp only [List.length_append, List.length_cons, List.length_nil]; omega) fun y hy => ?_).mono
          rcases List.mem_append.mp hy with hy | hy
          · rcases List.mem_append.mp hy with hy | hy
            · exact tss y (cut_mem hy)
            · rw [List.mem_singleton.mp hy]; exact bd.2
          · exact tss y (cut_mem hy)
    · obtain ⟨zl, hz⟩ := hz
      rw [hl] at zl
      refine cup_take_q hp (by omega) (by decide) (by decide) _ fun t xs t0 t1 hp => ?_
      walk_at "q"
      exact pick_mem t0 (by rw [zl]; simpa using t1) fun d hd => hK _ _ (hz d hd) (hp.mono (by omega))
/-- the i-th of what is handed: good ones ahead of w, an odd one there, either behind it -/
def Mix (g o : List PyData) (w : Nat) (h : List PyData) : Prop := h.length = 3 ∧ ∀ i, i < 3 → (i < w → h.getD i .none = g.getD i .none) ∧ (i = w → h.getD i .none = o.getD i .none) ∧ (h.getD i .none = g.getD i .none ∨ h.getD i .none = o.getD i .none)
theorem getD_set {h : List PyData} {i j : Nat} {x : PyData} (hi : i < h.length) : (h.set i x).getD j .none = if i = j then x else h.getD j .none := by
  rw [List.getD_eq_getElem?_getD, List.getElem?_set]
  by_cases e : i = j
  · subst e
    simp [hi]
  · simp [e, List.getD_eq_getElem?_getD]
theorem st_at {xs : List PyData} {a : Nat} {d : PyData} {K : List PyData → Prop} (h : a < xs.length) (k : K (xs.set a d)) : stQ xs (.int (a : Int)) d K := by
  show (match ixN xs.length (a : Int) with | some j => K (xs.set j d) | none => False)
  rw [ixN_in (by omega) (by omega)]
  show K (xs.set (a : Int).toNat d)
  rw [show ((a : Nat) : Int).toNat = a by omega]
  exact k
theorem right_loop {door : PyData} {g o : List PyData} {ss : List Str} (gl : g.length = 3) (ol : o.length = 3) (sl : ss.length ≤ 3) (gs : ∀ x ∈ g, Sm 2000 5 x) (os : ∀ x ∈ o, Sm 2000 5 x)
    (H : ∀ w : Nat, w < ss.length → ∀ h : List PyData, Mix g o w h → ∀ K : PyData → Prop, K (.str (ss.getD w "")) → q_law_asked door (.list h) K)
    {m : Int} {xs : List PyData} (hp : CupOk m xs) (hm : m ≤ 10 ^ 5) (K : PyData → List PyData → Prop) (Kf : List PyData → Prop) (hK : ∀ xs', CupOk (m + 9) xs' → Kf xs') :
    qFor (qb_law_right_2 K) (door, .list g, o, .list (ss.map .str)) (rangeD 0 ss.length) xs Kf := by
  refine qFor_range (fun k s => CupOk (m + 3 * k) s) (hp.mono (by omega)) (fun w xs nx hw hp hnx => ?_) fun s hs => hK _ (hs.mono (by omega))
  rw [Int.zero_add]
  unfold qb_law_right_2
  walk_at "q"
  refine ⟨by omega, ?_⟩
  try rw [show ((ss.length : Nat) : Int).toNat = ss.length by omega]
  refine qLc_ind (fun k acc s => CupOk (m + 3 * w + k) s ∧ acc.length ≤ k ∧ ∀ d ∈ acc, ∃ a : Nat, d = .int (a : Int) ∧ w < a ∧ a < 3) ⟨hp.mono (by omega), by simp, by simp⟩ (fun k acc s hk h => by have := h.2.1; rw [range_len] at hk; omega) (fun k d acc s sk yd hd h hsk hy => ?_) fun acc s h => ?_
  · obtain ⟨hp, al, ha⟩ := h
    obtain ⟨hk, rfl⟩ := range_get hd
    rw [Int.zero_add]
    unfold qb_law_right_3
    walk_at "j"
    refine jn_by2 (fun b xs => (b = true → w < k) ∧ CupOk (m + 3 * w + k + 1) xs) (fun J hJ => ?_) fun b xs ⟨hb, hp⟩ => ?_
    · refine bIf_d (fun h => ?_) fun h => hJ _ _ ⟨fun z => (by cases z), hp.mono (by omega)⟩
      refine cup_take_q hp (by omega) (by decide) (by decide) _ fun t xs t0 t1 hp => ?_
      walk_at "q"
      exact hJ _ _ ⟨fun _ => by omega, hp.mono (by omega)⟩
    · cases b with
      | true =>
        refine hy _ _ ⟨hp.mono (by omega), by rw [List.length_append]; simp only [List.length_cons, List.length_nil]; omega, fun d hd => ?_⟩
        rcases List.mem_append.mp hd with hd | hd
        · exact ha d hd
        · rw [List.mem_singleton.mp hd]
          exact ⟨k, rfl, hb rfl, by omega⟩
      | false => exact hsk _ ⟨hp.mono (by omega), by omega, ha⟩
  · obtain ⟨hp, al, ha⟩ := h
    rw [range_len] at hp al
    walk_at "q"
    refine ⟨by omega, ?_⟩
    refine qFor_ind (fun j h => h.length = 3 ∧ (∀ i, i < 3 → (i < w → h.getD i .none = g.getD i .none) ∧ (h.getD i .none = g.getD i .none ∨ h.getD i .none = o.getD i .none)) ∧ (0 < j → h.getD w .none = o.getD w .none))
      ⟨gl, fun i hi => ⟨fun _ => rfl, .inl rfl⟩, fun h => absurd h (by omega)⟩ (fun j d h nx2 hd hh hnx2 => ?_) fun h hh => ?_
    · obtain ⟨hl, h1, h2⟩ := hh
      obtain ⟨a, rfl, ha3, haw, ha0⟩ : ∃ a : Nat, d = .int (a : Int) ∧ a < 3 ∧ w ≤ a ∧ (0 < j → w < a) ∧ (j = 0 → a = w) := by
        cases j with
        | zero =>
          have : PyData.int (w : Int) = d := by simpa using hd
          exact ⟨w, this.symm, by omega, by omega, fun h => absurd h (by omega), fun _ => rfl⟩
        | succ j =>
          rw [List.getElem?_cons_succ] at hd
          obtain ⟨a, e, h3, h4⟩ := ha d (List.mem_of_getElem? hd)
          exact ⟨a, e, h4, by omega, fun _ => h3, fun z => absurd z (by omega)⟩
      have eo : o[a]? = some (o.getD a .none) := by rw [List.getD_eq_getElem?_getD, List.getElem?_eq_getElem (by omega), Option.getD_some]
      unfold qb_law_right_4
      walk_at "q"
      refine pick_at eo ?_
      refine st_at (by omega) (hnx2 _ ⟨by rw [List.length_set]; exact hl, fun i hi => ?_, fun _ => ?_⟩)
      · rw [getD_set (by omega)]
        by_cases e : a = i
        · subst e
          rw [if_pos rfl]
          exact ⟨fun z => absurd z (by omega), .inr rfl⟩
        · rw [if_neg e]
          exact h1 i hi
      · rw [getD_set (by omega)]
        by_cases e : a = w
        · subst e
          rw [if_pos rfl]
        · rw [if_neg e]
          refine h2 ?_
          cases j with
          | zero => exact absurd (ha0.2 rfl) e
          | succ j => omega
    · obtain ⟨hl, h1, h2⟩ := hh
      have h2 := h2 (by simp)
      have mix : Mix g o w h := ⟨hl, fun i hi => ⟨(h1 i hi).1, fun e => e ▸ h2, (h1 i hi).2⟩⟩
      have hsm : Sm 50000 40 (.list h) := (Sm.lst (n := 3) (b := 2000) (k := 5) (by omega) fun x hx => by
        obtain ⟨i, hi⟩ := List.mem_iff_getElem?.mp hx
        have hi3 := (List.getElem?_eq_some_iff.mp hi).1
        have e : h.getD i .none = x := by rw [List.getD_eq_getElem?_getD, hi, Option.getD_some]
        rcases (h1 i (by omega)).2 with z | z
        · rw [← e, z]
          rw [List.getD_eq_getElem?_getD, List.getElem?_eq_getElem (by omega), Option.getD_some]
          exact gs _ (List.getElem_mem _)
        · rw [← e, z]
          rw [List.getD_eq_getElem?_getD, List.getElem?_eq_getElem (by omega), Option.getD_some]
          exact os _ (List.getElem_mem _)).mono
      refine repr_q hsm ?_
      refine H w hw h mix _ ?_
      have es : (ss.map PyData.str)[w]? = some (.str (ss.getD w "")) := by
        rw [List.getElem?_map, List.getElem?_eq_getElem hw, List.getD_eq_getElem?_getD, List.getElem?_eq_getElem hw]
        rfl
      walk_at "q"
      refine pick_at es ?_
      walk_at "q"
      refine repr_q hsm ?_
      walk_at "q"
      exact hnx _ (hp.mono (by omega))
theorem mix3 {g0 g1 g2 o0 o1 o2 : PyData} {w : Nat} {h : List PyData} (hm : Mix [g0, g1, g2] [o0, o1, o2] w h) : ∃ h0 h1 h2, h = [h0, h1, h2] ∧ (0 < w → h0 = g0) ∧ (1 < w → h1 = g1) ∧ (0 = w → h0 = o0) ∧ (1 = w → h1 = o1) ∧ (2 = w → h2 = o2) ∧ (h2 = g2 ∨ h2 = o2) := by
  obtain ⟨hl, hi⟩ := hm
  match h, hl with
  | [h0, h1, h2], _ =>
    have a := hi 0 (by decide)
    have b := hi 1 (by decide)
    have c := hi 2 (by decide)
    exact ⟨h0, h1, h2, rfl, a.1, b.1, a.2.1, b.2.1, c.2.1, c.2.2⟩
theorem memI3 {d : Nat} {a b c : Int} : memD (.int (d : Int)) [.int a, .int b, .int c] = decide ((d : Int) = a ∨ (d : Int) = b ∨ (d : Int) = c) := by
  rw [show ([.int a, .int b, .int c] : List PyData) = ([a, b, c] : List Int).map .int from rfl, memI]
  exact decide_eq_decide.mpr (by simp)
theorem memI2 {d : Nat} {a b : Int} : memD (.int (d : Int)) [.int a, .int b] = decide ((d : Int) = a ∨ (d : Int) = b) := by
  rw [show ([.int a, .int b] : List PyData) = ([a, b] : List Int).map .int from rfl, memI]
  exact decide_eq_decide.mpr (by simp)
theorem Tiny.sm {x : PyData} (h : Tiny x) : Sm 2000 5 x := h.1.mono
theorem law_right_q {logs : Nat} {tts : List (List (List Bool))} (ok : SgOk logs tts) {m : Int} {xs : List PyData} (hp : CupOk m xs) (hm : m ≤ 9000) {d : Nat} (hd : d ≤ 8) (K : PyData → List PyData → Prop) (hK : ∀ xs', CupOk (m + 70) xs' → K (.bool true) xs') : q_law_right xs (sgD logs tts) (.int (d : Int)) K := by
  have n1 := ok.n1
  have l0 := ok.l0
  have l1 := ok.l1
  have sgm : Sm 2000 5 (sgD logs tts) := (Sm.tup (n := 2) (b := 500) (k := 3) (by simp) fun x hx => by
    simp only [List.mem_cons, List.not_mem_nil, or_false] at hx
    rcases hx with rfl | rfl
    · exact Sm.int' (by omega) (by omega)
    · exact (Sm.tup (n := 7) (b := 60) (k := 2) (by rw [List.length_map]; exact n1) fun y hy => by
        obtain ⟨b, hb, rfl⟩ := List.mem_map.mp hy
        obtain ⟨_, many, tb⟩ := ok.tb b hb
        exact tab_smK tb).mono).mono
  have ztiny : Tiny (.tuple (zerosD tts.length)) := tiny_tup (by rw [zeros_len]; omega) (zeros_tiny n1)
  unfold q_law_right
  rw [sgD]
  walk_at "q"
  rw [← sgD]
  refine qLc_map (fun _ => .int 0) (by rw [List.length_map]; omega) (fun d hd sk yd hy => by unfold qb_law_right_1; exact hy) ?_
  have ez : (tts.map tabD).map (fun _ => PyData.int 0) = zerosD tts.length := by
    unfold zerosD
    exact List.eq_replicate_iff.mpr ⟨by simp, fun y hy => by
      obtain ⟨_, _, rfl⟩ := List.mem_map.mp hy
      rfl⟩
  rw [ez]
  walk_at "j"
  refine law_no_sights_q ok hp (by omega) _ fun o0 xs h0 hp => ?_
  refine law_no_log_q l0 l1 hp (by omega) _ fun lg xs hlg tlg hp => ?_
  refine law_no_columns_q ok hp (by omega) _ fun ch xs hch hp => ?_
  walk_at "j"
  rw [memI3]
  refine ⟨sh_ints (d : Int) [1, 2, 3], ?_⟩
  have z0 : Sm 2000 5 (.int 0) := Sm.int' (by decide) (by decide)
  have gA : ∀ x ∈ [sgD logs tts, .int 0, .tuple (zerosD tts.length)], Sm 2000 5 x := fun x hx => by
    simp only [List.mem_cons, List.not_mem_nil, or_false] at hx
    rcases hx with rfl | rfl | rfl
    · exact sgm
    · exact z0
    · exact ztiny.sm
  have oA : ∀ x ∈ [o0, lg, ch], Sm 2000 5 x := fun x hx => by
    simp only [List.mem_cons, List.not_mem_nil, or_false] at hx
    rcases hx with rfl | rfl | rfl
    · exact h0.2
    · exact tlg.sm
    · exact hch.2.sm
  have zk : ∀ {K : PyData → Prop}, K .none → d = 0 → q_law_asked (.int (d : Int)) (.list [sgD logs tts, .int 0, .tuple (zerosD tts.length)]) K := fun {K} h e => by
    subst e
    rw [zeros_map]
    exact asked_none0 ok (k := 0) (by omega) (zeros_ok ok) h
  refine bIf_d (fun h => ?_) fun h => ?_
  · have h1 : 1 ≤ d := by omega
    have h3 : d ≤ 3 := by omega
    refine law_no_set_q n1 hp (by omega) _ fun st xs hst hp => ?_
    walk_at "j"
    rw [memI2]
    refine ⟨sh_ints (d : Int) [4, 5], ?_⟩
    refine bIf_d (fun h => absurd h (by omega)) fun _ => bIf_d (fun h => absurd h (by omega)) fun _ => ⟨by decide, ?_⟩
    refine right_loop (ss := ["sights", "set"]) rfl rfl (by decide) ?_ ?_ (fun w hw h hm K hK => ?_) hp (by omega) K _ fun xs hp => ?_
    · intro x hx
      simp only [List.mem_cons, List.not_mem_nil, or_false] at hx
      rcases hx with rfl | rfl | rfl
      · exact sgm
      · exact (Sm.tup (n := 0) (b := 0) (k := 0) (by simp) (by simp)).mono
      · exact Sm.none _ _
    · intro x hx
      simp only [List.mem_cons, List.not_mem_nil, or_false] at hx
      rcases hx with rfl | rfl | rfl
      · exact h0.2
      · exact hst.2.sm
      · exact hch.2.sm
    · obtain ⟨a0, a1, a2, rfl, c1, c2, c3, c4, c5, c6⟩ := mix3 hm
      match w, hw with
      | 0, _ =>
        rw [c3 rfl]
        exact asked_sights hd h0.1 hK
      | 1, _ =>
        rw [c1 (by decide), c4 rfl]
        exact asked_set ok h1 h3 (Nat.le_trans hst.2.2 (by decide)) hst.1 hK
    · show q_law_asked (.int (d : Int)) (.list [sgD logs tts, setP (fun _ => false) 0, .none]) _
      have e : setP (fun _ => false) 0 = setP (fun _ => false) tts.length := by
        unfold setP setI
        rw [List.filter_eq_nil_iff.mpr (by simp), List.filter_eq_nil_iff.mpr (by simp)]
      rw [e]
      exact asked_noneS ok h1 h3 (hK _ (hp.mono (by omega)))
  · rw [memI2]
    refine ⟨sh_ints (d : Int) [4, 5], ?_⟩
    refine bIf_d (fun h45 => ?_) fun h45 => ?_
    · refine bIf_d (fun h => absurd h (by omega)) fun _ => ⟨by decide, ?_⟩
      have h4 : 4 ≤ d := by omega
      have h5 : d ≤ 5 := by omega
      refine right_loop (ss := ["sights", "number"]) rfl rfl (by decide) gA oA (fun w hw h hm K hK => ?_) hp (by omega) K _ fun xs hp => ?_
      · obtain ⟨a0, a1, a2, rfl, c1, c2, c3, c4, c5, c6⟩ := mix3 hm
        match w, hw with
        | 0, _ =>
          rw [c3 rfl]
          exact asked_sights hd h0.1 hK
        | 1, _ =>
          rw [c1 (by decide), c4 rfl]
          exact asked_by ok h4 h5 hlg hK
      · exact asked_noneB ok (k := 0) h4 h5 (by omega) (hK _ (hp.mono (by omega)))
    · refine bIf_d (fun h6 => ⟨by decide, ?_⟩) fun h6 => ⟨by decide, ?_⟩
      · have h6 : 6 ≤ d := by omega
        refine right_loop (ss := ["sights"]) rfl rfl (by decide) gA oA (fun w hw h hm K hK => ?_) hp (by omega) K _ fun xs hp => ?_
        · obtain ⟨a0, a1, a2, rfl, c1, c2, c3, c4, c5, c6⟩ := mix3 hm
          match w, hw with
          | 0, _ =>
            rw [c3 rfl]
            exact asked_sights hd h0.1 hK
        · exact asked_noneA ok h6 hd (hK _ (hp.mono (by omega)))
      · have d0 : d = 0 := by omega
        refine right_loop (ss := ["sights", "number", "number"]) rfl rfl (by decide) gA oA (fun w hw h hm K hK => ?_) hp (by omega) K _ fun xs hp => ?_
        · obtain ⟨a0, a1, a2, rfl, c1, c2, c3, c4, c5, c6⟩ := mix3 hm
          match w, hw with
          | 0, _ =>
            rw [c3 rfl]
            exact asked_sights hd h0.1 hK
          | 1, _ =>
            rw [c1 (by decide), c4 rfl]
            subst d0
            refine asked_log ok ?_ ?_ hK
            · rcases c6 with rfl | rfl
              · exact Nat.le_trans ztiny.2 (by decide)
              · exact Nat.le_trans hch.2.2 (by decide)
            · unfold isCh
              rw [hlg, Bool.false_and]
          | 2, _ =>
            rw [c1 (by decide), c2 (by decide), c5 rfl]
            subst d0
            exact asked_log ok (Nat.le_trans hch.2.2 (by decide)) hch.1 hK
        · exact zk (hK _ (hp.mono (by omega))) d0
theorem none_ok {logs : Nat} (h0 : 1 ≤ logs) (h1 : logs ≤ 4) : SgOk logs [] := ⟨h0, h1, by decide, fun bss hb => by simp at hb⟩
theorem lone_ok : SgOk 1 [[[true]]] := ⟨by decide, by decide, by decide, fun bss hb => by
  rw [List.mem_singleton.mp hb]
  exact ⟨rfl, 1, by decide, by decide, by decide, by decide, by decide⟩⟩
theorem the_law (ns : List Int) (hn : ns.length ≤ 63) (K : PyData → Prop) (hK : K (.bool true)) : q_law (.list (ns.map .int)) K := by
  unfold q_law
  walk_at "q"
  refine ⟨by split <;> split <;> omega, ?_⟩
  refine qFor_range (fun _ _ => True) trivial (fun k s nx hk _ hnx => ?_) fun _ _ => ?_
  · have hk : k ≤ 8 := by
      have : ∀ i : Int, i ≤ 6 → (if i > 1 then i else 1) ≤ 8 := fun i h => by split <;> omega
      have h2 := this (if (ns.length : Int) < 6 then (ns.length : Int) else 6) (by split <;> omega)
      omega
    unfold qb_law_1
    refine cup_pot_q ns _ (by omega) (by omega) _ fun xs hp => ?_
    walk_at "q"
    refine ⟨by decide, ?_⟩
    rw [show Int.toNat 3 = 3 from rfl]
    refine qFor_range (fun j s => CupOk (1100 * j) s) (by simpa using hp) (fun j xs nx2 hj hp hnx2 => ?_) fun _ _ => hnx _ trivial
    unfold qb_law_2
    refine sg_law_q (most := 7) hp (by omega) (by omega) _ fun logs tts xs ok hl hp => ?_
    walk_at "q"
    refine ⟨by decide, ?_⟩
    rw [show Int.toNat 9 = 9 from rfl]
    refine qFor_range (fun d s => CupOk (1100 * j + 410 + 70 * d) s) (hp.mono (by omega)) (fun d xs nx3 hd hp hnx3 => ?_) fun _ hp => hnx2 _ (hp.mono (by omega))
    rw [Int.zero_add]
    unfold qb_law_3
    refine law_right_q ok hp (by omega) (by omega) _ fun xs hp => ?_
    walk_at "q"
    exact hnx3 _ (hp.mono (by omega))
  · have ok1 : SgOk 1 [] := none_ok (by decide) (by decide)
    have step : ∀ {dr : PyData} {w : Str} {nx bk : Unit → Unit → Prop}, (∀ K : PyData → Prop, K (.str w) → q_law_asked dr (.list [sgD 1 [], .list [.int 0], .none]) K) → (∀ K : PyData → Prop, K (.str "sights") → q_law_asked dr (.list [.tuple [.int 5, .tuple []], .list [.int 0], .none]) K) → nx () () → qb_law_4 K (.tuple [dr, .str w]) () () nx bk := fun {dr w nx bk} h h5 hn => by
      unfold qb_law_4
      walk_at "q"
      refine h _ ?_
      walk_at "q"
      refine h5 _ ?_
      walk_at "q"
      exact hn
    have five : ∀ (d : Nat), d ≤ 8 → ∀ K : PyData → Prop, K (.str "sights") → q_law_asked (.int (d : Int)) (.list [.tuple [.int 5, .tuple []], .list [.int 0], .none]) K := fun d hd K h => asked_sights hd rfl h
    have nset : isSetB ([] : List (List (List Bool))).length (.list [.int 0]) = false := rfl
    have nlog : isIn (.list [.int 0]) 0 ((1 : Nat) - 1 : Int) = false := rfl
    have nch : isCh 1 [] (.list [.int 0]) .none = false := by
      unfold isCh
      rw [nlog, Bool.false_and]
    have a0 : ∀ K : PyData → Prop, K (.str "number") → q_law_asked (.int 0) (.list [sgD 1 [], .list [.int 0], .none]) K := fun K h => asked_log ok1 (by decide) nch h
    have a1 : ∀ d : Nat, 1 ≤ d → d ≤ 3 → ∀ K : PyData → Prop, K (.str "set") → q_law_asked (.int (d : Int)) (.list [sgD 1 [], .list [.int 0], .none]) K := fun d h1 h3 K h => asked_set ok1 h1 h3 (by decide) nset h
    have a4 : ∀ d : Nat, 4 ≤ d → d ≤ 5 → ∀ K : PyData → Prop, K (.str "number") → q_law_asked (.int (d : Int)) (.list [sgD 1 [], .list [.int 0], .none]) K := fun d h1 h3 K h => asked_by ok1 h1 h3 nlog h
    refine qFor_all (fun _ => True) trivial (fun d _ nx hd _ hnx => ?_) fun _ _ => ?_
    · simp only [List.mem_cons, List.not_mem_nil, or_false] at hd
      have hn := hnx () trivial
      rcases hd with rfl | rfl | rfl | rfl | rfl | rfl
      · exact step a0 (five 0 (by decide)) hn
      · exact step (a1 1 (by decide) (by decide)) (five 1 (by decide)) hn
      · exact step (a1 2 (by decide) (by decide)) (five 2 (by decide)) hn
      · exact step (a1 3 (by decide) (by decide)) (five 3 (by decide)) hn
      · exact step (a4 4 (by decide) (by decide)) (five 4 (by decide)) hn
      · exact step (a4 5 (by decide) (by decide)) (five 5 (by decide)) hn
    · have lone : ∀ {x : PyData} {nx bk : PyData → Unit → Prop}, (partsD x).length ≤ 100000 → isSetB 1 x = false → nx (sgD 1 [[[true]]]) () → qb_law_5 K x (sgD 1 [[[true]]]) () nx bk := fun {x nx bk} hx h hn => by
        unfold qb_law_5
        walk_at "q"
        refine qLc_map (fun _ => .str "set") (by simp) (fun d hd sk yd hy => ?_) ?_
        · unfold qb_law_6
          simp only [List.mem_cons, List.not_mem_nil, or_false] at hd
          rcases hd with rfl | rfl | rfl
          · exact asked_set (d := 1) lone_ok (by decide) (by decide) hx h hy
          · exact asked_set (d := 2) lone_ok (by decide) (by decide) hx h hy
          · exact asked_set (d := 3) lone_ok (by decide) (by decide) hx h hy
        · refine ⟨by decide, ?_⟩
          refine ne_same rfl (by decide +kernel) (by decide +kernel) ?_
          walk_at "q"
          exact hn
      refine qFor_all (fun _ => True) trivial (fun d _ nx hd _ hnx => ?_) fun _ _ => hK
      simp only [List.mem_cons, List.not_mem_nil, or_false] at hd
      rcases hd with rfl | rfl | rfl | rfl
      · exact lone (by decide) rfl (hnx _ trivial)
      · exact lone (by decide) rfl (hnx _ trivial)
      · exact lone (by decide) rfl (hnx _ trivial)
      · exact lone (by decide) rfl (hnx _ trivial)
abbrev prg : Program := PySem.Challenge.pw_prizelog_k28_sets_refused
def top (i : Nat) : Stmt := prg.main.body.getD i (.Pass ⟨0, 0, 0, 0⟩)
def fa : List He.Fa := [.free "isinstance", .free "int", .free "bool", .free "tuple", .free "len", .free "all", .free "zip", .free "enumerate", .free "range", .free "str", .free "sorted", .free "any", .free "abs", .free "ValueError", .free "list", .free "repr", .free "min", .free "max", .int "MOST_LOGS" 4, .int "MOST_SHIPS" 7, .glo "is_whole", .glo "is_number", .glo "is_row", .glo "is_table", .glo "are_sights", .glo "need_sights", .glo "need_set", .glo "need_log", .glo "is_choice", .glo "chosen", .glo "set_of", .glo "is_barred", .glo "bars_by", .glo "columns_by", .glo "may_be", .glo "are_bars", .glo "shows_set", .glo "sure_by", .glo "some_by", .glo "sets_by", .glo "all_sets", .glo "how_many", .glo "must", .glo "can", .glo "must_by", .glo "can_by", .glo "_law_pot", .glo "_law_take", .glo "_law_table", .glo "_law_sights", .glo "_law_sort", .glo "_law_no_sights", .glo "_law_no_set", .glo "_law_no_log", .glo "_law_no_columns", .glo "_law_asked", .glo "_law_right", .glo "law", .glo "NoLogs", .glo "NoChase", .glo "NoMiles", .glo "NoTable", .glo "NoSights", .glo "NoSet", .glo "NoNumber", .glo "NoSale", .glo "NoMan", .glo "NoCrew", .glo "NoScheme", .glo "NoHour", .glo "NoName", .glo "NoRoll", .glo "NoLog", .glo "NoPart", .glo "NoWeights", .glo "NoRow", .glo "NoText", .glo "NoChange", .glo "NoMoney", .glo "NoBalances", .glo "NoPrize", .glo "NoPage", .glo "NoPages", .glo "NoCrews", .glo "TooMany", .glo "PrizeError", .keep "is_whole", .keep "is_number", .keep "is_row", .keep "is_table", .keep "are_sights", .keep "need_sights", .keep "need_set", .keep "need_log", .keep "is_choice", .keep "chosen", .keep "set_of", .keep "is_barred", .keep "bars_by", .keep "columns_by", .keep "may_be", .keep "are_bars", .keep "shows_set", .keep "sure_by", .keep "some_by", .keep "sets_by", .keep "all_sets", .keep "how_many", .keep "must", .keep "can", .keep "must_by", .keep "can_by", .keep "_law_pot", .keep "_law_take", .keep "_law_table", .keep "_law_sights", .keep "_law_sort", .keep "_law_no_sights", .keep "_law_no_set", .keep "_law_no_log", .keep "_law_no_columns", .keep "_law_asked", .keep "_law_right", .keep "law"]
def dD (x : Str) (i : Nat) : He.FnD := ⟨(x, none), x, x, defArgs (top i), defBody (top i), defScope (top i)⟩
def dA (x y : Str) (i : Nat) : He.FnD := ⟨(x, none), y, y, defArgs (top i), defBody (top i), defScope (top i)⟩
def fn : List He.FnD := [dD "is_whole" 30, dD "is_number" 33, dD "is_row" 34, dD "is_table" 35, dD "are_sights" 38, dD "need_sights" 39, dD "need_set" 40, dD "need_log" 41, dD "is_choice" 42, dD "chosen" 43, dD "set_of" 44, dD "is_barred" 45, dD "bars_by" 46, dD "columns_by" 47, dD "may_be" 48, dD "are_bars" 49, dD "shows_set" 50, dD "sure_by" 51, dD "some_by" 52, dD "sets_by" 53, dD "all_sets" 54, dD "how_many" 55, dD "must" 56, dD "can" 57, dD "must_by" 58, dD "can_by" 59, dD "_law_pot" 61, dD "_law_take" 62, dD "_law_table" 63, dD "_law_sights" 64, dD "_law_sort" 65, dD "_law_no_sights" 66, dD "_law_no_set" 67, dD "_law_no_log" 68, dD "_law_no_columns" 69, dD "_law_asked" 70, dD "_law_right" 71, dD "law" 72]
def fx : List Fx := [.exc "NoSights", .exc "NoSet", .exc "NoNumber"]
abbrev Tp (K : PySem.W.Frag) (mg : Str → Option Value) : Prop := TopX fa fn fx K mg
section
variable {K : PySem.W.Frag} {mg : Str → Option Value}
theorem m_isinstance (T : Tp K mg) : mg "isinstance" = none := T.free "isinstance" 0
theorem m_int (T : Tp K mg) : mg "int" = none := T.free "int" 1
theorem m_bool (T : Tp K mg) : mg "bool" = none := T.free "bool" 2
theorem m_tuple (T : Tp K mg) : mg "tuple" = none := T.free "tuple" 3
theorem m_len (T : Tp K mg) : mg "len" = none := T.free "len" 4
theorem m_all (T : Tp K mg) : mg "all" = none := T.free "all" 5
theorem m_zip (T : Tp K mg) : mg "zip" = none := T.free "zip" 6
theorem m_enumerate (T : Tp K mg) : mg "enumerate" = none := T.free "enumerate" 7
theorem m_range (T : Tp K mg) : mg "range" = none := T.free "range" 8
theorem m_str (T : Tp K mg) : mg "str" = none := T.free "str" 9
theorem m_sorted (T : Tp K mg) : mg "sorted" = none := T.free "sorted" 10
theorem m_any (T : Tp K mg) : mg "any" = none := T.free "any" 11
theorem m_abs (T : Tp K mg) : mg "abs" = none := T.free "abs" 12
theorem m_ValueError (T : Tp K mg) : mg "ValueError" = none := T.free "ValueError" 13
theorem m_list (T : Tp K mg) : mg "list" = none := T.free "list" 14
theorem m_repr (T : Tp K mg) : mg "repr" = none := T.free "repr" 15
theorem m_min (T : Tp K mg) : mg "min" = none := T.free "min" 16
theorem m_max (T : Tp K mg) : mg "max" = none := T.free "max" 17
theorem c_MOST_LOGS (T : Tp K mg) : ∃ t, mg "MOST_LOGS" = some (.int 4 t) := T.int "MOST_LOGS" 4 18
theorem c_MOST_SHIPS (T : Tp K mg) : ∃ t, mg "MOST_SHIPS" = some (.int 7 t) := T.int "MOST_SHIPS" 7 19
theorem ce_NoSights (T : Tp K mg) : CtE K mg "NoSights" := T.exc "NoSights" 0
theorem ce_NoSet (T : Tp K mg) : CtE K mg "NoSet" := T.exc "NoSet" 1
theorem ce_NoNumber (T : Tp K mg) : CtE K mg "NoNumber" := T.exc "NoNumber" 2
theorem gl_NoLogs (T : Tp K mg) : mg "NoLogs" = some (.ref (He.ga K "NoLogs")) := T.glo "NoLogs" 58
theorem gl_NoChase (T : Tp K mg) : mg "NoChase" = some (.ref (He.ga K "NoChase")) := T.glo "NoChase" 59
theorem gl_NoMiles (T : Tp K mg) : mg "NoMiles" = some (.ref (He.ga K "NoMiles")) := T.glo "NoMiles" 60
theorem gl_NoTable (T : Tp K mg) : mg "NoTable" = some (.ref (He.ga K "NoTable")) := T.glo "NoTable" 61
theorem gl_NoSights (T : Tp K mg) : mg "NoSights" = some (.ref (He.ga K "NoSights")) := T.glo "NoSights" 62
theorem gl_NoSet (T : Tp K mg) : mg "NoSet" = some (.ref (He.ga K "NoSet")) := T.glo "NoSet" 63
theorem gl_NoNumber (T : Tp K mg) : mg "NoNumber" = some (.ref (He.ga K "NoNumber")) := T.glo "NoNumber" 64
theorem gl_NoSale (T : Tp K mg) : mg "NoSale" = some (.ref (He.ga K "NoSale")) := T.glo "NoSale" 65
theorem gl_NoMan (T : Tp K mg) : mg "NoMan" = some (.ref (He.ga K "NoMan")) := T.glo "NoMan" 66
theorem gl_NoCrew (T : Tp K mg) : mg "NoCrew" = some (.ref (He.ga K "NoCrew")) := T.glo "NoCrew" 67
theorem gl_NoScheme (T : Tp K mg) : mg "NoScheme" = some (.ref (He.ga K "NoScheme")) := T.glo "NoScheme" 68
theorem gl_NoHour (T : Tp K mg) : mg "NoHour" = some (.ref (He.ga K "NoHour")) := T.glo "NoHour" 69
theorem gl_NoName (T : Tp K mg) : mg "NoName" = some (.ref (He.ga K "NoName")) := T.glo "NoName" 70
theorem gl_NoRoll (T : Tp K mg) : mg "NoRoll" = some (.ref (He.ga K "NoRoll")) := T.glo "NoRoll" 71
theorem gl_NoLog (T : Tp K mg) : mg "NoLog" = some (.ref (He.ga K "NoLog")) := T.glo "NoLog" 72
theorem gl_NoPart (T : Tp K mg) : mg "NoPart" = some (.ref (He.ga K "NoPart")) := T.glo "NoPart" 73
theorem gl_NoWeights (T : Tp K mg) : mg "NoWeights" = some (.ref (He.ga K "NoWeights")) := T.glo "NoWeights" 74
theorem gl_NoRow (T : Tp K mg) : mg "NoRow" = some (.ref (He.ga K "NoRow")) := T.glo "NoRow" 75
theorem gl_NoText (T : Tp K mg) : mg "NoText" = some (.ref (He.ga K "NoText")) := T.glo "NoText" 76
theorem gl_NoChange (T : Tp K mg) : mg "NoChange" = some (.ref (He.ga K "NoChange")) := T.glo "NoChange" 77
theorem gl_NoMoney (T : Tp K mg) : mg "NoMoney" = some (.ref (He.ga K "NoMoney")) := T.glo "NoMoney" 78
theorem gl_NoBalances (T : Tp K mg) : mg "NoBalances" = some (.ref (He.ga K "NoBalances")) := T.glo "NoBalances" 79
theorem gl_NoPrize (T : Tp K mg) : mg "NoPrize" = some (.ref (He.ga K "NoPrize")) := T.glo "NoPrize" 80
theorem gl_NoPage (T : Tp K mg) : mg "NoPage" = some (.ref (He.ga K "NoPage")) := T.glo "NoPage" 81
theorem gl_NoPages (T : Tp K mg) : mg "NoPages" = some (.ref (He.ga K "NoPages")) := T.glo "NoPages" 82
theorem gl_NoCrews (T : Tp K mg) : mg "NoCrews" = some (.ref (He.ga K "NoCrews")) := T.glo "NoCrews" 83
theorem gl_TooMany (T : Tp K mg) : mg "TooMany" = some (.ref (He.ga K "TooMany")) := T.glo "TooMany" 84
theorem gl_PrizeError (T : Tp K mg) : mg "PrizeError" = some (.ref (He.ga K "PrizeError")) := T.glo "PrizeError" 85
end
section
variable {P : Program} {w : World} {K : PySem.W.Frag} {mg : Str → Option Value} {base : Heap} [SysB base]
def kk_is_whole : RT → (PyData → Prop) := fun R v => R (.dat v) []
def S_is_whole : DSp := fun as Q => match as with
  | [.dat x0] => q_is_whole x0 (kk_is_whole Q)
  | _ => False
theorem len_is_whole (as : List SD) (Q : SD → List SD → Prop) (h : S_is_whole as Q) : as.length = 1 := by
  unfold S_is_whole at h
  split at h
  · rfl
  · exact h.elim
theorem cels_is_whole : CelsIn 0 S_is_whole := by
  intro as Q h i p xs e
  unfold S_is_whole at h
  split at h
  · exact absurd e (no_cel (ds := [_]) i p xs)
  · exact h.elim
def N_is_whole : List Str := ["thing"]
theorem sc_is_whole : FnScope N_is_whole ["thing"] (defScope (top 30)) := ⟨rfl, rfl, rfl, by decide +kernel, rfl, by decide +kernel, by decide +kernel⟩
theorem fg_is_whole (T : Tp K mg)  {fd : FuncData} (Fn : Fun K "is_whole" "is_whole" (top 30) (He.ga K "is_whole") fd) : FnG P w K mg base 1 (He.ga K "is_whole") fd ["thing"] S_is_whole := by
  refine dfn 0 Fn sc_is_whole len_is_whole cels_is_whole fun cdv A outer s H hr hA => ⟨_, (sone (sret (m := 0) (dx (dandV (disi "int" "int" (m_isinstance T) (m_int T) (by decide +kernel) (by decide +kernel) (dv 0)) (done (dnotV (disi "bool" "bool" (m_isinstance T) (m_bool T) (by decide +kernel) (by decide +kernel) (dv 0)))))))), fun as Q h => ?_⟩
  unfold S_is_whole at h
  split at h
  · unfold q_is_whole at h
    rename_i x0
    refine at_env (b := [.dat x0]) rfl ?_
    exact Eq.mp (by kernel_rfl) h
  · exact h.elim
theorem ok_is_whole (T : Tp K mg)  : Dn P w K mg base "is_whole" 1 ["thing"] S_is_whole := by
  obtain ⟨kV, doc, pm, an, cdv, ct, Fn⟩ := T.fun_ "is_whole" (top 30) 0 86
  exact ⟨⟨_, fg_is_whole T  Fn, Fn.binds (ps := ["thing"]) fun _ _ _ _ _ _ us hl => match us, hl with | [_], _ => rfl⟩, T.glo "is_whole" 20, T.keep "is_whole" 86⟩
def kk_is_number : RT → (PyData → Prop) := fun R v => R (.dat v) []
def S_is_number : DSp := fun as Q => match as with
  | [.dat x0, .dat x1] => q_is_number x0 x1 (kk_is_number Q)
  | _ => False
theorem len_is_number (as : List SD) (Q : SD → List SD → Prop) (h : S_is_number as Q) : as.length = 2 := by
  unfold S_is_number at h
  split at h
  · rfl
  · exact h.elim
theorem cels_is_number : CelsIn 0 S_is_number := by
  intro as Q h i p xs e
  unfold S_is_number at h
  split at h
  · exact absurd e (no_cel (ds := [_, _]) i p xs)
  · exact h.elim
def N_is_number : List Str := ["thing", "many"]
theorem sc_is_number : FnScope N_is_number ["thing", "many"] (defScope (top 33)) := ⟨rfl, rfl, rfl, by decide +kernel, rfl, by decide +kernel, by decide +kernel⟩
theorem fg_is_number (T : Tp K mg) (D_is_whole : Dn P w K mg base "is_whole" 1 ["thing"] S_is_whole) {fd : FuncData} (Fn : Fun K "is_number" "is_number" (top 33) (He.ga K "is_number") fd) : FnG P w K mg base 2 (He.ga K "is_number") fd ["thing", "many"] S_is_number := by
  refine dfn 0 Fn sc_is_number len_is_number cels_is_number fun cdv A outer s H hr hA => ⟨_, (sone (sret (m := 0) (dx (dandV (dfrz (dcn D_is_whole (hr.mono (by decide)) hA (acons (dv 0) anil))) (done (dchain op_le op_ltA opr_le opr_ltA di (dv 0) (dv 1))))))), fun as Q h => ?_⟩
  unfold S_is_number at h
  split at h
  · unfold q_is_number at h
    rename_i x0 x1
    refine at_env (b := [.dat x0, .dat x1]) rfl ?_
    exact Eq.mp (by kernel_rfl) h
  · exact h.elim
theorem ok_is_number (T : Tp K mg) (D_is_whole : Dn P w K mg base "is_whole" 1 ["thing"] S_is_whole) : Dn P w K mg base "is_number" 2 ["thing", "many"] S_is_number := by
  obtain ⟨kV, doc, pm, an, cdv, ct, Fn⟩ := T.fun_ "is_number" (top 33) 1 87
  exact ⟨⟨_, fg_is_number T D_is_whole Fn, Fn.binds (ps := ["thing", "many"]) fun _ _ _ _ _ _ us hl => match us, hl with | [_, _], _ => rfl⟩, T.glo "is_number" 21, T.keep "is_number" 87⟩
def kk_is_row : RT → (PyData → Prop) := fun R v => R (.dat v) []
def em_is_row_1 (i : PyData) (s : Unit) : List SD := [.dat i, .un]
def de_is_row_1 : List SD → Option ((PyData) × (Unit))
  | [.dat x0, .un] => some (x0, ())
  | _ => none
theorem hde_is_row_1 : ∀ env i s, de_is_row_1 env = some (i, s) → env = em_is_row_1 i s := by
  intro env i s h
  unfold de_is_row_1 at h
  split at h
  · cases h; rfl
  · cases h
def S_is_row : DSp := fun as Q => match as with
  | [.dat x0] => q_is_row x0 (kk_is_row Q)
  | _ => False
theorem len_is_row (as : List SD) (Q : SD → List SD → Prop) (h : S_is_row as Q) : as.length = 1 := by
  unfold S_is_row at h
  split at h
  · rfl
  · exact h.elim
theorem cels_is_row : CelsIn 0 S_is_row := by
  intro as Q h i p xs e
  unfold S_is_row at h
  split at h
  · exact absurd e (no_cel (ds := [_]) i p xs)
  · exact h.elim
def N_is_row : List Str := ["thing", "one"]
theorem sc_is_row : FnScope N_is_row ["thing"] (defScope (top 34)) := ⟨rfl, rfl, rfl, by decide +kernel, rfl, by decide +kernel, by decide +kernel⟩
theorem fg_is_row (T : Tp K mg)  {fd : FuncData} (Fn : Fun K "is_row" "is_row" (top 34) (He.ga K "is_row") fd) : FnG P w K mg base 1 (He.ga K "is_row") fd ["thing"] S_is_row := by
  refine dfn 0 Fn sc_is_row len_is_row cels_is_row fun cdv A outer s H hr hA => ⟨_, (scons (sif (tor (tnot (dtest (disi "tuple" "tuple" (m_isinstance T) (m_tuple T) (by decide +kernel) (by decide +kernel) (dv 0)))) (tor1 (tnot (dchainT op_le op_le opr_le opr_le di (dlen (m_len T) (acons (dv 0) anil)) (dnum (c_MOST_LOGS T)))))).pt (sone (sret (m := 0) (dx db))) snil) (sone (sret (m := 0) (dx (dall (m_all T) rfl (acons (dfrz (dlc (dec := de_is_row_1) (emb := em_is_row_1) (qb := qb_is_row_1) [("one", 1)] (.one 1) hde_is_row_1 rfl sc_is_row.nd (iseq (dv 0)) (blkOk_by (own := [("one", 1)]) (N := N_is_row) (sc := defScope (top 34)) (by decide +kernel)) (fun _ _ _ _ _ => pg_name (i := 1) sc_is_row.nd rfl (Or.inl rfl)) (fun _ _ _ _ _ => tyes) (fun _ _ _ _ _ => (disi "bool" "bool" (m_isinstance T) (m_bool T) (by decide +kernel) (by decide +kernel) (dv 1))) (fun d i s sk yd h => Eq.mp (by kernel_rfl) h))) anil)))))), fun as Q h => ?_⟩
  unfold S_is_row at h
  split at h
  · unfold q_is_row at h
    rename_i x0
    refine at_env (b := [.dat x0, .un]) rfl ?_
    exact Eq.mp (by kernel_rfl) h
  · exact h.elim
theorem ok_is_row (T : Tp K mg)  : Dn P w K mg base "is_row" 1 ["thing"] S_is_row := by
  obtain ⟨kV, doc, pm, an, cdv, ct, Fn⟩ := T.fun_ "is_row" (top 34) 2 88
  exact ⟨⟨_, fg_is_row T  Fn, Fn.binds (ps := ["thing"]) fun _ _ _ _ _ _ us hl => match us, hl with | [_], _ => rfl⟩, T.glo "is_row" 22, T.keep "is_row" 88⟩
def kk_is_table : RT → (PyData → Prop) := fun R v => R (.dat v) []
def em_is_table_1 (i : PyData) (s : Unit) : List SD := [.dat i, .un]
def de_is_table_1 : List SD → Option ((PyData) × (Unit))
  | [.dat x0, .un] => some (x0, ())
  | _ => none
theorem hde_is_table_1 : ∀ env i s, de_is_table_1 env = some (i, s) → env = em_is_table_1 i s := by
  intro env i s h
  unfold de_is_table_1 at h
  split at h
  · cases h; rfl
  · cases h
def em_is_table_2 (i : PyData) (s : Unit) : List SD := [.dat i, .un]
def de_is_table_2 : List SD → Option ((PyData) × (Unit))
  | [.dat x0, .un] => some (x0, ())
  | _ => none
theorem hde_is_table_2 : ∀ env i s, de_is_table_2 env = some (i, s) → env = em_is_table_2 i s := by
  intro env i s h
  unfold de_is_table_2 at h
  split at h
  · cases h; rfl
  · cases h
def S_is_table : DSp := fun as Q => match as with
  | [.dat x0] => q_is_table x0 (kk_is_table Q)
  | _ => False
theorem len_is_table (as : List SD) (Q : SD → List SD → Prop) (h : S_is_table as Q) : as.length = 1 := by
  unfold S_is_table at h
  split at h
  · rfl
  · exact h.elim
theorem cels_is_table : CelsIn 0 S_is_table := by
  intro as Q h i p xs e
  unfold S_is_table at h
  split at h
  · exact absurd e (no_cel (ds := [_]) i p xs)
  · exact h.elim
def N_is_table : List Str := ["thing", "row"]
theorem sc_is_table : FnScope N_is_table ["thing"] (defScope (top 35)) := ⟨rfl, rfl, rfl, by decide +kernel, rfl, by decide +kernel, by decide +kernel⟩
theorem fg_is_table (T : Tp K mg) (D_is_row : Dn P w K mg base "is_row" 1 ["thing"] S_is_row) {fd : FuncData} (Fn : Fun K "is_table" "is_table" (top 35) (He.ga K "is_table") fd) : FnG P w K mg base 2 (He.ga K "is_table") fd ["thing"] S_is_table := by
  refine dfn 0 Fn sc_is_table len_is_table cels_is_table fun cdv A outer s H hr hA => ⟨_, (scons (sif (tor (tnot (dtest (disi "tuple" "tuple" (m_isinstance T) (m_tuple T) (by decide +kernel) (by decide +kernel) (dv 0)))) (tor (tnot (dchainT op_le op_le opr_le opr_le di (dlen (m_len T) (acons (dv 0) anil)) (dnum (c_MOST_LOGS T)))) (tor1 (tnot (dtest (dall (m_all T) rfl (acons (dfrz (dlc (dec := de_is_table_1) (emb := em_is_table_1) (qb := qb_is_table_1) [("row", 1)] (.one 1) hde_is_table_1 rfl sc_is_table.nd (iseq (dv 0)) (blkOk_by (own := [("row", 1)]) (N := N_is_table) (sc := defScope (top 35)) (by decide +kernel)) (fun _ _ _ _ _ => pg_name (i := 1) sc_is_table.nd rfl (Or.inl rfl)) (fun _ _ _ _ _ => tyes) (fun _ _ _ _ _ => (dfrz (dcn D_is_row (hr.mono (by decide)) hA (acons (dv 1) anil)))) (fun d i s sk yd h => Eq.mp (by kernel_rfl) h))) anil))))))).pt (sone (sret (m := 0) (dx db))) snil) (sone (sret (m := 0) (dx (dall (m_all T) rfl (acons (dfrz (dlc (dec := de_is_table_2) (emb := em_is_table_2) (qb := qb_is_table_2) [("row", 1)] (.one 1) hde_is_table_2 rfl sc_is_table.nd (iseq (dv 0)) (blkOk_by (own := [("row", 1)]) (N := N_is_table) (sc := defScope (top 35)) (by decide +kernel)) (fun _ _ _ _ _ => pg_name (i := 1) sc_is_table.nd rfl (Or.inl rfl)) (fun _ _ _ _ _ => tyes) (fun _ _ _ _ _ => (dcmp (op_eqE hr.units) opd_eq (dlen (m_len T) (acons (dv 1) anil)) (dlen (m_len T) (acons (dixP (dv 0) di) anil)) (nomark _))) (fun d i s sk yd h => Eq.mp (by kernel_rfl) h))) anil)))))), fun as Q h => ?_⟩
  unfold S_is_table at h
  split at h
  · unfold q_is_table at h
    rename_i x0
    refine at_env (b := [.dat x0, .un]) rfl ?_
    exact Eq.mp (by kernel_rfl) h
  · exact h.elim
theorem ok_is_table (T : Tp K mg) (D_is_row : Dn P w K mg base "is_row" 1 ["thing"] S_is_row) : Dn P w K mg base "is_table" 2 ["thing"] S_is_table := by
  obtain ⟨kV, doc, pm, an, cdv, ct, Fn⟩ := T.fun_ "is_table" (top 35) 3 89
  exact ⟨⟨_, fg_is_table T D_is_row Fn, Fn.binds (ps := ["thing"]) fun _ _ _ _ _ _ us hl => match us, hl with | [_], _ => rfl⟩, T.glo "is_table" 23, T.keep "is_table" 89⟩
def kk_are_sights : RT → (PyData → Prop) := fun R v => R (.dat v) []
def em_are_sights_1 (i : PyData) (s : Unit) : List SD := [.dat i, .un]
def de_are_sights_1 : List SD → Option ((PyData) × (Unit))
  | [.dat x0, .un] => some (x0, ())
  | _ => none
theorem hde_are_sights_1 : ∀ env i s, de_are_sights_1 env = some (i, s) → env = em_are_sights_1 i s := by
  intro env i s h
  unfold de_are_sights_1 at h
  split at h
  · cases h; rfl
  · cases h
def S_are_sights : DSp := fun as Q => match as with
  | [.dat x0] => q_are_sights x0 (kk_are_sights Q)
  | _ => False
theorem len_are_sights (as : List SD) (Q : SD → List SD → Prop) (h : S_are_sights as Q) : as.length = 1 := by
  unfold S_are_sights at h
  split at h
  · rfl
  · exact h.elim
theorem cels_are_sights : CelsIn 0 S_are_sights := by
  intro as Q h i p xs e
  unfold S_are_sights at h
  split at h
  · exact absurd e (no_cel (ds := [_]) i p xs)
  · exact h.elim
def N_are_sights : List Str := ["thing", "table"]
theorem sc_are_sights : FnScope N_are_sights ["thing"] (defScope (top 38)) := ⟨rfl, rfl, rfl, by decide +kernel, rfl, by decide +kernel, by decide +kernel⟩
theorem fg_are_sights (T : Tp K mg) (D_is_number : Dn P w K mg base "is_number" 2 ["thing", "many"] S_is_number) (D_is_table : Dn P w K mg base "is_table" 2 ["thing"] S_is_table) {fd : FuncData} (Fn : Fun K "are_sights" "are_sights" (top 38) (He.ga K "are_sights") fd) : FnG P w K mg base 3 (He.ga K "are_sights") fd ["thing"] S_are_sights := by
  refine dfn 0 Fn sc_are_sights len_are_sights cels_are_sights fun cdv A outer s H hr hA => ⟨_, (scons (sif (tor (tnot (dtest (disi "tuple" "tuple" (m_isinstance T) (m_tuple T) (by decide +kernel) (by decide +kernel) (dv 0)))) (tor (dcmpT (op_neE hr.units) opd_ne (dlen (m_len T) (acons (dv 0) anil)) di (nomark _)) (tor (tnot (dtest (dfrz (dcn D_is_number (hr.mono (by decide)) hA (acons (dixP (dv 0) di) (acons (dadd (dnum (c_MOST_LOGS T)) di) anil)))))) (tor1 (dcmpT (op_eqE hr.units) opd_eq (dixP (dv 0) di) di (nomark _)))))).pt (sone (sret (m := 0) (dx db))) snil) (scons (sif (tor (tnot (dtest (disi "tuple" "tuple" (m_isinstance T) (m_tuple T) (by decide +kernel) (by decide +kernel) (dixP (dv 0) di)))) (tor1 (dcmpT op_gt opr_gt (dlen (m_len T) (acons (dixP (dv 0) di) anil)) (dnum (c_MOST_SHIPS T)) (nomark _)))).pt (sone (sret (m := 0) (dx db))) snil) (sone (sret (m := 0) (dx (dall (m_all T) rfl (acons (dfrz (dlc (dec := de_are_sights_1) (emb := em_are_sights_1) (qb := qb_are_sights_1) [("table", 1)] (.one 1) hde_are_sights_1 rfl sc_are_sights.nd (iseq (dixP (dv 0) di)) (blkOk_by (own := [("table", 1)]) (N := N_are_sights) (sc := defScope (top 38)) (by decide +kernel)) (fun _ _ _ _ _ => pg_name (i := 1) sc_are_sights.nd rfl (Or.inl rfl)) (fun _ _ _ _ _ => tyes) (fun _ _ _ _ _ => (dandV (dfrz (dcn D_is_table (hr.mono (by decide)) hA (acons (dv 1) anil))) (done (dcmp (op_eqE hr.units) opd_eq (dlen (m_len T) (acons (dv 1) anil)) (dixP (dv 0) di) (nomark _))))) (fun d i s sk yd h => Eq.mp (by kernel_rfl) h))) anil))))))), fun as Q h => ?_⟩
  unfold S_are_sights at h
  split at h
  · unfold q_are_sights at h
    rename_i x0
    refine at_env (b := [.dat x0, .un]) rfl ?_
    exact Eq.mp (by kernel_rfl) h
  · exact h.elim
theorem ok_are_sights (T : Tp K mg) (D_is_number : Dn P w K mg base "is_number" 2 ["thing", "many"] S_is_number) (D_is_table : Dn P w K mg base "is_table" 2 ["thing"] S_is_table) : Dn P w K mg base "are_sights" 3 ["thing"] S_are_sights := by
  obtain ⟨kV, doc, pm, an, cdv, ct, Fn⟩ := T.fun_ "are_sights" (top 38) 4 90
  exact ⟨⟨_, fg_are_sights T D_is_number D_is_table Fn, Fn.binds (ps := ["thing"]) fun _ _ _ _ _ _ us hl => match us, hl with | [_], _ => rfl⟩, T.glo "are_sights" 24, T.keep "are_sights" 90⟩
def kk_need_sights : RT → (PyData → Prop) := fun R v => R (.dat v) []
def S_need_sights : DSpX := fun as Q E => match as with
  | [.dat x0] => q_need_sights x0 (kk_need_sights Q) E
  | _ => False
theorem len_need_sights (as : List SD) (Q : SD → List SD → Prop) (E : Str → Prop) (h : S_need_sights as Q E) : as.length = 1 := by
  unfold S_need_sights at h
  split at h
  · rfl
  · exact h.elim
theorem nc_need_sights (as : List SD) (Q : SD → List SD → Prop) (E : Str → Prop) (h : S_need_sights as Q E) : NoCel as := by
  intro i p xs e
  unfold S_need_sights at h
  split at h
  · exact absurd e (no_cel (ds := [_]) i p xs)
  · exact h.elim
def N_need_sights : List Str := ["thing"]
theorem sc_need_sights : FnScope N_need_sights ["thing"] (defScope (top 39)) := ⟨rfl, rfl, rfl, by decide +kernel, rfl, by decide +kernel, by decide +kernel⟩
theorem fg_need_sights (T : Tp K mg) (D_are_sights : Dn P w K mg base "are_sights" 3 ["thing"] S_are_sights) {fd : FuncData} (Fn : Fun K "need_sights" "need_sights" (top 39) (He.ga K "need_sights") fd) : FnX P w K mg base 4 (He.ga K "need_sights") fd ["thing"] S_need_sights := by
  refine dfnX Fn sc_need_sights len_need_sights nc_need_sights fun Ec cdv A outer s H E tk po hr hA => ⟨_, (sone (sif (tnot (dtest (dfrz (dcn D_are_sights (hr.mono (by decide)) hA (acons (dv 0) anil))))) (sone (sraise (ce_NoSights T) rfl tk)) snil)), fun as Q h => ?_⟩
  unfold S_need_sights at h
  split at h
  · unfold q_need_sights at h
    rename_i x0
    refine at_env (b := [.dat x0]) rfl ?_
    exact Eq.mp (by kernel_rfl) h
  · exact h.elim
theorem ok_need_sights (T : Tp K mg) (D_are_sights : Dn P w K mg base "are_sights" 3 ["thing"] S_are_sights) : DnX P w K mg base "need_sights" 4 ["thing"] S_need_sights := by
  obtain ⟨kV, doc, pm, an, cdv, ct, Fn⟩ := T.fun_ "need_sights" (top 39) 5 91
  exact ⟨⟨_, fg_need_sights T D_are_sights Fn, Fn.binds (ps := ["thing"]) fun _ _ _ _ _ _ us hl => match us, hl with | [_], _ => rfl⟩, T.glo "need_sights" 25, T.keep "need_sights" 91⟩
def kk_need_set : RT → (PyData → Prop) := fun R v => R (.dat v) []
def em_need_set_1 (i : PyData × PyData) (s : Unit) : List SD := [.un, .dat i.1, .dat i.2, .un, .un, .un]
def de_need_set_1 : List SD → Option ((PyData × PyData) × (Unit))
  | [.un, .dat x1, .dat x2, .un, .un, .un] => some ((x1, x2), ())
  | _ => none
theorem hde_need_set_1 : ∀ env i s, de_need_set_1 env = some (i, s) → env = em_need_set_1 i s := by
  intro env i s h
  unfold de_need_set_1 at h
  split at h
  · cases h; rfl
  · cases h
def em_need_set_2 (i : PyData) (s : Unit) : List SD := [.un, .dat i, .un, .un, .un, .un]
def de_need_set_2 : List SD → Option ((PyData) × (Unit))
  | [.un, .dat x1, .un, .un, .un, .un] => some (x1, ())
  | _ => none
theorem hde_need_set_2 : ∀ env i s, de_need_set_2 env = some (i, s) → env = em_need_set_2 i s := by
  intro env i s h
  unfold de_need_set_2 at h
  split at h
  · cases h; rfl
  · cases h
def S_need_set : DSpX := fun as Q E => match as with
  | [.dat x0, .dat x1] => q_need_set x0 x1 (kk_need_set Q) E
  | _ => False
theorem len_need_set (as : List SD) (Q : SD → List SD → Prop) (E : Str → Prop) (h : S_need_set as Q E) : as.length = 2 := by
  unfold S_need_set at h
  split at h
  · rfl
  · exact h.elim
theorem nc_need_set (as : List SD) (Q : SD → List SD → Prop) (E : Str → Prop) (h : S_need_set as Q E) : NoCel as := by
  intro i p xs e
  unfold S_need_set at h
  split at h
  · exact absurd e (no_cel (ds := [_, _]) i p xs)
  · exact h.elim
def N_need_set : List Str := ["sights", "thing", "many", "ship", "one", "other"]
theorem sc_need_set : FnScope N_need_set ["sights", "thing"] (defScope (top 40)) := ⟨rfl, rfl, rfl, by decide +kernel, rfl, by decide +kernel, by decide +kernel⟩
theorem fg_need_set (T : Tp K mg) (D_is_number : Dn P w K mg base "is_number" 2 ["thing", "many"] S_is_number) {fd : FuncData} (Fn : Fun K "need_set" "need_set" (top 40) (He.ga K "need_set") fd) : FnX P w K mg base 3 (He.ga K "need_set") fd ["sights", "thing"] S_need_set := by
  refine dfnX Fn sc_need_set len_need_set nc_need_set fun Ec cdv A outer s H E tk po hr hA => ⟨_, (scons (sset 2 sc_need_set.nd (dx (dlen (m_len T) (acons (dixP (dv 0) di) anil)))) (ssforget [0] (scons (sif (tor (tnot (dtest (disi "tuple" "tuple" (m_isinstance T) (m_tuple T) (by decide +kernel) (by decide +kernel) (dv 1)))) (tor1 (tnot (dtest (dall (m_all T) rfl (acons (dfrz (dlc (dec := de_need_set_1) (emb := em_need_set_1) (qb := (qb_need_set_1 Ec)) [("ship", 3)] (.one 3) hde_need_set_1 rfl sc_need_set.nd (iseq (dv 1)) (blkOk_by (own := [("ship", 3)]) (N := N_need_set) (sc := defScope (top 40)) (by decide +kernel)) (fun _ _ _ _ _ => pg_name (i := 3) sc_need_set.nd rfl (Or.inl rfl)) (fun _ _ _ _ _ => tyes) (fun _ _ _ _ _ => (dfrz (dcn D_is_number (hr.mono (by decide)) hA (acons (dv 3) (acons (dv 2) anil))))) (fun d i s sk yd h => Eq.mp (by kernel_rfl) h))) anil)))))).pt (sone (sraise (ce_NoSet T) rfl tk)) snil) (ssforget [2] (sone (sif (tnot (dtest (dall (m_all T) rfl (acons (dfrz (dlc (dec := de_need_set_2) (emb := em_need_set_2) (qb := (qb_need_set_2 Ec)) [("one", 4), ("other", 5)] (.tup [4, 5]) hde_need_set_2 rfl sc_need_set.nd (izip (m_zip T) (acons (dv 1) (acons (dsl (dv 1) (so_some di) so_none) anil))) (blkOk_by (own := [("one", 4), ("other", 5)]) (N := N_need_set) (sc := defScope (top 40)) (by decide +kernel)) (fun _ _ _ _ _ => pg_tup rfl (pgs_cons (pg_name (i := 4) sc_need_set.nd rfl (Or.inl rfl)) (pgs_cons (pg_name (i := 5) sc_need_set.nd rfl (Or.inl rfl)) pgs_nil))) (fun _ _ _ _ _ => tyes) (fun _ _ _ _ _ => (dcmp op_ltA opr_ltA (dv 4) (dv 5) (nomark _))) (fun d i s sk yd h => Eq.mp (by kernel_rfl) h))) anil)))) (sone (sraise (ce_NoSet T) rfl tk)) snil)))))), fun as Q h => ?_⟩
  unfold S_need_set at h
  split at h
  · unfold q_need_set at h
    rename_i x0 x1
    refine at_env (b := [.dat x0, .dat x1, .un, .un, .un, .un]) rfl ?_
    exact Eq.mp (by kernel_rfl) h
  · exact h.elim
theorem ok_need_set (T : Tp K mg) (D_is_number : Dn P w K mg base "is_number" 2 ["thing", "many"] S_is_number) : DnX P w K mg base "need_set" 3 ["sights", "thing"] S_need_set := by
  obtain ⟨kV, doc, pm, an, cdv, ct, Fn⟩ := T.fun_ "need_set" (top 40) 6 92
  exact ⟨⟨_, fg_need_set T D_is_number Fn, Fn.binds (ps := ["sights", "thing"]) fun _ _ _ _ _ _ us hl => match us, hl with | [_, _], _ => rfl⟩, T.glo "need_set" 26, T.keep "need_set" 92⟩
def kk_need_log : RT → (PyData → Prop) := fun R v => R (.dat v) []
def S_need_log : DSpX := fun as Q E => match as with
  | [.dat x0, .dat x1] => q_need_log x0 x1 (kk_need_log Q) E
  | _ => False
theorem len_need_log (as : List SD) (Q : SD → List SD → Prop) (E : Str → Prop) (h : S_need_log as Q E) : as.length = 2 := by
  unfold S_need_log at h
  split at h
  · rfl
  · exact h.elim
theorem nc_need_log (as : List SD) (Q : SD → List SD → Prop) (E : Str → Prop) (h : S_need_log as Q E) : NoCel as := by
  intro i p xs e
  unfold S_need_log at h
  split at h
  · exact absurd e (no_cel (ds := [_, _]) i p xs)
  · exact h.elim
def N_need_log : List Str := ["sights", "thing"]
theorem sc_need_log : FnScope N_need_log ["sights", "thing"] (defScope (top 41)) := ⟨rfl, rfl, rfl, by decide +kernel, rfl, by decide +kernel, by decide +kernel⟩
theorem fg_need_log (T : Tp K mg) (D_is_number : Dn P w K mg base "is_number" 2 ["thing", "many"] S_is_number) {fd : FuncData} (Fn : Fun K "need_log" "need_log" (top 41) (He.ga K "need_log") fd) : FnX P w K mg base 3 (He.ga K "need_log") fd ["sights", "thing"] S_need_log := by
  refine dfnX Fn sc_need_log len_need_log nc_need_log fun Ec cdv A outer s H E tk po hr hA => ⟨_, (sone (sif (tnot (dtest (dfrz (dcn D_is_number (hr.mono (by decide)) hA (acons (dv 1) (acons (dixP (dv 0) di) anil)))))) (sone (sraise (ce_NoNumber T) rfl tk)) snil)), fun as Q h => ?_⟩
  unfold S_need_log at h
  split at h
  · unfold q_need_log at h
    rename_i x0 x1
    refine at_env (b := [.dat x0, .dat x1]) rfl ?_
    exact Eq.mp (by kernel_rfl) h
  · exact h.elim
theorem ok_need_log (T : Tp K mg) (D_is_number : Dn P w K mg base "is_number" 2 ["thing", "many"] S_is_number) : DnX P w K mg base "need_log" 3 ["sights", "thing"] S_need_log := by
  obtain ⟨kV, doc, pm, an, cdv, ct, Fn⟩ := T.fun_ "need_log" (top 41) 7 93
  exact ⟨⟨_, fg_need_log T D_is_number Fn, Fn.binds (ps := ["sights", "thing"]) fun _ _ _ _ _ _ us hl => match us, hl with | [_, _], _ => rfl⟩, T.glo "need_log" 27, T.keep "need_log" 93⟩
def kk_is_choice : RT → (PyData → Prop) := fun R v => R (.dat v) []
def em_is_choice_1 (i : PyData × PyData) (s : Unit) : List SD := [.dat i.1, .un, .dat i.2, .un, .un]
def de_is_choice_1 : List SD → Option ((PyData × PyData) × (Unit))
  | [.dat x0, .un, .dat x2, .un, .un] => some ((x0, x2), ())
  | _ => none
theorem hde_is_choice_1 : ∀ env i s, de_is_choice_1 env = some (i, s) → env = em_is_choice_1 i s := by
  intro env i s h
  unfold de_is_choice_1 at h
  split at h
  · cases h; rfl
  · cases h
def S_is_choice : DSp := fun as Q => match as with
  | [.dat x0, .dat x1, .dat x2] => q_is_choice x0 x1 x2 (kk_is_choice Q)
  | _ => False
theorem len_is_choice (as : List SD) (Q : SD → List SD → Prop) (h : S_is_choice as Q) : as.length = 3 := by
  unfold S_is_choice at h
  split at h
  · rfl
  · exact h.elim
theorem cels_is_choice : CelsIn 0 S_is_choice := by
  intro as Q h i p xs e
  unfold S_is_choice at h
  split at h
  · exact absurd e (no_cel (ds := [_, _, _]) i p xs)
  · exact h.elim
def N_is_choice : List Str := ["sights", "log", "columns", "column", "table"]
theorem sc_is_choice : FnScope N_is_choice ["sights", "log", "columns"] (defScope (top 42)) := ⟨rfl, rfl, rfl, by decide +kernel, rfl, by decide +kernel, by decide +kernel⟩
theorem fg_is_choice (T : Tp K mg) (D_is_number : Dn P w K mg base "is_number" 2 ["thing", "many"] S_is_number) {fd : FuncData} (Fn : Fun K "is_choice" "is_choice" (top 42) (He.ga K "is_choice") fd) : FnG P w K mg base 3 (He.ga K "is_choice") fd ["sights", "log", "columns"] S_is_choice := by
  refine dfn 0 Fn sc_is_choice len_is_choice cels_is_choice fun cdv A outer s H hr hA => ⟨_, (scons (sif (tor (tnot (dtest (dfrz (dcn D_is_number (hr.mono (by decide)) hA (acons (dv 1) (acons (dixP (dv 0) di) anil)))))) (tor (tnot (dtest (disi "tuple" "tuple" (m_isinstance T) (m_tuple T) (by decide +kernel) (by decide +kernel) (dv 2)))) (tor1 (dcmpT (op_neE hr.units) opd_ne (dlen (m_len T) (acons (dv 2) anil)) (dlen (m_len T) (acons (dixP (dv 0) di) anil)) (nomark _))))).pt (sone (sret (m := 0) (dx db))) snil) (ssforget [1] (sone (sret (m := 0) (dx (dall (m_all T) rfl (acons (dfrz (dlc (dec := de_is_choice_1) (emb := em_is_choice_1) (qb := qb_is_choice_1) [("column", 3), ("table", 4)] (.tup [3, 4]) hde_is_choice_1 rfl sc_is_choice.nd (izip (m_zip T) (acons (dv 2) (acons (dixP (dv 0) di) anil))) (blkOk_by (own := [("column", 3), ("table", 4)]) (N := N_is_choice) (sc := defScope (top 42)) (by decide +kernel)) (fun _ _ _ _ _ => pg_tup rfl (pgs_cons (pg_name (i := 3) sc_is_choice.nd rfl (Or.inl rfl)) (pgs_cons (pg_name (i := 4) sc_is_choice.nd rfl (Or.inl rfl)) pgs_nil))) (fun _ _ _ _ _ => tyes) (fun _ _ _ _ _ => (dfrz (dcn D_is_number (hr.mono (by decide)) hA (acons (dv 3) (acons (dlen (m_len T) (acons (dixP (dv 4) di) anil)) anil))))) (fun d i s sk yd h => Eq.mp (by kernel_rfl) h))) anil))))))), fun as Q h => ?_⟩
  unfold S_is_choice at h
  split at h
  · unfold q_is_choice at h
    rename_i x0 x1 x2
    refine at_env (b := [.dat x0, .dat x1, .dat x2, .un, .un]) rfl ?_
    exact Eq.mp (by kernel_rfl) h
  · exact h.elim
theorem ok_is_choice (T : Tp K mg) (D_is_number : Dn P w K mg base "is_number" 2 ["thing", "many"] S_is_number) : Dn P w K mg base "is_choice" 3 ["sights", "log", "columns"] S_is_choice := by
  obtain ⟨kV, doc, pm, an, cdv, ct, Fn⟩ := T.fun_ "is_choice" (top 42) 8 94
  exact ⟨⟨_, fg_is_choice T D_is_number Fn, Fn.binds (ps := ["sights", "log", "columns"]) fun _ _ _ _ _ _ us hl => match us, hl with | [_, _, _], _ => rfl⟩, T.glo "is_choice" 28, T.keep "is_choice" 94⟩
def kk_chosen : RT → (PyData → Prop) := fun R v => R (.dat v) []
def em_chosen_1 (i : PyData × PyData × PyData) (s : Unit) : List SD := [.dat i.1, .dat i.2.1, .dat i.2.2, .un, .un]
def de_chosen_1 : List SD → Option ((PyData × PyData × PyData) × (Unit))
  | [.dat x0, .dat x1, .dat x2, .un, .un] => some ((x0, x1, x2), ())
  | _ => none
theorem hde_chosen_1 : ∀ env i s, de_chosen_1 env = some (i, s) → env = em_chosen_1 i s := by
  intro env i s h
  unfold de_chosen_1 at h
  split at h
  · cases h; rfl
  · cases h
def S_chosen : DSp := fun as Q => match as with
  | [.dat x0, .dat x1, .dat x2] => q_chosen x0 x1 x2 (kk_chosen Q)
  | _ => False
theorem len_chosen (as : List SD) (Q : SD → List SD → Prop) (h : S_chosen as Q) : as.length = 3 := by
  unfold S_chosen at h
  split at h
  · rfl
  · exact h.elim
theorem cels_chosen : CelsIn 0 S_chosen := by
  intro as Q h i p xs e
  unfold S_chosen at h
  split at h
  · exact absurd e (no_cel (ds := [_, _, _]) i p xs)
  · exact h.elim
def N_chosen : List Str := ["sights", "log", "columns", "ship", "table"]
theorem sc_chosen : FnScope N_chosen ["sights", "log", "columns"] (defScope (top 43)) := ⟨rfl, rfl, rfl, by decide +kernel, rfl, by decide +kernel, by decide +kernel⟩
theorem fg_chosen (T : Tp K mg)  {fd : FuncData} (Fn : Fun K "chosen" "chosen" (top 43) (He.ga K "chosen") fd) : FnG P w K mg base 1 (He.ga K "chosen") fd ["sights", "log", "columns"] S_chosen := by
  refine dfn 0 Fn sc_chosen len_chosen cels_chosen fun cdv A outer s H hr hA => ⟨_, (sone (sret (m := 0) (dx (dtupleOf (m_tuple T) (acons (dfrz (dlc (dec := de_chosen_1) (emb := em_chosen_1) (qb := qb_chosen_1) [("ship", 3), ("table", 4)] (.tup [3, 4]) hde_chosen_1 rfl sc_chosen.nd (ienum (m_enumerate T) (acons (dixP (dv 0) di) anil)) (blkOk_by (own := [("ship", 3), ("table", 4)]) (N := N_chosen) (sc := defScope (top 43)) (by decide +kernel)) (fun _ _ _ _ _ => pg_tup rfl (pgs_cons (pg_name (i := 3) sc_chosen.nd rfl (Or.inl rfl)) (pgs_cons (pg_name (i := 4) sc_chosen.nd rfl (Or.inl rfl)) pgs_nil))) (fun _ _ _ _ _ => tif1 (dtest (dixP (dixP (dv 4) (dv 1)) (dixP (dv 2) (dv 3))))) (fun _ _ _ _ _ => (dv 3)) (fun d i s sk yd h => Eq.mp (by kernel_rfl) h))) anil))))), fun as Q h => ?_⟩
  unfold S_chosen at h
  split at h
  · unfold q_chosen at h
    rename_i x0 x1 x2
    refine at_env (b := [.dat x0, .dat x1, .dat x2, .un, .un]) rfl ?_
    exact Eq.mp (by kernel_rfl) h
  · exact h.elim
theorem ok_chosen (T : Tp K mg)  : Dn P w K mg base "chosen" 1 ["sights", "log", "columns"] S_chosen := by
  obtain ⟨kV, doc, pm, an, cdv, ct, Fn⟩ := T.fun_ "chosen" (top 43) 9 95
  exact ⟨⟨_, fg_chosen T  Fn, Fn.binds (ps := ["sights", "log", "columns"]) fun _ _ _ _ _ _ us hl => match us, hl with | [_, _, _], _ => rfl⟩, T.glo "chosen" 29, T.keep "chosen" 95⟩
def kk_set_of : RT → (PyData → Prop) := fun R v => R (.dat v) []
def S_set_of : DSpX := fun as Q E => match as with
  | [.dat x0, .dat x1, .dat x2] => q_set_of x0 x1 x2 (kk_set_of Q) E
  | _ => False
theorem len_set_of (as : List SD) (Q : SD → List SD → Prop) (E : Str → Prop) (h : S_set_of as Q E) : as.length = 3 := by
  unfold S_set_of at h
  split at h
  · rfl
  · exact h.elim
theorem nc_set_of (as : List SD) (Q : SD → List SD → Prop) (E : Str → Prop) (h : S_set_of as Q E) : NoCel as := by
  intro i p xs e
  unfold S_set_of at h
  split at h
  · exact absurd e (no_cel (ds := [_, _, _]) i p xs)
  · exact h.elim
def N_set_of : List Str := ["sights", "log", "columns"]
theorem sc_set_of : FnScope N_set_of ["sights", "log", "columns"] (defScope (top 44)) := ⟨rfl, rfl, rfl, by decide +kernel, rfl, by decide +kernel, by decide +kernel⟩
theorem fg_set_of (T : Tp K mg) (D_chosen : Dn P w K mg base "chosen" 1 ["sights", "log", "columns"] S_chosen) (D_is_choice : Dn P w K mg base "is_choice" 3 ["sights", "log", "columns"] S_is_choice) (D_need_sights : DnX P w K mg base "need_sights" 4 ["thing"] S_need_sights) {fd : FuncData} (Fn : Fun K "set_of" "set_of" (top 44) (He.ga K "set_of") fd) : FnX P w K mg base 5 (He.ga K "set_of") fd ["sights", "log", "columns"] S_set_of := by
  refine dfnX Fn sc_set_of len_set_of nc_set_of fun Ec cdv A outer s H E tk po hr hA => ⟨_, (scons (sexpr (dcnE D_need_sights (hr.mono (by decide)) hA tk (acons (dv 0) anil))) (scons (sif (tnot (dtest (dfrz (dcn D_is_choice (hr.mono (by decide)) hA (acons (dv 0) (acons (dv 1) (acons (dv 2) anil))))))) (sone (sraise (ce_NoNumber T) rfl tk)) snil) (sone (sret (m := 0) (dx (dfrz (dcn D_chosen (hr.mono (by decide)) hA (acons (dv 0) (acons (dv 1) (acons (dv 2) anil)))))))))), fun as Q h => ?_⟩
  unfold S_set_of at h
  split at h
  · unfold q_set_of at h
    rename_i x0 x1 x2
    refine at_env (b := [.dat x0, .dat x1, .dat x2]) rfl ?_
    exact Eq.mp (by kernel_rfl) h
  · exact h.elim
theorem ok_set_of (T : Tp K mg) (D_chosen : Dn P w K mg base "chosen" 1 ["sights", "log", "columns"] S_chosen) (D_is_choice : Dn P w K mg base "is_choice" 3 ["sights", "log", "columns"] S_is_choice) (D_need_sights : DnX P w K mg base "need_sights" 4 ["thing"] S_need_sights) : DnX P w K mg base "set_of" 5 ["sights", "log", "columns"] S_set_of := by
  obtain ⟨kV, doc, pm, an, cdv, ct, Fn⟩ := T.fun_ "set_of" (top 44) 10 96
  exact ⟨⟨_, fg_set_of T D_chosen D_is_choice D_need_sights Fn, Fn.binds (ps := ["sights", "log", "columns"]) fun _ _ _ _ _ _ us hl => match us, hl with | [_, _, _], _ => rfl⟩, T.glo "set_of" 30, T.keep "set_of" 96⟩
def kk_is_barred : RT → (PyData → Prop) := fun R v => R (.dat v) []
def S_is_barred : DSp := fun as Q => match as with
  | [.dat x0, .dat x1, .dat x2, .dat x3] => q_is_barred x0 x1 x2 x3 (kk_is_barred Q)
  | _ => False
theorem len_is_barred (as : List SD) (Q : SD → List SD → Prop) (h : S_is_barred as Q) : as.length = 4 := by
  unfold S_is_barred at h
  split at h
  · rfl
  · exact h.elim
theorem cels_is_barred : CelsIn 0 S_is_barred := by
  intro as Q h i p xs e
  unfold S_is_barred at h
  split at h
  · exact absurd e (no_cel (ds := [_, _, _, _]) i p xs)
  · exact h.elim
def N_is_barred : List Str := ["sights", "ships", "log", "ship"]
theorem sc_is_barred : FnScope N_is_barred ["sights", "ships", "log", "ship"] (defScope (top 45)) := ⟨rfl, rfl, rfl, by decide +kernel, rfl, by decide +kernel, by decide +kernel⟩
theorem fg_is_barred (T : Tp K mg)  {fd : FuncData} (Fn : Fun K "is_barred" "is_barred" (top 45) (He.ga K "is_barred") fd) : FnG P w K mg base 1 (He.ga K "is_barred") fd ["sights", "ships", "log", "ship"] S_is_barred := by
  refine dfn 0 Fn sc_is_barred len_is_barred cels_is_barred fun cdv A outer s H hr hA => ⟨_, (sone (sret (m := 0) (dx (dnin hr (din hr (dv 3) (dv 1)) (dixP (dixP (dixP (dv 0) di) (dv 3)) (dv 2)))))), fun as Q h => ?_⟩
  unfold S_is_barred at h
  split at h
  · unfold q_is_barred at h
    rename_i x0 x1 x2 x3
    refine at_env (b := [.dat x0, .dat x1, .dat x2, .dat x3]) rfl ?_
    exact Eq.mp (by kernel_rfl) h
  · exact h.elim
theorem ok_is_barred (T : Tp K mg)  : Dn P w K mg base "is_barred" 1 ["sights", "ships", "log", "ship"] S_is_barred := by
  obtain ⟨kV, doc, pm, an, cdv, ct, Fn⟩ := T.fun_ "is_barred" (top 45) 11 97
  exact ⟨⟨_, fg_is_barred T  Fn, Fn.binds (ps := ["sights", "ships", "log", "ship"]) fun _ _ _ _ _ _ us hl => match us, hl with | [_, _, _, _], _ => rfl⟩, T.glo "is_barred" 31, T.keep "is_barred" 97⟩
def kk_bars_by : RT → (PyData → Prop) := fun R v => R (.dat v) []
def em_bars_by_1 (i : PyData × PyData × PyData) (s : Unit) : List SD := [.dat i.1, .dat i.2.1, .dat i.2.2, .un]
def de_bars_by_1 : List SD → Option ((PyData × PyData × PyData) × (Unit))
  | [.dat x0, .dat x1, .dat x2, .un] => some ((x0, x1, x2), ())
  | _ => none
theorem hde_bars_by_1 : ∀ env i s, de_bars_by_1 env = some (i, s) → env = em_bars_by_1 i s := by
  intro env i s h
  unfold de_bars_by_1 at h
  split at h
  · cases h; rfl
  · cases h
def S_bars_by : DSp := fun as Q => match as with
  | [.dat x0, .dat x1, .dat x2] => q_bars_by x0 x1 x2 (kk_bars_by Q)
  | _ => False
theorem len_bars_by (as : List SD) (Q : SD → List SD → Prop) (h : S_bars_by as Q) : as.length = 3 := by
  unfold S_bars_by at h
  split at h
  · rfl
  · exact h.elim
theorem cels_bars_by : CelsIn 0 S_bars_by := by
  intro as Q h i p xs e
  unfold S_bars_by at h
  split at h
  · exact absurd e (no_cel (ds := [_, _, _]) i p xs)
  · exact h.elim
def N_bars_by : List Str := ["sights", "ships", "log", "ship"]
theorem sc_bars_by : FnScope N_bars_by ["sights", "ships", "log"] (defScope (top 46)) := ⟨rfl, rfl, rfl, by decide +kernel, rfl, by decide +kernel, by decide +kernel⟩
theorem fg_bars_by (T : Tp K mg) (D_is_barred : Dn P w K mg base "is_barred" 1 ["sights", "ships", "log", "ship"] S_is_barred) {fd : FuncData} (Fn : Fun K "bars_by" "bars_by" (top 46) (He.ga K "bars_by") fd) : FnG P w K mg base 2 (He.ga K "bars_by") fd ["sights", "ships", "log"] S_bars_by := by
  refine dfn 0 Fn sc_bars_by len_bars_by cels_bars_by fun cdv A outer s H hr hA => ⟨_, (sone (sret (m := 0) (dx (dfrz (dlc (dec := de_bars_by_1) (emb := em_bars_by_1) (qb := qb_bars_by_1) [("ship", 3)] (.one 3) hde_bars_by_1 rfl sc_bars_by.nd (irange1 (m_range T) (acons (dlen (m_len T) (acons (dixP (dv 0) di) anil)) anil)) (blkOk_by (own := [("ship", 3)]) (N := N_bars_by) (sc := defScope (top 46)) (by decide +kernel)) (fun _ _ _ _ _ => pg_name (i := 3) sc_bars_by.nd rfl (Or.inl rfl)) (fun _ _ _ _ _ => tif1 (dtest (dfrz (dcn D_is_barred (hr.mono (by decide)) hA (acons (dv 0) (acons (dv 1) (acons (dv 2) (acons (dv 3) anil)))))))) (fun _ _ _ _ _ => (dv 3)) (fun d i s sk yd h => Eq.mp (by kernel_rfl) h)))))), fun as Q h => ?_⟩
  unfold S_bars_by at h
  split at h
  · unfold q_bars_by at h
    rename_i x0 x1 x2
    refine at_env (b := [.dat x0, .dat x1, .dat x2, .un]) rfl ?_
    exact Eq.mp (by kernel_rfl) h
  · exact h.elim
theorem ok_bars_by (T : Tp K mg) (D_is_barred : Dn P w K mg base "is_barred" 1 ["sights", "ships", "log", "ship"] S_is_barred) : Dn P w K mg base "bars_by" 2 ["sights", "ships", "log"] S_bars_by := by
  obtain ⟨kV, doc, pm, an, cdv, ct, Fn⟩ := T.fun_ "bars_by" (top 46) 12 98
  exact ⟨⟨_, fg_bars_by T D_is_barred Fn, Fn.binds (ps := ["sights", "ships", "log"]) fun _ _ _ _ _ _ us hl => match us, hl with | [_, _, _], _ => rfl⟩, T.glo "bars_by" 32, T.keep "bars_by" 98⟩
def kk_columns_by : RT → (PyData → Prop) := fun R v => R (.dat v) []
def em_columns_by_1 (i : PyData × PyData × PyData) (s : Unit) : List SD := [.dat i.1, .dat i.2.1, .dat i.2.2, .un, .un]
def de_columns_by_1 : List SD → Option ((PyData × PyData × PyData) × (Unit))
  | [.dat x0, .dat x1, .dat x2, .un, .un] => some ((x0, x1, x2), ())
  | _ => none
theorem hde_columns_by_1 : ∀ env i s, de_columns_by_1 env = some (i, s) → env = em_columns_by_1 i s := by
  intro env i s h
  unfold de_columns_by_1 at h
  split at h
  · cases h; rfl
  · cases h
def S_columns_by : DSp := fun as Q => match as with
  | [.dat x0, .dat x1, .dat x2] => q_columns_by x0 x1 x2 (kk_columns_by Q)
  | _ => False
theorem len_columns_by (as : List SD) (Q : SD → List SD → Prop) (h : S_columns_by as Q) : as.length = 3 := by
  unfold S_columns_by at h
  split at h
  · rfl
  · exact h.elim
theorem cels_columns_by : CelsIn 0 S_columns_by := by
  intro as Q h i p xs e
  unfold S_columns_by at h
  split at h
  · exact absurd e (no_cel (ds := [_, _, _]) i p xs)
  · exact h.elim
def N_columns_by : List Str := ["sights", "ships", "log", "ship", "table"]
theorem sc_columns_by : FnScope N_columns_by ["sights", "ships", "log"] (defScope (top 47)) := ⟨rfl, rfl, rfl, by decide +kernel, rfl, by decide +kernel, by decide +kernel⟩
theorem fg_columns_by (T : Tp K mg)  {fd : FuncData} (Fn : Fun K "columns_by" "columns_by" (top 47) (He.ga K "columns_by") fd) : FnG P w K mg base 1 (He.ga K "columns_by") fd ["sights", "ships", "log"] S_columns_by := by
  refine dfn 0 Fn sc_columns_by len_columns_by cels_columns_by fun cdv A outer s H hr hA => ⟨_, (sone (sret (m := 0) (dx (dtupleOf (m_tuple T) (acons (dfrz (dlc (dec := de_columns_by_1) (emb := em_columns_by_1) (qb := qb_columns_by_1) [("ship", 3), ("table", 4)] (.tup [3, 4]) hde_columns_by_1 rfl sc_columns_by.nd (ienum (m_enumerate T) (acons (dixP (dv 0) di) anil)) (blkOk_by (own := [("ship", 3), ("table", 4)]) (N := N_columns_by) (sc := defScope (top 47)) (by decide +kernel)) (fun _ _ _ _ _ => pg_tup rfl (pgs_cons (pg_name (i := 3) sc_columns_by.nd rfl (Or.inl rfl)) (pgs_cons (pg_name (i := 4) sc_columns_by.nd rfl (Or.inl rfl)) pgs_nil))) (fun _ _ _ _ _ => tyes) (fun _ _ _ _ _ => (dlixT hr.u65 (dixP (dv 4) (dv 2)) (din hr (dv 3) (dv 1)))) (fun d i s sk yd h => Eq.mp (by kernel_rfl) h))) anil))))), fun as Q h => ?_⟩
  unfold S_columns_by at h
  split at h
  · unfold q_columns_by at h
    rename_i x0 x1 x2
    refine at_env (b := [.dat x0, .dat x1, .dat x2, .un, .un]) rfl ?_
    exact Eq.mp (by kernel_rfl) h
  · exact h.elim
theorem ok_columns_by (T : Tp K mg)  : Dn P w K mg base "columns_by" 1 ["sights", "ships", "log"] S_columns_by := by
  obtain ⟨kV, doc, pm, an, cdv, ct, Fn⟩ := T.fun_ "columns_by" (top 47) 13 99
  exact ⟨⟨_, fg_columns_by T  Fn, Fn.binds (ps := ["sights", "ships", "log"]) fun _ _ _ _ _ _ us hl => match us, hl with | [_, _, _], _ => rfl⟩, T.glo "columns_by" 33, T.keep "columns_by" 99⟩
def kk_may_be : RT → (PyData → Prop) := fun R v => R (.dat v) []
def em_may_be_1 (i : PyData × PyData) (s : List PyData) : List SD := [.dat i.1, .dat i.2, .cel false s, .un, .un]
def de_may_be_1 : List SD → Option ((PyData × PyData) × (List PyData))
  | [.dat x0, .dat x1, .cel false x2, .un, .un] => some ((x0, x1), x2)
  | _ => none
theorem hde_may_be_1 : ∀ env i s, de_may_be_1 env = some (i, s) → env = em_may_be_1 i s := by
  intro env i s h
  unfold de_may_be_1 at h
  split at h
  · cases h; rfl
  · cases h
def S_may_be : DSpX := fun as Q E => match as with
  | [.dat x0, .dat x1] => q_may_be x0 x1 (kk_may_be Q) E
  | _ => False
theorem len_may_be (as : List SD) (Q : SD → List SD → Prop) (E : Str → Prop) (h : S_may_be as Q E) : as.length = 2 := by
  unfold S_may_be at h
  split at h
  · rfl
  · exact h.elim
theorem nc_may_be (as : List SD) (Q : SD → List SD → Prop) (E : Str → Prop) (h : S_may_be as Q E) : NoCel as := by
  intro i p xs e
  unfold S_may_be at h
  split at h
  · exact absurd e (no_cel (ds := [_, _]) i p xs)
  · exact h.elim
def N_may_be : List Str := ["sights", "ships", "bars", "log", "found"]
theorem sc_may_be : FnScope N_may_be ["sights", "ships"] (defScope (top 48)) := ⟨rfl, rfl, rfl, by decide +kernel, rfl, by decide +kernel, by decide +kernel⟩
theorem fg_may_be (T : Tp K mg) (D_bars_by : Dn P w K mg base "bars_by" 2 ["sights", "ships", "log"] S_bars_by) (D_columns_by : Dn P w K mg base "columns_by" 1 ["sights", "ships", "log"] S_columns_by) (D_need_set : DnX P w K mg base "need_set" 3 ["sights", "thing"] S_need_set) (D_need_sights : DnX P w K mg base "need_sights" 4 ["thing"] S_need_sights) {fd : FuncData} (Fn : Fun K "may_be" "may_be" (top 48) (He.ga K "may_be") fd) : FnX P w K mg base 5 (He.ga K "may_be") fd ["sights", "ships"] S_may_be := by
  refine dfnX Fn sc_may_be len_may_be nc_may_be fun Ec cdv A outer s H E tk po hr hA => ⟨_, (scons (sexpr (dcnE D_need_sights (hr.mono (by decide)) hA tk (acons (dv 0) anil))) (scons (sexpr (dcnE D_need_set (hr.mono (by decide)) hA tk (acons (dv 0) (acons (dv 1) anil)))) (scons (sset 2 sc_may_be.nd (dlst anil)) (scons (sforQ [3, 4] de_may_be_1 em_may_be_1 kk_may_be (qb_may_be_1 Ec) hde_may_be_1 po rfl (irange1 (m_range T) (acons (dixP (dv 0) di) anil)) (gn 3 sc_may_be.nd) (scons (sset 4 sc_may_be.nd (dcn D_bars_by (hr.mono (by decide)) hA (acons (dv 0) (acons (dv 1) (acons (dv 3) anil))))) (scons (sif (dcmpT (op_empE hr.units) opd_emp (dv 4) (dfrz (dlst anil)) (nomark _)) (sone (sret (m := 0) (dx (dtup (acons ds (acons (dv 3) (acons (dfrz (dcn D_columns_by (hr.mono (by decide)) hA (acons (dv 0) (acons (dv 1) (acons (dv 3) anil))))) anil))))))) snil) (sone (sapp 2 (dixP (dv 4) di))))) (fun R d i s nx bk h => Eq.mp (by kernel_rfl) h)) (sone (sret (m := 0) (dx (dtup (acons ds (acons (dtupC 2 (m_tuple T)) anil)))))))))), fun as Q h => ?_⟩
  unfold S_may_be at h
  split at h
  · unfold q_may_be at h
    rename_i x0 x1
    refine at_env (b := [.dat x0, .dat x1, .un, .un, .un]) rfl ?_
    exact Eq.mp (by kernel_rfl) h
  · exact h.elim
theorem ok_may_be (T : Tp K mg) (D_bars_by : Dn P w K mg base "bars_by" 2 ["sights", "ships", "log"] S_bars_by) (D_columns_by : Dn P w K mg base "columns_by" 1 ["sights", "ships", "log"] S_columns_by) (D_need_set : DnX P w K mg base "need_set" 3 ["sights", "thing"] S_need_set) (D_need_sights : DnX P w K mg base "need_sights" 4 ["thing"] S_need_sights) : DnX P w K mg base "may_be" 5 ["sights", "ships"] S_may_be := by
  obtain ⟨kV, doc, pm, an, cdv, ct, Fn⟩ := T.fun_ "may_be" (top 48) 14 100
  exact ⟨⟨_, fg_may_be T D_bars_by D_columns_by D_need_set D_need_sights Fn, Fn.binds (ps := ["sights", "ships"]) fun _ _ _ _ _ _ us hl => match us, hl with | [_, _], _ => rfl⟩, T.glo "may_be" 34, T.keep "may_be" 100⟩
def kk_are_bars : RT → (PyData → Prop) := fun R v => R (.dat v) []
def em_are_bars_1 (i : PyData × PyData × PyData) (s : Unit) : List SD := [.dat i.1, .dat i.2.1, .dat i.2.2, .un, .un]
def de_are_bars_1 : List SD → Option ((PyData × PyData × PyData) × (Unit))
  | [.dat x0, .dat x1, .dat x2, .un, .un] => some ((x0, x1, x2), ())
  | _ => none
theorem hde_are_bars_1 : ∀ env i s, de_are_bars_1 env = some (i, s) → env = em_are_bars_1 i s := by
  intro env i s h
  unfold de_are_bars_1 at h
  split at h
  · cases h; rfl
  · cases h
def em_are_bars_2 (i : PyData × PyData × PyData) (s : Unit) : List SD := [.dat i.1, .dat i.2.1, .dat i.2.2, .un, .un]
def de_are_bars_2 : List SD → Option ((PyData × PyData × PyData) × (Unit))
  | [.dat x0, .dat x1, .dat x2, .un, .un] => some ((x0, x1, x2), ())
  | _ => none
theorem hde_are_bars_2 : ∀ env i s, de_are_bars_2 env = some (i, s) → env = em_are_bars_2 i s := by
  intro env i s h
  unfold de_are_bars_2 at h
  split at h
  · cases h; rfl
  · cases h
def S_are_bars : DSp := fun as Q => match as with
  | [.dat x0, .dat x1, .dat x2] => q_are_bars x0 x1 x2 (kk_are_bars Q)
  | _ => False
theorem len_are_bars (as : List SD) (Q : SD → List SD → Prop) (h : S_are_bars as Q) : as.length = 3 := by
  unfold S_are_bars at h
  split at h
  · rfl
  · exact h.elim
theorem cels_are_bars : CelsIn 0 S_are_bars := by
  intro as Q h i p xs e
  unfold S_are_bars at h
  split at h
  · exact absurd e (no_cel (ds := [_, _, _]) i p xs)
  · exact h.elim
def N_are_bars : List Str := ["sights", "ships", "thing", "ship", "log"]
theorem sc_are_bars : FnScope N_are_bars ["sights", "ships", "thing"] (defScope (top 49)) := ⟨rfl, rfl, rfl, by decide +kernel, rfl, by decide +kernel, by decide +kernel⟩
theorem fg_are_bars (T : Tp K mg) (D_is_barred : Dn P w K mg base "is_barred" 1 ["sights", "ships", "log", "ship"] S_is_barred) (D_is_number : Dn P w K mg base "is_number" 2 ["thing", "many"] S_is_number) {fd : FuncData} (Fn : Fun K "are_bars" "are_bars" (top 49) (He.ga K "are_bars") fd) : FnG P w K mg base 3 (He.ga K "are_bars") fd ["sights", "ships", "thing"] S_are_bars := by
  refine dfn 0 Fn sc_are_bars len_are_bars cels_are_bars fun cdv A outer s H hr hA => ⟨_, (scons (sif (tor (tnot (dtest (disi "tuple" "tuple" (m_isinstance T) (m_tuple T) (by decide +kernel) (by decide +kernel) (dv 2)))) (tor1 (dcmpT (op_neE hr.units) opd_ne (dlen (m_len T) (acons (dv 2) anil)) (dixP (dv 0) di) (nomark _)))).pt (sone (sret (m := 0) (dx db))) snil) (scons (sif (tnot (dtest (dall (m_all T) rfl (acons (dfrz (dlc (dec := de_are_bars_1) (emb := em_are_bars_1) (qb := qb_are_bars_1) [("ship", 3)] (.one 3) hde_are_bars_1 rfl sc_are_bars.nd (iseq (dv 2)) (blkOk_by (own := [("ship", 3)]) (N := N_are_bars) (sc := defScope (top 49)) (by decide +kernel)) (fun _ _ _ _ _ => pg_name (i := 3) sc_are_bars.nd rfl (Or.inl rfl)) (fun _ _ _ _ _ => tyes) (fun _ _ _ _ _ => (dfrz (dcn D_is_number (hr.mono (by decide)) hA (acons (dv 3) (acons (dlen (m_len T) (acons (dixP (dv 0) di) anil)) anil))))) (fun d i s sk yd h => Eq.mp (by kernel_rfl) h))) anil)))) (sone (sret (m := 0) (dx db))) snil) (sone (sret (m := 0) (dx (dall (m_all T) rfl (acons (dfrz (dlc (dec := de_are_bars_2) (emb := em_are_bars_2) (qb := qb_are_bars_2) [("log", 4), ("ship", 3)] (.tup [4, 3]) hde_are_bars_2 rfl sc_are_bars.nd (ienum (m_enumerate T) (acons (dv 2) anil)) (blkOk_by (own := [("log", 4), ("ship", 3)]) (N := N_are_bars) (sc := defScope (top 49)) (by decide +kernel)) (fun _ _ _ _ _ => pg_tup rfl (pgs_cons (pg_name (i := 4) sc_are_bars.nd rfl (Or.inl rfl)) (pgs_cons (pg_name (i := 3) sc_are_bars.nd rfl (Or.inl rfl)) pgs_nil))) (fun _ _ _ _ _ => tyes) (fun _ _ _ _ _ => (dfrz (dcn D_is_barred (hr.mono (by decide)) hA (acons (dv 0) (acons (dv 1) (acons (dv 4) (acons (dv 3) anil))))))) (fun d i s sk yd h => Eq.mp (by kernel_rfl) h))) anil))))))), fun as Q h => ?_⟩
  unfold S_are_bars at h
  split at h
  · unfold q_are_bars at h
    rename_i x0 x1 x2
    refine at_env (b := [.dat x0, .dat x1, .dat x2, .un, .un]) rfl ?_
    exact Eq.mp (by kernel_rfl) h
  · exact h.elim
theorem ok_are_bars (T : Tp K mg) (D_is_barred : Dn P w K mg base "is_barred" 1 ["sights", "ships", "log", "ship"] S_is_barred) (D_is_number : Dn P w K mg base "is_number" 2 ["thing", "many"] S_is_number) : Dn P w K mg base "are_bars" 3 ["sights", "ships", "thing"] S_are_bars := by
  obtain ⟨kV, doc, pm, an, cdv, ct, Fn⟩ := T.fun_ "are_bars" (top 49) 15 101
  exact ⟨⟨_, fg_are_bars T D_is_barred D_is_number Fn, Fn.binds (ps := ["sights", "ships", "thing"]) fun _ _ _ _ _ _ us hl => match us, hl with | [_, _, _], _ => rfl⟩, T.glo "are_bars" 35, T.keep "are_bars" 101⟩
def kk_shows_set : RT → (PyData → Prop) := fun R v => R (.dat v) []
def S_shows_set : DSpX := fun as Q E => match as with
  | [.dat x0, .dat x1, .dat x2] => q_shows_set x0 x1 x2 (kk_shows_set Q) E
  | _ => False
theorem len_shows_set (as : List SD) (Q : SD → List SD → Prop) (E : Str → Prop) (h : S_shows_set as Q E) : as.length = 3 := by
  unfold S_shows_set at h
  split at h
  · rfl
  · exact h.elim
theorem nc_shows_set (as : List SD) (Q : SD → List SD → Prop) (E : Str → Prop) (h : S_shows_set as Q E) : NoCel as := by
  intro i p xs e
  unfold S_shows_set at h
  split at h
  · exact absurd e (no_cel (ds := [_, _, _]) i p xs)
  · exact h.elim
def N_shows_set : List Str := ["sights", "ships", "thing"]
theorem sc_shows_set : FnScope N_shows_set ["sights", "ships", "thing"] (defScope (top 50)) := ⟨rfl, rfl, rfl, by decide +kernel, rfl, by decide +kernel, by decide +kernel⟩
theorem fg_shows_set (T : Tp K mg) (D_are_bars : Dn P w K mg base "are_bars" 3 ["sights", "ships", "thing"] S_are_bars) (D_chosen : Dn P w K mg base "chosen" 1 ["sights", "log", "columns"] S_chosen) (D_is_choice : Dn P w K mg base "is_choice" 3 ["sights", "log", "columns"] S_is_choice) (D_need_set : DnX P w K mg base "need_set" 3 ["sights", "thing"] S_need_set) (D_need_sights : DnX P w K mg base "need_sights" 4 ["thing"] S_need_sights) {fd : FuncData} (Fn : Fun K "shows_set" "shows_set" (top 50) (He.ga K "shows_set") fd) : FnX P w K mg base 5 (He.ga K "shows_set") fd ["sights", "ships", "thing"] S_shows_set := by
  refine dfnX Fn sc_shows_set len_shows_set nc_shows_set fun Ec cdv A outer s H E tk po hr hA => ⟨_, (scons (sexpr (dcnE D_need_sights (hr.mono (by decide)) hA tk (acons (dv 0) anil))) (scons (sexpr (dcnE D_need_set (hr.mono (by decide)) hA tk (acons (dv 0) (acons (dv 1) anil)))) (scons (sif (tor (tnot (dtest (disi "tuple" "tuple" (m_isinstance T) (m_tuple T) (by decide +kernel) (by decide +kernel) (dv 2)))) (tor (tnin hr (dlen (m_len T) (acons (dv 2) anil)) (dtup (acons di (acons di anil)))) (tor1 (tnot (dtest (disi "str" "str" (m_isinstance T) (m_str T) (by decide +kernel) (by decide +kernel) (dixP (dv 2) di))))))).pt (sone (sret (m := 0) (dx db))) snil) (scons (sif (tand (dcmpT (op_eqE hr.units) opd_eq (dixP (dv 2) di) ds (nomark _)) (tand1 (dcmpT (op_eqE hr.units) opd_eq (dlen (m_len T) (acons (dv 2) anil)) di (nomark _)))).pt (sone (sret (m := 0) (dx (dandV (dfrz (dcn D_is_choice (hr.mono (by decide)) hA (acons (dv 0) (acons (dixP (dv 2) di) (acons (dixP (dv 2) di) anil))))) (done (dcmp (op_eqE hr.units) opd_eq (dfrz (dcn D_chosen (hr.mono (by decide)) hA (acons (dv 0) (acons (dixP (dv 2) di) (acons (dixP (dv 2) di) anil))))) (dv 1) (nomark _))))))) snil) (sone (sret (m := 0) (dx (dandV (dcmp (op_eqE hr.units) opd_eq (dixP (dv 2) di) ds (nomark _)) (dandV (dcmp (op_eqE hr.units) opd_eq (dlen (m_len T) (acons (dv 2) anil)) di (nomark _)) (done (dfrz (dcn D_are_bars (hr.mono (by decide)) hA (acons (dv 0) (acons (dv 1) (acons (dixP (dv 2) di) anil))))))))))))))), fun as Q h => ?_⟩
  unfold S_shows_set at h
  split at h
  · unfold q_shows_set at h
    rename_i x0 x1 x2
    refine at_env (b := [.dat x0, .dat x1, .dat x2]) rfl ?_
    exact Eq.mp (by kernel_rfl) h
  · exact h.elim
theorem ok_shows_set (T : Tp K mg) (D_are_bars : Dn P w K mg base "are_bars" 3 ["sights", "ships", "thing"] S_are_bars) (D_chosen : Dn P w K mg base "chosen" 1 ["sights", "log", "columns"] S_chosen) (D_is_choice : Dn P w K mg base "is_choice" 3 ["sights", "log", "columns"] S_is_choice) (D_need_set : DnX P w K mg base "need_set" 3 ["sights", "thing"] S_need_set) (D_need_sights : DnX P w K mg base "need_sights" 4 ["thing"] S_need_sights) : DnX P w K mg base "shows_set" 5 ["sights", "ships", "thing"] S_shows_set := by
  obtain ⟨kV, doc, pm, an, cdv, ct, Fn⟩ := T.fun_ "shows_set" (top 50) 16 102
  exact ⟨⟨_, fg_shows_set T D_are_bars D_chosen D_is_choice D_need_set D_need_sights Fn, Fn.binds (ps := ["sights", "ships", "thing"]) fun _ _ _ _ _ _ us hl => match us, hl with | [_, _, _], _ => rfl⟩, T.glo "shows_set" 36, T.keep "shows_set" 102⟩
def kk_sure_by : RT → (PyData → Prop) := fun R v => R (.dat v) []
def em_sure_by_1 (i : PyData × PyData) (s : Unit) : List SD := [.dat i.1, .dat i.2, .un, .un]
def de_sure_by_1 : List SD → Option ((PyData × PyData) × (Unit))
  | [.dat x0, .dat x1, .un, .un] => some ((x0, x1), ())
  | _ => none
theorem hde_sure_by_1 : ∀ env i s, de_sure_by_1 env = some (i, s) → env = em_sure_by_1 i s := by
  intro env i s h
  unfold de_sure_by_1 at h
  split at h
  · cases h; rfl
  · cases h
def S_sure_by : DSp := fun as Q => match as with
  | [.dat x0, .dat x1] => q_sure_by x0 x1 (kk_sure_by Q)
  | _ => False
theorem len_sure_by (as : List SD) (Q : SD → List SD → Prop) (h : S_sure_by as Q) : as.length = 2 := by
  unfold S_sure_by at h
  split at h
  · rfl
  · exact h.elim
theorem cels_sure_by : CelsIn 0 S_sure_by := by
  intro as Q h i p xs e
  unfold S_sure_by at h
  split at h
  · exact absurd e (no_cel (ds := [_, _]) i p xs)
  · exact h.elim
def N_sure_by : List Str := ["sights", "log", "ship", "table"]
theorem sc_sure_by : FnScope N_sure_by ["sights", "log"] (defScope (top 51)) := ⟨rfl, rfl, rfl, by decide +kernel, rfl, by decide +kernel, by decide +kernel⟩
theorem fg_sure_by (T : Tp K mg)  {fd : FuncData} (Fn : Fun K "sure_by" "sure_by" (top 51) (He.ga K "sure_by") fd) : FnG P w K mg base 1 (He.ga K "sure_by") fd ["sights", "log"] S_sure_by := by
  refine dfn 0 Fn sc_sure_by len_sure_by cels_sure_by fun cdv A outer s H hr hA => ⟨_, (sone (sret (m := 0) (dx (dtupleOf (m_tuple T) (acons (dfrz (dlc (dec := de_sure_by_1) (emb := em_sure_by_1) (qb := qb_sure_by_1) [("ship", 2), ("table", 3)] (.tup [2, 3]) hde_sure_by_1 rfl sc_sure_by.nd (ienum (m_enumerate T) (acons (dixP (dv 0) di) anil)) (blkOk_by (own := [("ship", 2), ("table", 3)]) (N := N_sure_by) (sc := defScope (top 51)) (by decide +kernel)) (fun _ _ _ _ _ => pg_tup rfl (pgs_cons (pg_name (i := 2) sc_sure_by.nd rfl (Or.inl rfl)) (pgs_cons (pg_name (i := 3) sc_sure_by.nd rfl (Or.inl rfl)) pgs_nil))) (fun _ _ _ _ _ => tif1 (tnin hr db (dixP (dv 3) (dv 1)))) (fun _ _ _ _ _ => (dv 2)) (fun d i s sk yd h => Eq.mp (by kernel_rfl) h))) anil))))), fun as Q h => ?_⟩
  unfold S_sure_by at h
  split at h
  · unfold q_sure_by at h
    rename_i x0 x1
    refine at_env (b := [.dat x0, .dat x1, .un, .un]) rfl ?_
    exact Eq.mp (by kernel_rfl) h
  · exact h.elim
theorem ok_sure_by (T : Tp K mg)  : Dn P w K mg base "sure_by" 1 ["sights", "log"] S_sure_by := by
  obtain ⟨kV, doc, pm, an, cdv, ct, Fn⟩ := T.fun_ "sure_by" (top 51) 17 103
  exact ⟨⟨_, fg_sure_by T  Fn, Fn.binds (ps := ["sights", "log"]) fun _ _ _ _ _ _ us hl => match us, hl with | [_, _], _ => rfl⟩, T.glo "sure_by" 37, T.keep "sure_by" 103⟩
def kk_some_by : RT → (PyData → Prop) := fun R v => R (.dat v) []
def em_some_by_1 (i : PyData × PyData) (s : Unit) : List SD := [.dat i.1, .dat i.2, .un, .un]
def de_some_by_1 : List SD → Option ((PyData × PyData) × (Unit))
  | [.dat x0, .dat x1, .un, .un] => some ((x0, x1), ())
  | _ => none
theorem hde_some_by_1 : ∀ env i s, de_some_by_1 env = some (i, s) → env = em_some_by_1 i s := by
  intro env i s h
  unfold de_some_by_1 at h
  split at h
  · cases h; rfl
  · cases h
def S_some_by : DSp := fun as Q => match as with
  | [.dat x0, .dat x1] => q_some_by x0 x1 (kk_some_by Q)
  | _ => False
theorem len_some_by (as : List SD) (Q : SD → List SD → Prop) (h : S_some_by as Q) : as.length = 2 := by
  unfold S_some_by at h
  split at h
  · rfl
  · exact h.elim
theorem cels_some_by : CelsIn 0 S_some_by := by
  intro as Q h i p xs e
  unfold S_some_by at h
  split at h
  · exact absurd e (no_cel (ds := [_, _]) i p xs)
  · exact h.elim
def N_some_by : List Str := ["sights", "log", "ship", "table"]
theorem sc_some_by : FnScope N_some_by ["sights", "log"] (defScope (top 52)) := ⟨rfl, rfl, rfl, by decide +kernel, rfl, by decide +kernel, by decide +kernel⟩
theorem fg_some_by (T : Tp K mg)  {fd : FuncData} (Fn : Fun K "some_by" "some_by" (top 52) (He.ga K "some_by") fd) : FnG P w K mg base 1 (He.ga K "some_by") fd ["sights", "log"] S_some_by := by
  refine dfn 0 Fn sc_some_by len_some_by cels_some_by fun cdv A outer s H hr hA => ⟨_, (sone (sret (m := 0) (dx (dtupleOf (m_tuple T) (acons (dfrz (dlc (dec := de_some_by_1) (emb := em_some_by_1) (qb := qb_some_by_1) [("ship", 2), ("table", 3)] (.tup [2, 3]) hde_some_by_1 rfl sc_some_by.nd (ienum (m_enumerate T) (acons (dixP (dv 0) di) anil)) (blkOk_by (own := [("ship", 2), ("table", 3)]) (N := N_some_by) (sc := defScope (top 52)) (by decide +kernel)) (fun _ _ _ _ _ => pg_tup rfl (pgs_cons (pg_name (i := 2) sc_some_by.nd rfl (Or.inl rfl)) (pgs_cons (pg_name (i := 3) sc_some_by.nd rfl (Or.inl rfl)) pgs_nil))) (fun _ _ _ _ _ => tif1 (tin hr db (dixP (dv 3) (dv 1)))) (fun _ _ _ _ _ => (dv 2)) (fun d i s sk yd h => Eq.mp (by kernel_rfl) h))) anil))))), fun as Q h => ?_⟩
  unfold S_some_by at h
  split at h
  · unfold q_some_by at h
    rename_i x0 x1
    refine at_env (b := [.dat x0, .dat x1, .un, .un]) rfl ?_
    exact Eq.mp (by kernel_rfl) h
  · exact h.elim
theorem ok_some_by (T : Tp K mg)  : Dn P w K mg base "some_by" 1 ["sights", "log"] S_some_by := by
  obtain ⟨kV, doc, pm, an, cdv, ct, Fn⟩ := T.fun_ "some_by" (top 52) 18 104
  exact ⟨⟨_, fg_some_by T  Fn, Fn.binds (ps := ["sights", "log"]) fun _ _ _ _ _ _ us hl => match us, hl with | [_, _], _ => rfl⟩, T.glo "some_by" 38, T.keep "some_by" 104⟩
def kk_sets_by : RT → (PyData → Prop) := fun R v => R (.dat v) []
def em_sets_by_1 (i : PyData) (s : PyData) : List SD := [.un, .un, .dat i, .dat s, .un, .un, .un]
def de_sets_by_1 : List SD → Option ((PyData) × (PyData))
  | [.un, .un, .dat x2, .dat x3, .un, .un, .un] => some (x2, x3)
  | _ => none
theorem hde_sets_by_1 : ∀ env i s, de_sets_by_1 env = some (i, s) → env = em_sets_by_1 i s := by
  intro env i s h
  unfold de_sets_by_1 at h
  split at h
  · cases h; rfl
  · cases h
def em_sets_by_2 (i : PyData × PyData × PyData) (s : Unit) : List SD := [.un, .un, .dat i.1, .dat i.2.1, .dat i.2.2, .un, .un]
def de_sets_by_2 : List SD → Option ((PyData × PyData × PyData) × (Unit))
  | [.un, .un, .dat x2, .dat x3, .dat x4, .un, .un] => some ((x2, x3, x4), ())
  | _ => none
theorem hde_sets_by_2 : ∀ env i s, de_sets_by_2 env = some (i, s) → env = em_sets_by_2 i s := by
  intro env i s h
  unfold de_sets_by_2 at h
  split at h
  · cases h; rfl
  · cases h
def S_sets_by : DSp := fun as Q => match as with
  | [.dat x0, .dat x1] => q_sets_by x0 x1 (kk_sets_by Q)
  | _ => False
theorem len_sets_by (as : List SD) (Q : SD → List SD → Prop) (h : S_sets_by as Q) : as.length = 2 := by
  unfold S_sets_by at h
  split at h
  · rfl
  · exact h.elim
theorem cels_sets_by : CelsIn 0 S_sets_by := by
  intro as Q h i p xs e
  unfold S_sets_by at h
  split at h
  · exact absurd e (no_cel (ds := [_, _]) i p xs)
  · exact h.elim
def N_sets_by : List Str := ["sights", "log", "sure", "found", "ship", "more", "ships"]
theorem sc_sets_by : FnScope N_sets_by ["sights", "log"] (defScope (top 53)) := ⟨rfl, rfl, rfl, by decide +kernel, rfl, by decide +kernel, by decide +kernel⟩
theorem fg_sets_by (T : Tp K mg) (D_some_by : Dn P w K mg base "some_by" 1 ["sights", "log"] S_some_by) (D_sure_by : Dn P w K mg base "sure_by" 1 ["sights", "log"] S_sure_by) {fd : FuncData} (Fn : Fun K "sets_by" "sets_by" (top 53) (He.ga K "sets_by") fd) : FnG P w K mg base 2 (He.ga K "sets_by") fd ["sights", "log"] S_sets_by := by
  refine dfn 0 Fn sc_sets_by len_sets_by cels_sets_by fun cdv A outer s H hr hA => ⟨_, (scons (sset 2 sc_sets_by.nd (dcn D_sure_by (hr.mono (by decide)) hA (acons (dv 0) (acons (dv 1) anil)))) (scons (sset 3 sc_sets_by.nd (dx (dfrz (dlst (acons (dtup anil) anil))))) (scons (sforQ [0, 1, 4, 5] de_sets_by_1 em_sets_by_1 kk_sets_by qb_sets_by_1 hde_sets_by_1 PassesOwn.never rfl (iseq (dfrz (dcn D_some_by (hr.mono (by decide)) hA (acons (dv 0) (acons (dv 1) anil))))) (gn 4 sc_sets_by.nd) (scons (ssetLc (dec := de_sets_by_2) (emb := em_sets_by_2) (qb := qb_sets_by_2) 5 [("ships", 6)] (.one 6) hde_sets_by_2 rfl sc_sets_by.nd (iseq (dv 3)) (blkOk_by (own := [("ships", 6)]) (N := N_sets_by) (sc := defScope (top 53)) (by decide +kernel)) (fun _ _ _ _ _ => pg_name (i := 6) sc_sets_by.nd rfl (Or.inl rfl)) (fun _ _ _ _ _ => tyes) (fun _ _ _ _ _ => (dadd (dv 6) (dtup (acons (dv 4) anil)))) (fun d i s sk yd h => Eq.mp (by kernel_rfl) h) (sw_true rfl rfl rfl (by decide +kernel))) (ssfreeze2 5 (sone (sset 3 sc_sets_by.nd (dx (dif (tin hr (dv 4) (dv 2)) (dv 5) (dadd (dv 3) (dv 5)))))))) (fun R d i s nx bk h => Eq.mp (by kernel_rfl) h)) (sone (sret (m := 0) (dx (dv 3))))))), fun as Q h => ?_⟩
  unfold S_sets_by at h
  split at h
  · unfold q_sets_by at h
    rename_i x0 x1
    refine at_env (b := [.dat x0, .dat x1, .un, .un, .un, .un, .un]) rfl ?_
    exact Eq.mp (by kernel_rfl) h
  · exact h.elim
theorem ok_sets_by (T : Tp K mg) (D_some_by : Dn P w K mg base "some_by" 1 ["sights", "log"] S_some_by) (D_sure_by : Dn P w K mg base "sure_by" 1 ["sights", "log"] S_sure_by) : Dn P w K mg base "sets_by" 2 ["sights", "log"] S_sets_by := by
  obtain ⟨kV, doc, pm, an, cdv, ct, Fn⟩ := T.fun_ "sets_by" (top 53) 19 105
  exact ⟨⟨_, fg_sets_by T D_some_by D_sure_by Fn, Fn.binds (ps := ["sights", "log"]) fun _ _ _ _ _ _ us hl => match us, hl with | [_, _], _ => rfl⟩, T.glo "sets_by" 39, T.keep "sets_by" 105⟩
def kk_all_sets : RT → (PyData → Prop) := fun R v => R (.dat v) []
def em_all_sets_1 (i : PyData) (s : KVD) : List SD := [.dat i, .dic s, .un, .un]
def de_all_sets_1 : List SD → Option ((PyData) × (KVD))
  | [.dat x0, .dic x1, .un, .un] => some (x0, x1)
  | _ => none
theorem hde_all_sets_1 : ∀ env i s, de_all_sets_1 env = some (i, s) → env = em_all_sets_1 i s := by
  intro env i s h
  unfold de_all_sets_1 at h
  split at h
  · cases h; rfl
  · cases h
def em_all_sets_2 (i : PyData) (s : KVD) : List SD := [.dat i, .dic s, .un, .un]
def de_all_sets_2 : List SD → Option ((PyData) × (KVD))
  | [.dat x0, .dic x1, .un, .un] => some (x0, x1)
  | _ => none
theorem hde_all_sets_2 : ∀ env i s, de_all_sets_2 env = some (i, s) → env = em_all_sets_2 i s := by
  intro env i s h
  unfold de_all_sets_2 at h
  split at h
  · cases h; rfl
  · cases h
def S_all_sets : DSpX := fun as Q E => match as with
  | [.dat x0] => q_all_sets x0 (kk_all_sets Q) E
  | _ => False
theorem len_all_sets (as : List SD) (Q : SD → List SD → Prop) (E : Str → Prop) (h : S_all_sets as Q E) : as.length = 1 := by
  unfold S_all_sets at h
  split at h
  · rfl
  · exact h.elim
theorem nc_all_sets (as : List SD) (Q : SD → List SD → Prop) (E : Str → Prop) (h : S_all_sets as Q E) : NoCel as := by
  intro i p xs e
  unfold S_all_sets at h
  split at h
  · exact absurd e (no_cel (ds := [_]) i p xs)
  · exact h.elim
def N_all_sets : List Str := ["sights", "found", "log", "ships"]
theorem sc_all_sets : FnScope N_all_sets ["sights"] (defScope (top 54)) := ⟨rfl, rfl, rfl, by decide +kernel, rfl, by decide +kernel, by decide +kernel⟩
theorem fg_all_sets (T : Tp K mg) (D_need_sights : DnX P w K mg base "need_sights" 4 ["thing"] S_need_sights) (D_sets_by : Dn P w K mg base "sets_by" 2 ["sights", "log"] S_sets_by) {fd : FuncData} (Fn : Fun K "all_sets" "all_sets" (top 54) (He.ga K "all_sets") fd) : FnX P w K mg base 5 (He.ga K "all_sets") fd ["sights"] S_all_sets := by
  refine dfnXW Fn sc_all_sets len_all_sets nc_all_sets fun Ec cdv A outer s H E hP hW tk po hr hA => ⟨_, (scons (sexpr (dcnE D_need_sights (hr.mono (by decide)) hA tk (acons (dv 0) anil))) (scons (sdnew 1 sc_all_sets.nd hP hW) (scons (sforQ [2, 3] de_all_sets_1 em_all_sets_1 kk_all_sets (qb_all_sets_1 Ec) hde_all_sets_1 po rfl (irange1 (m_range T) (acons (dixP (dv 0) di) anil)) (gn 2 sc_all_sets.nd) (sone (sforQ [2, 3] de_all_sets_2 em_all_sets_2 kk_all_sets (qb_all_sets_2 Ec) hde_all_sets_2 po rfl (iseq (dfrz (dcn D_sets_by (hr.mono (by decide)) hA (acons (dv 0) (acons (dv 2) anil))))) (gn 3 sc_all_sets.nd) (sone (sdput 1 hr hP hW db (dv 3))) (fun R d i s nx bk h => Eq.mp (by kernel_rfl) h))) (fun R d i s nx bk h => Eq.mp (by kernel_rfl) h)) (sone (sret (m := 0) (dx (dtupleOf (m_tuple T) (acons (dfrz (dsortX 1 hr rfl hP hW (m_sorted T))) anil)))))))), fun as Q h => ?_⟩
  unfold S_all_sets at h
  split at h
  · unfold q_all_sets at h
    rename_i x0
    refine at_env (b := [.dat x0, .un, .un, .un]) rfl ?_
    exact Eq.mp (by kernel_rfl) h
  · exact h.elim
theorem ok_all_sets (T : Tp K mg) (D_need_sights : DnX P w K mg base "need_sights" 4 ["thing"] S_need_sights) (D_sets_by : Dn P w K mg base "sets_by" 2 ["sights", "log"] S_sets_by) : DnX P w K mg base "all_sets" 5 ["sights"] S_all_sets := by
  obtain ⟨kV, doc, pm, an, cdv, ct, Fn⟩ := T.fun_ "all_sets" (top 54) 20 106
  exact ⟨⟨_, fg_all_sets T D_need_sights D_sets_by Fn, Fn.binds (ps := ["sights"]) fun _ _ _ _ _ _ us hl => match us, hl with | [_], _ => rfl⟩, T.glo "all_sets" 40, T.keep "all_sets" 106⟩
def kk_how_many : RT → (PyData → Prop) := fun R v => R (.dat v) []
def em_how_many_1 (i : PyData × PyData) (s : PyData) : List SD := [.dat i.1, .dat i.2, .dat s, .un, .un, .un, .un]
def de_how_many_1 : List SD → Option ((PyData × PyData) × (PyData))
  | [.dat x0, .dat x1, .dat x2, .un, .un, .un, .un] => some ((x0, x1), x2)
  | _ => none
theorem hde_how_many_1 : ∀ env i s, de_how_many_1 env = some (i, s) → env = em_how_many_1 i s := by
  intro env i s h
  unfold de_how_many_1 at h
  split at h
  · cases h; rfl
  · cases h
def em_how_many_2 (i : PyData × PyData × PyData × PyData) (s : PyData) : List SD := [.dat i.1, .dat i.2.1, .dat i.2.2.1, .dat i.2.2.2, .dat s, .un, .un]
def de_how_many_2 : List SD → Option ((PyData × PyData × PyData × PyData) × (PyData))
  | [.dat x0, .dat x1, .dat x2, .dat x3, .dat x4, .un, .un] => some ((x0, x1, x2, x3), x4)
  | _ => none
theorem hde_how_many_2 : ∀ env i s, de_how_many_2 env = some (i, s) → env = em_how_many_2 i s := by
  intro env i s h
  unfold de_how_many_2 at h
  split at h
  · cases h; rfl
  · cases h
def S_how_many : DSpX := fun as Q E => match as with
  | [.dat x0, .dat x1] => q_how_many x0 x1 (kk_how_many Q) E
  | _ => False
theorem len_how_many (as : List SD) (Q : SD → List SD → Prop) (E : Str → Prop) (h : S_how_many as Q E) : as.length = 2 := by
  unfold S_how_many at h
  split at h
  · rfl
  · exact h.elim
theorem nc_how_many (as : List SD) (Q : SD → List SD → Prop) (E : Str → Prop) (h : S_how_many as Q E) : NoCel as := by
  intro i p xs e
  unfold S_how_many at h
  split at h
  · exact absurd e (no_cel (ds := [_, _]) i p xs)
  · exact h.elim
def N_how_many : List Str := ["sights", "ships", "found", "log", "many", "ship", "table"]
theorem sc_how_many : FnScope N_how_many ["sights", "ships"] (defScope (top 55)) := ⟨rfl, rfl, rfl, by decide +kernel, rfl, by decide +kernel, by decide +kernel⟩
theorem fg_how_many (T : Tp K mg) (D_need_set : DnX P w K mg base "need_set" 3 ["sights", "thing"] S_need_set) (D_need_sights : DnX P w K mg base "need_sights" 4 ["thing"] S_need_sights) {fd : FuncData} (Fn : Fun K "how_many" "how_many" (top 55) (He.ga K "how_many") fd) : FnX P w K mg base 5 (He.ga K "how_many") fd ["sights", "ships"] S_how_many := by
  refine dfnX Fn sc_how_many len_how_many nc_how_many fun Ec cdv A outer s H E tk po hr hA => ⟨_, (scons (sexpr (dcnE D_need_sights (hr.mono (by decide)) hA tk (acons (dv 0) anil))) (scons (sexpr (dcnE D_need_set (hr.mono (by decide)) hA tk (acons (dv 0) (acons (dv 1) anil)))) (scons (sset 2 sc_how_many.nd (dx di)) (scons (sforQ [3, 4, 5, 6] de_how_many_1 em_how_many_1 kk_how_many (qb_how_many_1 Ec) hde_how_many_1 po rfl (irange1 (m_range T) (acons (dixP (dv 0) di) anil)) (gn 3 sc_how_many.nd) (scons (sset 4 sc_how_many.nd (dx di)) (scons (sforQ [5, 6] de_how_many_2 em_how_many_2 kk_how_many (qb_how_many_2 Ec) hde_how_many_2 po rfl (ienum (m_enumerate T) (acons (dixP (dv 0) di) anil)) (gtup (gl_cons gok_n (gl_cons gok_n gl_nil)) rfl (gcons (gn 5 sc_how_many.nd) (gcons (gn 6 sc_how_many.nd) gnil))) (sone (sset 4 sc_how_many.nd (dx (dmul (dv 4) (dcntT hr.u65 (dixP (dv 6) (dv 3)) (din hr (dv 5) (dv 1))))))) (fun R d i s nx bk h => Eq.mp (by kernel_rfl) h)) (sone (sset 2 sc_how_many.nd (dx (dadd (dv 2) (dv 4))))))) (fun R d i s nx bk h => Eq.mp (by kernel_rfl) h)) (sone (sret (m := 0) (dx (dv 2)))))))), fun as Q h => ?_⟩
  unfold S_how_many at h
  split at h
  · unfold q_how_many at h
    rename_i x0 x1
    refine at_env (b := [.dat x0, .dat x1, .un, .un, .un, .un, .un]) rfl ?_
    exact Eq.mp (by kernel_rfl) h
  · exact h.elim
theorem ok_how_many (T : Tp K mg) (D_need_set : DnX P w K mg base "need_set" 3 ["sights", "thing"] S_need_set) (D_need_sights : DnX P w K mg base "need_sights" 4 ["thing"] S_need_sights) : DnX P w K mg base "how_many" 5 ["sights", "ships"] S_how_many := by
  obtain ⟨kV, doc, pm, an, cdv, ct, Fn⟩ := T.fun_ "how_many" (top 55) 21 107
  exact ⟨⟨_, fg_how_many T D_need_set D_need_sights Fn, Fn.binds (ps := ["sights", "ships"]) fun _ _ _ _ _ _ us hl => match us, hl with | [_, _], _ => rfl⟩, T.glo "how_many" 41, T.keep "how_many" 107⟩
def kk_must : RT → (PyData → Prop) := fun R v => R (.dat v) []
def em_must_1 (i : PyData) (s : Unit) : List SD := [.dat i, .un, .un, .un, .un]
def de_must_1 : List SD → Option ((PyData) × (Unit))
  | [.dat x0, .un, .un, .un, .un] => some (x0, ())
  | _ => none
theorem hde_must_1 : ∀ env i s, de_must_1 env = some (i, s) → env = em_must_1 i s := by
  intro env i s h
  unfold de_must_1 at h
  split at h
  · cases h; rfl
  · cases h
def em_must_2 (i : PyData) (s : Unit) : List SD := [.un, .dat i, .un, .un, .un]
def de_must_2 : List SD → Option ((PyData) × (Unit))
  | [.un, .dat x1, .un, .un, .un] => some (x1, ())
  | _ => none
theorem hde_must_2 : ∀ env i s, de_must_2 env = some (i, s) → env = em_must_2 i s := by
  intro env i s h
  unfold de_must_2 at h
  split at h
  · cases h; rfl
  · cases h
def em_must_3 (i : PyData × PyData) (s : Unit) : List SD := [.un, .dat i.1, .un, .dat i.2, .un]
def de_must_3 : List SD → Option ((PyData × PyData) × (Unit))
  | [.un, .dat x1, .un, .dat x3, .un] => some ((x1, x3), ())
  | _ => none
theorem hde_must_3 : ∀ env i s, de_must_3 env = some (i, s) → env = em_must_3 i s := by
  intro env i s h
  unfold de_must_3 at h
  split at h
  · cases h; rfl
  · cases h
def S_must : DSpX := fun as Q E => match as with
  | [.dat x0] => q_must x0 (kk_must Q) E
  | _ => False
theorem len_must (as : List SD) (Q : SD → List SD → Prop) (E : Str → Prop) (h : S_must as Q E) : as.length = 1 := by
  unfold S_must at h
  split at h
  · rfl
  · exact h.elim
theorem nc_must (as : List SD) (Q : SD → List SD → Prop) (E : Str → Prop) (h : S_must as Q E) : NoCel as := by
  intro i p xs e
  unfold S_must at h
  split at h
  · exact absurd e (no_cel (ds := [_]) i p xs)
  · exact h.elim
def N_must : List Str := ["sights", "rows", "log", "ship", "row"]
theorem sc_must : FnScope N_must ["sights"] (defScope (top 56)) := ⟨rfl, rfl, rfl, by decide +kernel, rfl, by decide +kernel, by decide +kernel⟩
theorem fg_must (T : Tp K mg) (D_need_sights : DnX P w K mg base "need_sights" 4 ["thing"] S_need_sights) (D_sure_by : Dn P w K mg base "sure_by" 1 ["sights", "log"] S_sure_by) {fd : FuncData} (Fn : Fun K "must" "must" (top 56) (He.ga K "must") fd) : FnX P w K mg base 5 (He.ga K "must") fd ["sights"] S_must := by
  refine dfnX Fn sc_must len_must nc_must fun Ec cdv A outer s H E tk po hr hA => ⟨_, (scons (sexpr (dcnE D_need_sights (hr.mono (by decide)) hA tk (acons (dv 0) anil))) (scons (sset 1 sc_must.nd (dlc (dec := de_must_1) (emb := em_must_1) (qb := (qb_must_1 Ec)) [("log", 2)] (.one 2) hde_must_1 rfl sc_must.nd (irange1 (m_range T) (acons (dixP (dv 0) di) anil)) (blkOk_by (own := [("log", 2)]) (N := N_must) (sc := defScope (top 56)) (by decide +kernel)) (fun _ _ _ _ _ => pg_name (i := 2) sc_must.nd rfl (Or.inl rfl)) (fun _ _ _ _ _ => tyes) (fun _ _ _ _ _ => (dfrz (dcn D_sure_by (hr.mono (by decide)) hA (acons (dv 0) (acons (dv 2) anil))))) (fun d i s sk yd h => Eq.mp (by kernel_rfl) h))) (ssforget [0] (ssfreeze2 1 (sone (sret (m := 0) (dx (dtupleOf (m_tuple T) (acons (dfrz (dlc (dec := de_must_2) (emb := em_must_2) (qb := (qb_must_2 Ec)) [("ship", 3)] (.one 3) hde_must_2 rfl sc_must.nd (iseq (dixP (dv 1) di)) (blkOk_by (own := [("ship", 3)]) (N := N_must) (sc := defScope (top 56)) (by decide +kernel)) (fun _ _ _ _ _ => pg_name (i := 3) sc_must.nd rfl (Or.inr rfl)) (fun _ _ _ _ _ => tif1 (dtest (dall (m_all T) rfl (acons (dfrz (dlc (dec := de_must_3) (emb := em_must_3) (qb := (qb_must_3 Ec)) [("row", 4)] (.one 4) hde_must_3 rfl sc_must.nd (iseq (dv 1)) (blkOk_by (own := [("row", 4)]) (N := N_must) (by kernel_rfl)) (fun _ _ _ _ _ => pg_name (i := 4) sc_must.nd rfl (Or.inl rfl)) (fun _ _ _ _ _ => tyes) (fun _ _ _ _ _ => (din hr (dv 3) (dv 4))) (fun d i s sk yd h => Eq.mp (by kernel_rfl) h))) anil)))) (fun _ _ _ _ _ => (dv 3)) (fun d i s sk yd h => Eq.mp (by kernel_rfl) h))) anil))))))))), fun as Q h => ?_⟩
  unfold S_must at h
  split at h
  · unfold q_must at h
    rename_i x0
    refine at_env (b := [.dat x0, .un, .un, .un, .un]) rfl ?_
    exact Eq.mp (by kernel_rfl) h
  · exact h.elim
theorem ok_must (T : Tp K mg) (D_need_sights : DnX P w K mg base "need_sights" 4 ["thing"] S_need_sights) (D_sure_by : Dn P w K mg base "sure_by" 1 ["sights", "log"] S_sure_by) : DnX P w K mg base "must" 5 ["sights"] S_must := by
  obtain ⟨kV, doc, pm, an, cdv, ct, Fn⟩ := T.fun_ "must" (top 56) 22 108
  exact ⟨⟨_, fg_must T D_need_sights D_sure_by Fn, Fn.binds (ps := ["sights"]) fun _ _ _ _ _ _ us hl => match us, hl with | [_], _ => rfl⟩, T.glo "must" 42, T.keep "must" 108⟩
def kk_can : RT → (PyData → Prop) := fun R v => R (.dat v) []
def em_can_1 (i : PyData) (s : Unit) : List SD := [.dat i, .un, .un, .un, .un]
def de_can_1 : List SD → Option ((PyData) × (Unit))
  | [.dat x0, .un, .un, .un, .un] => some (x0, ())
  | _ => none
theorem hde_can_1 : ∀ env i s, de_can_1 env = some (i, s) → env = em_can_1 i s := by
  intro env i s h
  unfold de_can_1 at h
  split at h
  · cases h; rfl
  · cases h
def em_can_2 (i : PyData × PyData) (s : Unit) : List SD := [.dat i.1, .dat i.2, .un, .un, .un]
def de_can_2 : List SD → Option ((PyData × PyData) × (Unit))
  | [.dat x0, .dat x1, .un, .un, .un] => some ((x0, x1), ())
  | _ => none
theorem hde_can_2 : ∀ env i s, de_can_2 env = some (i, s) → env = em_can_2 i s := by
  intro env i s h
  unfold de_can_2 at h
  split at h
  · cases h; rfl
  · cases h
def em_can_3 (i : PyData × PyData × PyData) (s : Unit) : List SD := [.dat i.1, .dat i.2.1, .un, .dat i.2.2, .un]
def de_can_3 : List SD → Option ((PyData × PyData × PyData) × (Unit))
  | [.dat x0, .dat x1, .un, .dat x3, .un] => some ((x0, x1, x3), ())
  | _ => none
theorem hde_can_3 : ∀ env i s, de_can_3 env = some (i, s) → env = em_can_3 i s := by
  intro env i s h
  unfold de_can_3 at h
  split at h
  · cases h; rfl
  · cases h
def S_can : DSpX := fun as Q E => match as with
  | [.dat x0] => q_can x0 (kk_can Q) E
  | _ => False
theorem len_can (as : List SD) (Q : SD → List SD → Prop) (E : Str → Prop) (h : S_can as Q E) : as.length = 1 := by
  unfold S_can at h
  split at h
  · rfl
  · exact h.elim
theorem nc_can (as : List SD) (Q : SD → List SD → Prop) (E : Str → Prop) (h : S_can as Q E) : NoCel as := by
  intro i p xs e
  unfold S_can at h
  split at h
  · exact absurd e (no_cel (ds := [_]) i p xs)
  · exact h.elim
def N_can : List Str := ["sights", "rows", "log", "ship", "row"]
theorem sc_can : FnScope N_can ["sights"] (defScope (top 57)) := ⟨rfl, rfl, rfl, by decide +kernel, rfl, by decide +kernel, by decide +kernel⟩
theorem fg_can (T : Tp K mg) (D_need_sights : DnX P w K mg base "need_sights" 4 ["thing"] S_need_sights) (D_some_by : Dn P w K mg base "some_by" 1 ["sights", "log"] S_some_by) {fd : FuncData} (Fn : Fun K "can" "can" (top 57) (He.ga K "can") fd) : FnX P w K mg base 5 (He.ga K "can") fd ["sights"] S_can := by
  refine dfnX Fn sc_can len_can nc_can fun Ec cdv A outer s H E tk po hr hA => ⟨_, (scons (sexpr (dcnE D_need_sights (hr.mono (by decide)) hA tk (acons (dv 0) anil))) (scons (sset 1 sc_can.nd (dlc (dec := de_can_1) (emb := em_can_1) (qb := (qb_can_1 Ec)) [("log", 2)] (.one 2) hde_can_1 rfl sc_can.nd (irange1 (m_range T) (acons (dixP (dv 0) di) anil)) (blkOk_by (own := [("log", 2)]) (N := N_can) (sc := defScope (top 57)) (by decide +kernel)) (fun _ _ _ _ _ => pg_name (i := 2) sc_can.nd rfl (Or.inl rfl)) (fun _ _ _ _ _ => tyes) (fun _ _ _ _ _ => (dfrz (dcn D_some_by (hr.mono (by decide)) hA (acons (dv 0) (acons (dv 2) anil))))) (fun d i s sk yd h => Eq.mp (by kernel_rfl) h))) (ssfreeze2 1 (sone (sret (m := 0) (dx (dtupleOf (m_tuple T) (acons (dfrz (dlc (dec := de_can_2) (emb := em_can_2) (qb := (qb_can_2 Ec)) [("ship", 3)] (.one 3) hde_can_2 rfl sc_can.nd (irange1 (m_range T) (acons (dlen (m_len T) (acons (dixP (dv 0) di) anil)) anil)) (blkOk_by (own := [("ship", 3)]) (N := N_can) (sc := defScope (top 57)) (by decide +kernel)) (fun _ _ _ _ _ => pg_name (i := 3) sc_can.nd rfl (Or.inr rfl)) (fun _ _ _ _ _ => tif1 (dtest (dany (m_any T) rfl (acons (dfrz (dlc (dec := de_can_3) (emb := em_can_3) (qb := (qb_can_3 Ec)) [("row", 4)] (.one 4) hde_can_3 rfl sc_can.nd (iseq (dv 1)) (blkOk_by (own := [("row", 4)]) (N := N_can) (by kernel_rfl)) (fun _ _ _ _ _ => pg_name (i := 4) sc_can.nd rfl (Or.inl rfl)) (fun _ _ _ _ _ => tyes) (fun _ _ _ _ _ => (din hr (dv 3) (dv 4))) (fun d i s sk yd h => Eq.mp (by kernel_rfl) h))) anil)))) (fun _ _ _ _ _ => (dv 3)) (fun d i s sk yd h => Eq.mp (by kernel_rfl) h))) anil)))))))), fun as Q h => ?_⟩
  unfold S_can at h
  split at h
  · unfold q_can at h
    rename_i x0
    refine at_env (b := [.dat x0, .un, .un, .un, .un]) rfl ?_
    exact Eq.mp (by kernel_rfl) h
  · exact h.elim
theorem ok_can (T : Tp K mg) (D_need_sights : DnX P w K mg base "need_sights" 4 ["thing"] S_need_sights) (D_some_by : Dn P w K mg base "some_by" 1 ["sights", "log"] S_some_by) : DnX P w K mg base "can" 5 ["sights"] S_can := by
  obtain ⟨kV, doc, pm, an, cdv, ct, Fn⟩ := T.fun_ "can" (top 57) 23 109
  exact ⟨⟨_, fg_can T D_need_sights D_some_by Fn, Fn.binds (ps := ["sights"]) fun _ _ _ _ _ _ us hl => match us, hl with | [_], _ => rfl⟩, T.glo "can" 43, T.keep "can" 109⟩
def kk_must_by : RT → (PyData → Prop) := fun R v => R (.dat v) []
def S_must_by : DSpX := fun as Q E => match as with
  | [.dat x0, .dat x1] => q_must_by x0 x1 (kk_must_by Q) E
  | _ => False
theorem len_must_by (as : List SD) (Q : SD → List SD → Prop) (E : Str → Prop) (h : S_must_by as Q E) : as.length = 2 := by
  unfold S_must_by at h
  split at h
  · rfl
  · exact h.elim
theorem nc_must_by (as : List SD) (Q : SD → List SD → Prop) (E : Str → Prop) (h : S_must_by as Q E) : NoCel as := by
  intro i p xs e
  unfold S_must_by at h
  split at h
  · exact absurd e (no_cel (ds := [_, _]) i p xs)
  · exact h.elim
def N_must_by : List Str := ["sights", "log"]
theorem sc_must_by : FnScope N_must_by ["sights", "log"] (defScope (top 58)) := ⟨rfl, rfl, rfl, by decide +kernel, rfl, by decide +kernel, by decide +kernel⟩
theorem fg_must_by (T : Tp K mg) (D_need_log : DnX P w K mg base "need_log" 3 ["sights", "thing"] S_need_log) (D_need_sights : DnX P w K mg base "need_sights" 4 ["thing"] S_need_sights) (D_sure_by : Dn P w K mg base "sure_by" 1 ["sights", "log"] S_sure_by) {fd : FuncData} (Fn : Fun K "must_by" "must_by" (top 58) (He.ga K "must_by") fd) : FnX P w K mg base 5 (He.ga K "must_by") fd ["sights", "log"] S_must_by := by
  refine dfnX Fn sc_must_by len_must_by nc_must_by fun Ec cdv A outer s H E tk po hr hA => ⟨_, (scons (sexpr (dcnE D_need_sights (hr.mono (by decide)) hA tk (acons (dv 0) anil))) (scons (sexpr (dcnE D_need_log (hr.mono (by decide)) hA tk (acons (dv 0) (acons (dv 1) anil)))) (sone (sret (m := 0) (dx (dfrz (dcn D_sure_by (hr.mono (by decide)) hA (acons (dv 0) (acons (dv 1) anil))))))))), fun as Q h => ?_⟩
  unfold S_must_by at h
  split at h
  · unfold q_must_by at h
    rename_i x0 x1
    refine at_env (b := [.dat x0, .dat x1]) rfl ?_
    exact Eq.mp (by kernel_rfl) h
  · exact h.elim
theorem ok_must_by (T : Tp K mg) (D_need_log : DnX P w K mg base "need_log" 3 ["sights", "thing"] S_need_log) (D_need_sights : DnX P w K mg base "need_sights" 4 ["thing"] S_need_sights) (D_sure_by : Dn P w K mg base "sure_by" 1 ["sights", "log"] S_sure_by) : DnX P w K mg base "must_by" 5 ["sights", "log"] S_must_by := by
  obtain ⟨kV, doc, pm, an, cdv, ct, Fn⟩ := T.fun_ "must_by" (top 58) 24 110
  exact ⟨⟨_, fg_must_by T D_need_log D_need_sights D_sure_by Fn, Fn.binds (ps := ["sights", "log"]) fun _ _ _ _ _ _ us hl => match us, hl with | [_, _], _ => rfl⟩, T.glo "must_by" 44, T.keep "must_by" 110⟩
def kk_can_by : RT → (PyData → Prop) := fun R v => R (.dat v) []
def S_can_by : DSpX := fun as Q E => match as with
  | [.dat x0, .dat x1] => q_can_by x0 x1 (kk_can_by Q) E
  | _ => False
theorem len_can_by (as : List SD) (Q : SD → List SD → Prop) (E : Str → Prop) (h : S_can_by as Q E) : as.length = 2 := by
  unfold S_can_by at h
  split at h
  · rfl
  · exact h.elim
theorem nc_can_by (as : List SD) (Q : SD → List SD → Prop) (E : Str → Prop) (h : S_can_by as Q E) : NoCel as := by
  intro i p xs e
  unfold S_can_by at h
  split at h
  · exact absurd e (no_cel (ds := [_, _]) i p xs)
  · exact h.elim
def N_can_by : List Str := ["sights", "log"]
theorem sc_can_by : FnScope N_can_by ["sights", "log"] (defScope (top 59)) := ⟨rfl, rfl, rfl, by decide +kernel, rfl, by decide +kernel, by decide +kernel⟩
theorem fg_can_by (T : Tp K mg) (D_need_log : DnX P w K mg base "need_log" 3 ["sights", "thing"] S_need_log) (D_need_sights : DnX P w K mg base "need_sights" 4 ["thing"] S_need_sights) (D_some_by : Dn P w K mg base "some_by" 1 ["sights", "log"] S_some_by) {fd : FuncData} (Fn : Fun K "can_by" "can_by" (top 59) (He.ga K "can_by") fd) : FnX P w K mg base 5 (He.ga K "can_by") fd ["sights", "log"] S_can_by := by
  refine dfnX Fn sc_can_by len_can_by nc_can_by fun Ec cdv A outer s H E tk po hr hA => ⟨_, (scons (sexpr (dcnE D_need_sights (hr.mono (by decide)) hA tk (acons (dv 0) anil))) (scons (sexpr (dcnE D_need_log (hr.mono (by decide)) hA tk (acons (dv 0) (acons (dv 1) anil)))) (sone (sret (m := 0) (dx (dfrz (dcn D_some_by (hr.mono (by decide)) hA (acons (dv 0) (acons (dv 1) anil))))))))), fun as Q h => ?_⟩
  unfold S_can_by at h
  split at h
  · unfold q_can_by at h
    rename_i x0 x1
    refine at_env (b := [.dat x0, .dat x1]) rfl ?_
    exact Eq.mp (by kernel_rfl) h
  · exact h.elim
theorem ok_can_by (T : Tp K mg) (D_need_log : DnX P w K mg base "need_log" 3 ["sights", "thing"] S_need_log) (D_need_sights : DnX P w K mg base "need_sights" 4 ["thing"] S_need_sights) (D_some_by : Dn P w K mg base "some_by" 1 ["sights", "log"] S_some_by) : DnX P w K mg base "can_by" 5 ["sights", "log"] S_can_by := by
  obtain ⟨kV, doc, pm, an, cdv, ct, Fn⟩ := T.fun_ "can_by" (top 59) 25 111
  exact ⟨⟨_, fg_can_by T D_need_log D_need_sights D_some_by Fn, Fn.binds (ps := ["sights", "log"]) fun _ _ _ _ _ _ us hl => match us, hl with | [_, _], _ => rfl⟩, T.glo "can_by" 45, T.keep "can_by" 111⟩
def kk_law_pot : RT → (List PyData → Prop) := fun R v => R (.cel false v) []
def S_law_pot : DSp := fun as Q => match as with
  | [.dat x0, .dat x1] => q_law_pot x0 x1 (kk_law_pot Q)
  | _ => False
theorem len_law_pot (as : List SD) (Q : SD → List SD → Prop) (h : S_law_pot as Q) : as.length = 2 := by
  unfold S_law_pot at h
  split at h
  · rfl
  · exact h.elim
theorem cels_law_pot : CelsIn 0 S_law_pot := by
  intro as Q h i p xs e
  unfold S_law_pot at h
  split at h
  · exact absurd e (no_cel (ds := [_, _]) i p xs)
  · exact h.elim
def N_law_pot : List Str := ["_law_script", "_law_k", "_law_cell"]
theorem sc_law_pot : FnScope N_law_pot ["_law_script", "_law_k"] (defScope (top 61)) := ⟨rfl, rfl, rfl, by decide +kernel, rfl, by decide +kernel, by decide +kernel⟩
theorem fg_law_pot (T : Tp K mg)  {fd : FuncData} (Fn : Fun K "_law_pot" "_law_pot" (top 61) (He.ga K "_law_pot") fd) : FnG P w K mg base 1 (He.ga K "_law_pot") fd ["_law_script", "_law_k"] S_law_pot := by
  refine dfn 0 Fn sc_law_pot len_law_pot cels_law_pot fun cdv A outer s H hr hA => ⟨_, (scons (sset 2 sc_law_pot.nd (dx di)) (scons (sif (dcmpT op_ltA opr_ltA (dv 1) (dlen (m_len T) (acons (dv 0) anil)) (nomark _)) (sone (sset 2 sc_law_pot.nd (dx (dmod (dabs (m_abs T) (acons (dixP (dv 0) (dv 1)) anil)) (dpow (dpow di di) di))))) snil) (sone (sret (m := 0) (dlst (acons (dmul (dv 2) (dintOf (m_int T) (acons (dcmp op_ge opr_ge (dv 2) (dpow di di) (nomark _)) anil))) (acons (dmod (dpow (dadd (dadd (dmod (dv 2) di) (dmul di (dv 1))) di) di) di) (acons di anil)))))))), fun as Q h => ?_⟩
  unfold S_law_pot at h
  split at h
  · unfold q_law_pot at h
    rename_i x0 x1
    refine at_env (b := [.dat x0, .dat x1, .un]) rfl ?_
    exact Eq.mp (by kernel_rfl) h
  · exact h.elim
theorem ok_law_pot (T : Tp K mg)  : Dn P w K mg base "_law_pot" 1 ["_law_script", "_law_k"] S_law_pot := by
  obtain ⟨kV, doc, pm, an, cdv, ct, Fn⟩ := T.fun_ "_law_pot" (top 61) 26 112
  exact ⟨⟨_, fg_law_pot T  Fn, Fn.binds (ps := ["_law_script", "_law_k"]) fun _ _ _ _ _ _ us hl => match us, hl with | [_, _], _ => rfl⟩, T.glo "_law_pot" 46, T.keep "_law_pot" 112⟩
def kk_law_take : RT → (PyData → List PyData → Prop) := fun R v c => R (.dat v) [.cel true c]
def S_law_take : DSp := fun as Q => match as with
  | [.cel true x0, .dat x1] => q_law_take x0 x1 (kk_law_take Q)
  | _ => False
theorem len_law_take (as : List SD) (Q : SD → List SD → Prop) (h : S_law_take as Q) : as.length = 2 := by
  unfold S_law_take at h
  split at h
  · rfl
  · exact h.elim
theorem cels_law_take : CelsIn 1 S_law_take := by
  intro as Q h i p xs e
  unfold S_law_take at h
  split at h
  · exact cels1 (ds := [_]) e
  · exact h.elim
def N_law_take : List Str := ["_law_pot_here", "_law_many", "_law_found", "_law_one", "_law_other"]
theorem sc_law_take : FnScope N_law_take ["_law_pot_here", "_law_many"] (defScope (top 62)) := ⟨rfl, rfl, rfl, by decide +kernel, rfl, by decide +kernel, by decide +kernel⟩
theorem fg_law_take (T : Tp K mg)  {fd : FuncData} (Fn : Fun K "_law_take" "_law_take" (top 62) (He.ga K "_law_take") fd) : FnG P w K mg base 1 (He.ga K "_law_take") fd ["_law_pot_here", "_law_many"] S_law_take := by
  refine dfn 1 Fn sc_law_take len_law_take cels_law_take fun cdv A outer s H hr hA => ⟨_, (scons (sif (dcmpT op_gt opr_gt (dixC 0 di) di (nomark _)) (scons (sset 2 sc_law_take.nd (dx (dmod (dixC 0 di) (dv 1)))) (scons (ssetC 0 (ddiv (dixC 0 di) (dv 1)) di) (sone (sret (m := 1) (dx (dv 2)))))) snil) (scons (ssetC 0 (dadd (dixC 0 di) di) di) (scons (sset 3 sc_law_take.nd (dx (dmod (dpow (dadd (dixC 0 di) (dmul di (dixC 0 di))) di) di))) (scons (sset 4 sc_law_take.nd (dx (dmod (dpow (dadd (dadd (dv 3) (dmod (dixC 0 di) di)) (dmul di (dixC 0 di))) di) di))) (sone (sret (m := 1) (dx (dmod (ddiv (dmod (dmul (dv 4) di) di) di) (dv 1))))))))), fun as Q h => ?_⟩
  unfold S_law_take at h
  split at h
  · unfold q_law_take at h
    rename_i x0 x1
    refine at_env (b := [.cel true x0, .dat x1, .un, .un, .un]) rfl ?_
    exact Eq.mp (by kernel_rfl) h
  · exact h.elim
theorem ok_law_take (T : Tp K mg)  : Dn P w K mg base "_law_take" 1 ["_law_pot_here", "_law_many"] S_law_take := by
  obtain ⟨kV, doc, pm, an, cdv, ct, Fn⟩ := T.fun_ "_law_take" (top 62) 27 113
  exact ⟨⟨_, fg_law_take T  Fn, Fn.binds (ps := ["_law_pot_here", "_law_many"]) fun _ _ _ _ _ _ us hl => match us, hl with | [_, _], _ => rfl⟩, T.glo "_law_take" 47, T.keep "_law_take" 113⟩
def kk_law_table : RT → (PyData → List PyData → Prop) := fun R v c => R (.dat v) [.cel true c]
def em_law_table_1 (i : PyData × PyData × PyData × PyData) (s : List PyData) : List SD := [.cel true s, .dat i.1, .dat i.2.1, .dat i.2.2.1, .dat i.2.2.2, .un, .un, .un]
def de_law_table_1 : List SD → Option ((PyData × PyData × PyData × PyData) × (List PyData))
  | [.cel true x0, .dat x1, .dat x2, .dat x3, .dat x4, .un, .un, .un] => some ((x1, x2, x3, x4), x0)
  | _ => none
theorem hde_law_table_1 : ∀ env i s, de_law_table_1 env = some (i, s) → env = em_law_table_1 i s := by
  intro env i s h
  unfold de_law_table_1 at h
  split at h
  · cases h; rfl
  · cases h
def em_law_table_2 (i : PyData × PyData × PyData × PyData × PyData) (s : List PyData) : List SD := [.cel true s, .dat i.1, .dat i.2.1, .dat i.2.2.1, .dat i.2.2.2.1, .un, .dat i.2.2.2.2, .un]
def de_law_table_2 : List SD → Option ((PyData × PyData × PyData × PyData × PyData) × (List PyData))
  | [.cel true x0, .dat x1, .dat x2, .dat x3, .dat x4, .un, .dat x6, .un] => some ((x1, x2, x3, x4, x6), x0)
  | _ => none
theorem hde_law_table_2 : ∀ env i s, de_law_table_2 env = some (i, s) → env = em_law_table_2 i s := by
  intro env i s h
  unfold de_law_table_2 at h
  split at h
  · cases h; rfl
  · cases h
def em_law_table_3 (i : List PyData × PyData × PyData × PyData × PyData) (s : Unit) : List SD := [.cel true i.1, .dat i.2.1, .dat i.2.2.1, .dat i.2.2.2.1, .dat i.2.2.2.2, .un, .un, .un]
def de_law_table_3 : List SD → Option ((List PyData × PyData × PyData × PyData × PyData) × (Unit))
  | [.cel true x0, .dat x1, .dat x2, .dat x3, .dat x4, .un, .un, .un] => some ((x0, x1, x2, x3, x4), ())
  | _ => none
theorem hde_law_table_3 : ∀ env i s, de_law_table_3 env = some (i, s) → env = em_law_table_3 i s := by
  intro env i s h
  unfold de_law_table_3 at h
  split at h
  · cases h; rfl
  · cases h
def em_law_table_4 (i : List PyData × PyData × PyData × PyData × PyData × PyData) (s : Unit) : List SD := [.cel true i.1, .dat i.2.1, .dat i.2.2.1, .dat i.2.2.2.1, .dat i.2.2.2.2.1, .un, .dat i.2.2.2.2.2, .un]
def de_law_table_4 : List SD → Option ((List PyData × PyData × PyData × PyData × PyData × PyData) × (Unit))
  | [.cel true x0, .dat x1, .dat x2, .dat x3, .dat x4, .un, .dat x6, .un] => some ((x0, x1, x2, x3, x4, x6), ())
  | _ => none
theorem hde_law_table_4 : ∀ env i s, de_law_table_4 env = some (i, s) → env = em_law_table_4 i s := by
  intro env i s h
  unfold de_law_table_4 at h
  split at h
  · cases h; rfl
  · cases h
def em_law_table_5 (i : List PyData × PyData × List PyData) (s : Unit) : List SD := [.cel true i.1, .dat i.2.1, .un, .un, .un, .cel false i.2.2, .un, .un]
def de_law_table_5 : List SD → Option ((List PyData × PyData × List PyData) × (Unit))
  | [.cel true x0, .dat x1, .un, .un, .un, .cel false x5, .un, .un] => some ((x0, x1, x5), ())
  | _ => none
theorem hde_law_table_5 : ∀ env i s, de_law_table_5 env = some (i, s) → env = em_law_table_5 i s := by
  intro env i s h
  unfold de_law_table_5 at h
  split at h
  · cases h; rfl
  · cases h
def em_law_table_6 (i : List PyData × PyData) (s : Unit) : List SD := [.cel true i.1, .un, .un, .un, .un, .dat i.2, .un, .un]
def de_law_table_6 : List SD → Option ((List PyData × PyData) × (Unit))
  | [.cel true x0, .un, .un, .un, .un, .dat x5, .un, .un] => some ((x0, x5), ())
  | _ => none
theorem hde_law_table_6 : ∀ env i s, de_law_table_6 env = some (i, s) → env = em_law_table_6 i s := by
  intro env i s h
  unfold de_law_table_6 at h
  split at h
  · cases h; rfl
  · cases h
def S_law_table : DSp := fun as Q => match as with
  | [.cel true x0, .dat x1] => q_law_table x0 x1 (kk_law_table Q)
  | _ => False
theorem len_law_table (as : List SD) (Q : SD → List SD → Prop) (h : S_law_table as Q) : as.length = 2 := by
  unfold S_law_table at h
  split at h
  · rfl
  · exact h.elim
theorem cels_law_table : CelsIn 1 S_law_table := by
  intro as Q h i p xs e
  unfold S_law_table at h
  split at h
  · exact cels1 (ds := [_]) e
  · exact h.elim
def N_law_table : List Str := ["_law_pot_here", "_law_rows", "_law_many", "_law_way", "_law_sign", "_law_found", "_law_row", "_law_column"]
theorem sc_law_table : FnScope N_law_table ["_law_pot_here", "_law_rows"] (defScope (top 63)) := ⟨rfl, rfl, rfl, by decide +kernel, rfl, by decide +kernel, by decide +kernel⟩
theorem fg_law_table (T : Tp K mg) (D_law_take : Dn P w K mg base "_law_take" 1 ["_law_pot_here", "_law_many"] S_law_take) {fd : FuncData} (Fn : Fun K "_law_table" "_law_table" (top 63) (He.ga K "_law_table") fd) : FnG P w K mg base 2 (He.ga K "_law_table") fd ["_law_pot_here", "_law_rows"] S_law_table := by
  refine dfnN 1 Fn sc_law_table len_law_table cels_law_table fun cdv A outer s H hr hA => ⟨_, (scons (sset 2 sc_law_table.nd (dx (dadd di (dfrz (dcnC 0 D_law_take (hr.mono (by decide)) hA (acons di anil)))))) (scons (sset 3 sc_law_table.nd (dcnC 0 D_law_take (hr.mono (by decide)) hA (acons di anil))) (scons (sset 4 sc_law_table.nd (dx (dcmp (op_eqE hr.units) opd_eq (dfrz (dcnC 0 D_law_take (hr.mono (by decide)) hA (acons di anil))) di (nomark _)))) (scons (sset 5 sc_law_table.nd (dlc (dec := de_law_table_1) (emb := em_law_table_1) (qb := qb_law_table_1) [("_law_row", 6)] (.one 6) hde_law_table_1 rfl sc_law_table.nd (irange1 (m_range T) (acons (dv 1) anil)) (blkOk_by (own := [("_law_row", 6)]) (N := N_law_table) (sc := defScope (top 63)) (by decide +kernel)) (fun _ _ _ _ _ => pg_name (i := 6) sc_law_table.nd rfl (Or.inl rfl)) (fun _ _ _ _ _ => tyes) (fun _ _ _ _ _ => (drow (dlc (dec := de_law_table_2) (emb := em_law_table_2) (qb := qb_law_table_2) [("_law_column", 7)] (.one 7) hde_law_table_2 rfl sc_law_table.nd (irange1 (m_range T) (acons (dv 2) anil)) (blkOk_by (own := [("_law_column", 7)]) (N := N_law_table) (by kernel_rfl)) (fun _ _ _ _ _ => pg_name (i := 7) sc_law_table.nd rfl (Or.inl rfl)) (fun _ _ _ _ _ => tyes) (fun _ _ _ _ _ => (dcmp (op_eqE hr.units) opd_eq (dfrz (dcnC 0 D_law_take (hr.mono (by decide)) hA (acons di anil))) di (nomark _))) (fun d i s sk yd h => Eq.mp (by kernel_rfl) h)))) (fun d i s sk yd h => Eq.mp (by kernel_rfl) h))) (scons (sif (dcmpT op_gt opr_gt (dv 3) di (nomark _)) (ssforget [5] (sone (sset 5 sc_law_table.nd (dlc (dec := de_law_table_3) (emb := em_law_table_3) (qb := qb_law_table_3) [("_law_row", 6)] (.one 6) hde_law_table_3 rfl sc_law_table.nd (irange1 (m_range T) (acons (dv 1) anil)) (blkOk_by (own := [("_law_row", 6)]) (N := N_law_table) (sc := defScope (top 63)) (by decide +kernel)) (fun _ _ _ _ _ => pg_name (i := 6) sc_law_table.nd rfl (Or.inl rfl)) (fun _ _ _ _ _ => tyes) (fun _ _ _ _ _ => (drow (dlc (dec := de_law_table_4) (emb := em_law_table_4) (qb := qb_law_table_4) [("_law_column", 7)] (.one 7) hde_law_table_4 rfl sc_law_table.nd (irange1 (m_range T) (acons (dv 2) anil)) (blkOk_by (own := [("_law_column", 7)]) (N := N_law_table) (by kernel_rfl)) (fun _ _ _ _ _ => pg_name (i := 7) sc_law_table.nd rfl (Or.inl rfl)) (fun _ _ _ _ _ => tyes) (fun _ _ _ _ _ => (dv 4)) (fun d i s sk yd h => Eq.mp (by kernel_rfl) h)))) (fun d i s sk yd h => Eq.mp (by kernel_rfl) h))))) snil) (scons (sif (dcmpT (op_eqE hr.units) opd_eq (dv 3) di (nomark _)) (sone (ssetN 5 (dnotV (dv 4)) (dfrz (dcnC 0 D_law_take (hr.mono (by decide)) hA (acons (dv 1) anil))) (dfrz (dcnC 0 D_law_take (hr.mono (by decide)) hA (acons (dv 2) anil))))) snil) (scons (sif (dcmpT (op_eqE hr.units) opd_eq (dv 3) di (nomark _)) (sone (ssetC 5 (dfrz (drep (dnotV (dv 4)) (dv 2))) (dfrz (dcnC 0 D_law_take (hr.mono (by decide)) hA (acons (dv 1) anil))))) snil) (ssforget [2, 4] (scons (sif (dcmpT (op_eqE hr.units) opd_eq (dv 3) di (nomark _)) (ssforget [3] (sone (sset 5 sc_law_table.nd (dlc (dec := de_law_table_5) (emb := em_law_table_5) (qb := qb_law_table_5) [("_law_row", 6)] (.one 6) hde_law_table_5 rfl sc_law_table.nd (irange1 (m_range T) (acons (dv 1) anil)) (blkOk_by (own := [("_law_row", 6)]) (N := N_law_table) (sc := defScope (top 63)) (by decide +kernel)) (fun _ _ _ _ _ => pg_name (i := 6) sc_law_table.nd rfl (Or.inl rfl)) (fun _ _ _ _ _ => tyes) (fun _ _ _ _ _ => (dixC 5 di)) (fun d i s sk yd h => Eq.mp (by kernel_rfl) h))))) snil) (ssforget [3] (ssforget [1] (ssfreeze2 5 (sone (sret (m := 1) (dx (dtupleOf (m_tuple T) (acons (dfrz (dlc (dec := de_law_table_6) (emb := em_law_table_6) (qb := qb_law_table_6) [("_law_row", 6)] (.one 6) hde_law_table_6 rfl sc_law_table.nd (iseq (dv 5)) (blkOk_by (own := [("_law_row", 6)]) (N := N_law_table) (sc := defScope (top 63)) (by decide +kernel)) (fun _ _ _ _ _ => pg_name (i := 6) sc_law_table.nd rfl (Or.inl rfl)) (fun _ _ _ _ _ => tyes) (fun _ _ _ _ _ => (dtupleOf (m_tuple T) (acons (dv 6) anil))) (fun d i s sk yd h => Eq.mp (by kernel_rfl) h))) anil))))))))))))))))), fun as Q h => ?_⟩
  unfold S_law_table at h
  split at h
  · unfold q_law_table at h
    rename_i x0 x1
    obtain ⟨hat, h⟩ := bIf_and h
    refine ⟨hat, ?_⟩
    refine at_env (b := [.cel true x0, .dat x1, .un, .un, .un, .un, .un, .un]) rfl ?_
    exact Eq.mp (by kernel_rfl) h
  · exact h.elim
theorem ok_law_table (T : Tp K mg) (D_law_take : Dn P w K mg base "_law_take" 1 ["_law_pot_here", "_law_many"] S_law_take) : Dn P w K mg base "_law_table" 2 ["_law_pot_here", "_law_rows"] S_law_table := by
  obtain ⟨kV, doc, pm, an, cdv, ct, Fn⟩ := T.fun_ "_law_table" (top 63) 28 114
  exact ⟨⟨_, fg_law_table T D_law_take Fn, Fn.binds (ps := ["_law_pot_here", "_law_rows"]) fun _ _ _ _ _ _ us hl => match us, hl with | [_, _], _ => rfl⟩, T.glo "_law_table" 48, T.keep "_law_table" 114⟩
def kk_law_sights : RT → (PyData → List PyData → Prop) := fun R v c => R (.dat v) [.cel true c]
def em_law_sights_1 (i : PyData × PyData) (s : List PyData) : List SD := [.cel true s, .un, .dat i.1, .dat i.2, .un]
def de_law_sights_1 : List SD → Option ((PyData × PyData) × (List PyData))
  | [.cel true x0, .un, .dat x2, .dat x3, .un] => some ((x2, x3), x0)
  | _ => none
theorem hde_law_sights_1 : ∀ env i s, de_law_sights_1 env = some (i, s) → env = em_law_sights_1 i s := by
  intro env i s h
  unfold de_law_sights_1 at h
  split at h
  · cases h; rfl
  · cases h
def S_law_sights : DSp := fun as Q => match as with
  | [.cel true x0, .dat x1] => q_law_sights x0 x1 (kk_law_sights Q)
  | _ => False
theorem len_law_sights (as : List SD) (Q : SD → List SD → Prop) (h : S_law_sights as Q) : as.length = 2 := by
  unfold S_law_sights at h
  split at h
  · rfl
  · exact h.elim
theorem cels_law_sights : CelsIn 1 S_law_sights := by
  intro as Q h i p xs e
  unfold S_law_sights at h
  split at h
  · exact cels1 (ds := [_]) e
  · exact h.elim
def N_law_sights : List Str := ["_law_pot_here", "_law_most", "_law_logs", "_law_many", "_law_ship"]
theorem sc_law_sights : FnScope N_law_sights ["_law_pot_here", "_law_most"] (defScope (top 64)) := ⟨rfl, rfl, rfl, by decide +kernel, rfl, by decide +kernel, by decide +kernel⟩
theorem fg_law_sights (T : Tp K mg) (D_law_table : Dn P w K mg base "_law_table" 2 ["_law_pot_here", "_law_rows"] S_law_table) (D_law_take : Dn P w K mg base "_law_take" 1 ["_law_pot_here", "_law_many"] S_law_take) {fd : FuncData} (Fn : Fun K "_law_sights" "_law_sights" (top 64) (He.ga K "_law_sights") fd) : FnG P w K mg base 3 (He.ga K "_law_sights") fd ["_law_pot_here", "_law_most"] S_law_sights := by
  refine dfn 1 Fn sc_law_sights len_law_sights cels_law_sights fun cdv A outer s H hr hA => ⟨_, (scons (sset 2 sc_law_sights.nd (dx (dadd di (dfrz (dcnC 0 D_law_take (hr.mono (by decide)) hA (acons di anil)))))) (scons (sset 3 sc_law_sights.nd (dx (dixP (dfrz (dlst (acons (dfrz (dcnC 0 D_law_take (hr.mono (by decide)) hA (acons (dadd (dv 1) di) anil))) (acons (dv 1) anil)))) (dfrz (dcnC 0 D_law_take (hr.mono (by decide)) hA (acons di anil)))))) (ssforget [1] (sone (sret (m := 1) (dx (dtup (acons (dv 2) (acons (dtupleOf (m_tuple T) (acons (dfrz (dlc (dec := de_law_sights_1) (emb := em_law_sights_1) (qb := qb_law_sights_1) [("_law_ship", 4)] (.one 4) hde_law_sights_1 rfl sc_law_sights.nd (irange1 (m_range T) (acons (dv 3) anil)) (blkOk_by (own := [("_law_ship", 4)]) (N := N_law_sights) (sc := defScope (top 64)) (by decide +kernel)) (fun _ _ _ _ _ => pg_name (i := 4) sc_law_sights.nd rfl (Or.inl rfl)) (fun _ _ _ _ _ => tyes) (fun _ _ _ _ _ => (dfrz (dcnC 0 D_law_table (hr.mono (by decide)) hA (acons (dv 2) anil)))) (fun d i s sk yd h => Eq.mp (by kernel_rfl) h))) anil)) anil))))))))), fun as Q h => ?_⟩
  unfold S_law_sights at h
  split at h
  · unfold q_law_sights at h
    rename_i x0 x1
    refine at_env (b := [.cel true x0, .dat x1, .un, .un, .un]) rfl ?_
    exact Eq.mp (by kernel_rfl) h
  · exact h.elim
theorem ok_law_sights (T : Tp K mg) (D_law_table : Dn P w K mg base "_law_table" 2 ["_law_pot_here", "_law_rows"] S_law_table) (D_law_take : Dn P w K mg base "_law_take" 1 ["_law_pot_here", "_law_many"] S_law_take) : Dn P w K mg base "_law_sights" 3 ["_law_pot_here", "_law_most"] S_law_sights := by
  obtain ⟨kV, doc, pm, an, cdv, ct, Fn⟩ := T.fun_ "_law_sights" (top 64) 29 115
  exact ⟨⟨_, fg_law_sights T D_law_table D_law_take Fn, Fn.binds (ps := ["_law_pot_here", "_law_most"]) fun _ _ _ _ _ _ us hl => match us, hl with | [_, _], _ => rfl⟩, T.glo "_law_sights" 49, T.keep "_law_sights" 115⟩
def kk_law_sort : RT → (PyData → Prop) := fun R v => R (.dat v) []
def S_law_sort : DSp := fun as Q => match as with
  | [.dat x0] => q_law_sort x0 (kk_law_sort Q)
  | _ => False
theorem len_law_sort (as : List SD) (Q : SD → List SD → Prop) (h : S_law_sort as Q) : as.length = 1 := by
  unfold S_law_sort at h
  split at h
  · rfl
  · exact h.elim
theorem cels_law_sort : CelsIn 0 S_law_sort := by
  intro as Q h i p xs e
  unfold S_law_sort at h
  split at h
  · exact absurd e (no_cel (ds := [_]) i p xs)
  · exact h.elim
def N_law_sort : List Str := ["_law_caught", "_law_kinds"]
theorem sc_law_sort : FnScope N_law_sort ["_law_caught"] (defScope (top 65)) := ⟨rfl, rfl, rfl, by decide +kernel, rfl, by decide +kernel, by decide +kernel⟩
theorem fg_law_sort (T : Tp K mg)  {fd : FuncData} (Fn : Fun K "_law_sort" "_law_sort" (top 65) (He.ga K "_law_sort") fd) : FnB P w K mg base 1 (He.ga K "_law_sort") fd ["_law_caught"] S_law_sort := by
  refine dfnB 0 Fn sc_law_sort len_law_sort cels_law_sort fun cdv A outer s H pp hr hA => ⟨_, (scons (sset 1 sc_law_sort.nd (dlst (acons (disx (m_isinstance T) (gl_NoLogs T) (by decide +kernel) (dv 0)) (acons (disx (m_isinstance T) (gl_NoChase T) (by decide +kernel) (dv 0)) (acons (disx (m_isinstance T) (gl_NoMiles T) (by decide +kernel) (dv 0)) anil))))) (ssfreeze2 1 (scons (sset 1 sc_law_sort.nd (dcatN (dv 1) (dfrz (dlst (acons (disx (m_isinstance T) (gl_NoTable T) (by decide +kernel) (dv 0)) (acons (disx (m_isinstance T) (gl_NoSights T) (by decide +kernel) (dv 0)) (acons (disx (m_isinstance T) (gl_NoSet T) (by decide +kernel) (dv 0)) anil))))))) (scons (sapp 1 (disx (m_isinstance T) (gl_NoNumber T) (by decide +kernel) (dv 0))) (scons (sif (dtest (disxT (ds := ["NoWeights", "NoPart", "NoLog", "NoRoll", "NoName", "NoHour", "NoScheme", "NoCrew", "NoMan", "NoSale"]) (m_isinstance T) (pcl_cons (gl_NoWeights T) (pcl_cons (gl_NoPart T) (pcl_cons (gl_NoLog T) (pcl_cons (gl_NoRoll T) (pcl_cons (gl_NoName T) (pcl_cons (gl_NoHour T) (pcl_cons (gl_NoScheme T) (pcl_cons (gl_NoCrew T) (pcl_cons (gl_NoMan T) (pcl_cons (gl_NoSale T) pcl_nil)))))))))) (by decide +kernel) (by decide) (dv 0))) (sone (sret (m := 0) (dx ds))) snil) (scons (sif (dtest (disxT (ds := ["NoCrews", "NoPages", "NoPage", "NoPrize", "NoBalances", "NoMoney", "NoChange", "NoText", "NoRow"]) (m_isinstance T) (pcl_cons (gl_NoCrews T) (pcl_cons (gl_NoPages T) (pcl_cons (gl_NoPage T) (pcl_cons (gl_NoPrize T) (pcl_cons (gl_NoBalances T) (pcl_cons (gl_NoMoney T) (pcl_cons (gl_NoChange T) (pcl_cons (gl_NoText T) (pcl_cons (gl_NoRow T) pcl_nil))))))))) (by decide +kernel) (by decide) (dv 0))) (sone (sret (m := 0) (dx ds))) snil) (ssfreeze2 1 (scons (sif (tor (dcmpT (op_neE hr.units) opd_ne (dcnt hr.u65 (dv 1) db) di (nomark _)) (tor (dtest (disx (m_isinstance T) (gl_TooMany T) (by decide +kernel) (dv 0))) (tor1 (tnot (dtest (disv (m_isinstance T) (m_ValueError T) (dv 0))))))).pt (sone (sret (m := 0) (dx ds))) snil) (sone (sret (m := 0) (dx (dixP (dfrz (dlst (acons ds (acons ds (acons ds (acons ds (acons ds (acons ds (acons ds anil))))))))) (dlix hr.u65 (dv 1) db))))))))))))), fun as Q h => ?_⟩
  unfold S_law_sort at h
  split at h
  · unfold q_law_sort at h
    rename_i x0
    refine at_env (b := [.dat x0, .un]) rfl ?_
    exact Eq.mp (by kernel_rfl) h
  · exact h.elim
theorem ok_law_sort (T : Tp K mg)  : DnB P w K mg base "_law_sort" 1 ["_law_caught"] S_law_sort := by
  obtain ⟨kV, doc, pm, an, cdv, ct, Fn⟩ := T.fun_ "_law_sort" (top 65) 30 116
  exact ⟨⟨_, fg_law_sort T  Fn, Fn.binds (ps := ["_law_caught"]) fun _ _ _ _ _ _ us hl => match us, hl with | [_], _ => rfl⟩, T.glo "_law_sort" 50, T.keep "_law_sort" 116⟩
def kk_law_no_sights : RT → (PyData → List PyData → Prop) := fun R v c => R (.dat v) [.cel true c]
def em_law_no_sights_1 (i : List PyData × PyData × PyData × PyData × List PyData) (s : List PyData) : List SD := [.cel true i.1, .un, .dat i.2.1, .dat i.2.2.1, .dat i.2.2.2.1, .un, .cel false i.2.2.2.2, .cel false s, .un, .un, .un]
def de_law_no_sights_1 : List SD → Option ((List PyData × PyData × PyData × PyData × List PyData) × (List PyData))
  | [.cel true x0, .un, .dat x2, .dat x3, .dat x4, .un, .cel false x6, .cel false x7, .un, .un, .un] => some ((x0, x2, x3, x4, x6), x7)
  | _ => none
theorem hde_law_no_sights_1 : ∀ env i s, de_law_no_sights_1 env = some (i, s) → env = em_law_no_sights_1 i s := by
  intro env i s h
  unfold de_law_no_sights_1 at h
  split at h
  · cases h; rfl
  · cases h
def em_law_no_sights_2 (i : List PyData × PyData × PyData × PyData) (s : List PyData) : List SD := [.cel true i.1, .un, .dat i.2.1, .dat i.2.2.1, .un, .un, .cel false s, .un, .un, .dat i.2.2.2, .un]
def de_law_no_sights_2 : List SD → Option ((List PyData × PyData × PyData × PyData) × (List PyData))
  | [.cel true x0, .un, .dat x2, .dat x3, .un, .un, .cel false x6, .un, .un, .dat x9, .un] => some ((x0, x2, x3, x9), x6)
  | _ => none
theorem hde_law_no_sights_2 : ∀ env i s, de_law_no_sights_2 env = some (i, s) → env = em_law_no_sights_2 i s := by
  intro env i s h
  unfold de_law_no_sights_2 at h
  split at h
  · cases h; rfl
  · cases h
def S_law_no_sights : DSp := fun as Q => match as with
  | [.cel true x0, .dat x1] => q_law_no_sights x0 x1 (kk_law_no_sights Q)
  | _ => False
theorem len_law_no_sights (as : List SD) (Q : SD → List SD → Prop) (h : S_law_no_sights as Q) : as.length = 2 := by
  unfold S_law_no_sights at h
  split at h
  · rfl
  · exact h.elim
theorem cels_law_no_sights : CelsIn 1 S_law_no_sights := by
  intro as Q h i p xs e
  unfold S_law_no_sights at h
  split at h
  · exact cels1 (ds := [_]) e
  · exact h.elim
def N_law_no_sights : List Str := ["_law_pot_here", "_law_sights_here", "_law_logs", "_law_tables", "_law_other", "_law_row", "_law_some", "_law_bad", "_law_odd", "_law_at", "_law_table_here"]
theorem sc_law_no_sights : FnScope N_law_no_sights ["_law_pot_here", "_law_sights_here"] (defScope (top 66)) := ⟨rfl, rfl, rfl, by decide +kernel, rfl, by decide +kernel, by decide +kernel⟩
theorem fg_law_no_sights (T : Tp K mg) (D_law_table : Dn P w K mg base "_law_table" 2 ["_law_pot_here", "_law_rows"] S_law_table) (D_law_take : Dn P w K mg base "_law_take" 1 ["_law_pot_here", "_law_many"] S_law_take) {fd : FuncData} (Fn : Fun K "_law_no_sights" "_law_no_sights" (top 66) (He.ga K "_law_no_sights") fd) : FnG P w K mg base 3 (He.ga K "_law_no_sights") fd ["_law_pot_here", "_law_sights_here"] S_law_no_sights := by
  refine dfn 1 Fn sc_law_no_sights len_law_no_sights cels_law_no_sights fun cdv A outer s H hr hA => ⟨_, (scons (sasg (dv 1) (gtup (gl_cons gok_n (gl_cons gok_n gl_nil)) rfl (gcons (gn 2 sc_law_no_sights.nd) (gcons (gn 3 sc_law_no_sights.nd) gnil)))) (scons (sset 4 sc_law_no_sights.nd (dcnC 0 D_law_table (hr.mono (by decide)) hA (acons (dv 2) anil))) (scons (sset 5 sc_law_no_sights.nd (dx (dixP (dv 4) di))) (scons (sset 6 sc_law_no_sights.nd (dlst (acons (dtup (acons (dv 2) (acons (dmul (dtup (acons (dv 4) anil)) di) anil))) (acons (dtup (acons (dadd (dmod (dv 2) di) di) (acons (dadd (dtup (acons (dv 4) anil)) (dsl (dv 3) so_none (so_some di))) anil))) (acons (dtup (acons di (acons (dv 3) anil))) (acons (dtup (acons di (acons (dv 3) anil))) (acons (dtup (acons db (acons (dv 3) anil))) (acons dn anil)))))))) (ssfreeze2 6 (scons (sset 6 sc_law_no_sights.nd (dcatN (dv 6) (dfrz (dlst (acons (dtup (acons (dv 2) (acons (dfrz (dlistOf (m_list T) (acons (dv 3) anil))) anil))) (acons (dfrz (dlst (acons (dv 2) (acons (dv 3) anil)))) (acons (dtup (acons (dv 2) anil)) (acons (dtup (acons (dv 2) (acons (dv 3) (acons di anil)))) (acons (dtup (acons (dv 3) (acons (dv 2) anil))) (acons (dtup anil) anil)))))))))) (scons (sapp 6 (dtup (acons (dstrOf (m_str T) (acons (dv 2) anil)) (acons (dv 3) anil)))) (ssfreeze2 6 (scons (sset 6 sc_law_no_sights.nd (dcatN (dv 6) (dfrz (dlst (acons (dtup (acons (dv 2) (acons dn anil))) (acons ddict0 (acons di (acons (dtup (acons (dneg di) (acons (dtup anil) anil))) anil)))))))) (scons (sset 7 sc_law_no_sights.nd (dlst (acons (dsl (dv 4) (so_some di) so_none) (acons (dadd (dv 4) (dtup (acons (dv 5) anil))) (acons (dfrz (dlistOf (m_list T) (acons (dv 4) anil))) (acons dn (acons (dmul (dtup (acons (dadd (dv 5) (dmul (dtup (acons db anil)) di)) anil)) (dv 2)) (acons (dmul (dtup (acons (dtup (acons di anil)) anil)) (dv 2)) anil)))))))) (ssforget [1] (scons (sforQ [5, 8] de_law_no_sights_1 em_law_no_sights_1 kk_law_no_sights qb_law_no_sights_1 hde_law_no_sights_1 PassesOwn.never rfl (iseq (dtup (acons (dadd (dv 5) (dmul (dtup (acons db anil)) di)) (acons (dadd (dtup (acons di anil)) (dsl (dv 5) (so_some di) so_none)) (acons (dfrz (dlistOf (m_list T) (acons (dv 5) anil))) (acons (dadd (dtup (acons dn anil)) (dsl (dv 5) (so_some di) so_none)) (acons (dtup anil) (acons (dixP (dv 5) di) anil)))))))) (gn 8 sc_law_no_sights.nd) (sone (sapp 7 (dadd (dsl (dv 4) so_none (so_some (dneg di))) (dtup (acons (dv 8) anil))))) (fun R d i s nx bk h => Eq.mp (by kernel_rfl) h)) (scons (sset 9 sc_law_no_sights.nd (dcnC 0 D_law_take (hr.mono (by decide)) hA (acons (dadd (dlen (m_len T) (acons (dsl (dv 3) so_none (so_some di)) anil)) di) anil))) (ssforget [4] (ssfreeze2 7 (scons (sforQ [7, 10] de_law_no_sights_2 em_law_no_sights_2 kk_law_no_sights qb_law_no_sights_2 hde_law_no_sights_2 PassesOwn.never rfl (iseq (dv 7)) (gn 10 sc_law_no_sights.nd) (sone (sapp 6 (dtup (acons (dv 2) (acons (dadd (dadd (dsl (dv 3) so_none (so_some (dv 9))) (dtup (acons (dv 10) anil))) (dsl (dv 3) (so_some (dv 9)) (so_some di))) anil))))) (fun R d i s nx bk h => Eq.mp (by kernel_rfl) h)) (sone (sret (m := 1) (dx (dixC 6 (dfrz (dcnC 0 D_law_take (hr.mono (by decide)) hA (acons di anil))))))))))))))))))))))), fun as Q h => ?_⟩
  unfold S_law_no_sights at h
  split at h
  · unfold q_law_no_sights at h
    rename_i x0 x1
    refine at_env (b := [.cel true x0, .dat x1, .un, .un, .un, .un, .un, .un, .un, .un, .un]) rfl ?_
    exact Eq.mp (by kernel_rfl) h
  · exact h.elim
theorem ok_law_no_sights (T : Tp K mg) (D_law_table : Dn P w K mg base "_law_table" 2 ["_law_pot_here", "_law_rows"] S_law_table) (D_law_take : Dn P w K mg base "_law_take" 1 ["_law_pot_here", "_law_many"] S_law_take) : Dn P w K mg base "_law_no_sights" 3 ["_law_pot_here", "_law_sights_here"] S_law_no_sights := by
  obtain ⟨kV, doc, pm, an, cdv, ct, Fn⟩ := T.fun_ "_law_no_sights" (top 66) 31 117
  exact ⟨⟨_, fg_law_no_sights T D_law_table D_law_take Fn, Fn.binds (ps := ["_law_pot_here", "_law_sights_here"]) fun _ _ _ _ _ _ us hl => match us, hl with | [_, _], _ => rfl⟩, T.glo "_law_no_sights" 51, T.keep "_law_no_sights" 117⟩
def kk_law_no_set : RT → (PyData → List PyData → Prop) := fun R v c => R (.dat v) [.cel true c]
def S_law_no_set : DSp := fun as Q => match as with
  | [.cel true x0, .dat x1] => q_law_no_set x0 x1 (kk_law_no_set Q)
  | _ => False
theorem len_law_no_set (as : List SD) (Q : SD → List SD → Prop) (h : S_law_no_set as Q) : as.length = 2 := by
  unfold S_law_no_set at h
  split at h
  · rfl
  · exact h.elim
theorem cels_law_no_set : CelsIn 1 S_law_no_set := by
  intro as Q h i p xs e
  unfold S_law_no_set at h
  split at h
  · exact cels1 (ds := [_]) e
  · exact h.elim
def N_law_no_set : List Str := ["_law_pot_here", "_law_many", "_law_some"]
theorem sc_law_no_set : FnScope N_law_no_set ["_law_pot_here", "_law_many"] (defScope (top 67)) := ⟨rfl, rfl, rfl, by decide +kernel, rfl, by decide +kernel, by decide +kernel⟩
theorem fg_law_no_set (T : Tp K mg) (D_law_take : Dn P w K mg base "_law_take" 1 ["_law_pot_here", "_law_many"] S_law_take) {fd : FuncData} (Fn : Fun K "_law_no_set" "_law_no_set" (top 67) (He.ga K "_law_no_set") fd) : FnG P w K mg base 2 (He.ga K "_law_no_set") fd ["_law_pot_here", "_law_many"] S_law_no_set := by
  refine dfn 1 Fn sc_law_no_set len_law_no_set cels_law_no_set fun cdv A outer s H hr hA => ⟨_, (scons (sset 2 sc_law_no_set.nd (dx (dfrz (dlst (acons (dtup (acons (dv 1) anil)) (acons (dtup (acons (dneg di) anil)) (acons (dtup (acons di (acons di anil))) (acons (dtup (acons di (acons di anil))) (acons (dfrz (dlst (acons di anil))) (acons (dfrz (dlst anil)) (acons dn (acons di (acons ds (acons ddict0 (acons (dtup (acons db anil)) (acons (dtup (acons db anil)) (acons (dtup (acons dn anil)) (acons (dtup (acons ds anil)) (acons (dtup (acons (dtup (acons di anil)) anil)) anil))))))))))))))))))) (sone (sret (m := 1) (dx (dixP (dadd (dv 2) (dfrz (dlst (acons (dtup (acons di (acons (dv 1) anil))) (acons (dtup (acons di (acons di (acons di anil)))) (acons (dtupRg (by rfl) (m_tuple T) (m_range T) (dadd (dv 1) di)) (acons (dtup (acons (dpow di di) anil)) anil))))))) (dfrz (dcnC 0 D_law_take (hr.mono (by decide)) hA (acons di anil)))))))), fun as Q h => ?_⟩
  unfold S_law_no_set at h
  split at h
  · unfold q_law_no_set at h
    rename_i x0 x1
    refine at_env (b := [.cel true x0, .dat x1, .un]) rfl ?_
    exact Eq.mp (by kernel_rfl) h
  · exact h.elim
theorem ok_law_no_set (T : Tp K mg) (D_law_take : Dn P w K mg base "_law_take" 1 ["_law_pot_here", "_law_many"] S_law_take) : Dn P w K mg base "_law_no_set" 2 ["_law_pot_here", "_law_many"] S_law_no_set := by
  obtain ⟨kV, doc, pm, an, cdv, ct, Fn⟩ := T.fun_ "_law_no_set" (top 67) 32 118
  exact ⟨⟨_, fg_law_no_set T D_law_take Fn, Fn.binds (ps := ["_law_pot_here", "_law_many"]) fun _ _ _ _ _ _ us hl => match us, hl with | [_, _], _ => rfl⟩, T.glo "_law_no_set" 52, T.keep "_law_no_set" 118⟩
def kk_law_no_log : RT → (PyData → List PyData → Prop) := fun R v c => R (.dat v) [.cel true c]
def S_law_no_log : DSp := fun as Q => match as with
  | [.cel true x0, .dat x1] => q_law_no_log x0 x1 (kk_law_no_log Q)
  | _ => False
theorem len_law_no_log (as : List SD) (Q : SD → List SD → Prop) (h : S_law_no_log as Q) : as.length = 2 := by
  unfold S_law_no_log at h
  split at h
  · rfl
  · exact h.elim
theorem cels_law_no_log : CelsIn 1 S_law_no_log := by
  intro as Q h i p xs e
  unfold S_law_no_log at h
  split at h
  · exact cels1 (ds := [_]) e
  · exact h.elim
def N_law_no_log : List Str := ["_law_pot_here", "_law_logs"]
theorem sc_law_no_log : FnScope N_law_no_log ["_law_pot_here", "_law_logs"] (defScope (top 68)) := ⟨rfl, rfl, rfl, by decide +kernel, rfl, by decide +kernel, by decide +kernel⟩
theorem fg_law_no_log (T : Tp K mg) (D_law_take : Dn P w K mg base "_law_take" 1 ["_law_pot_here", "_law_many"] S_law_take) {fd : FuncData} (Fn : Fun K "_law_no_log" "_law_no_log" (top 68) (He.ga K "_law_no_log") fd) : FnG P w K mg base 2 (He.ga K "_law_no_log") fd ["_law_pot_here", "_law_logs"] S_law_no_log := by
  refine dfn 1 Fn sc_law_no_log len_law_no_log cels_law_no_log fun cdv A outer s H hr hA => ⟨_, (sone (sret (m := 1) (dx (dixP (dfrz (dlst (acons (dv 1) (acons (dneg di) (acons db (acons db (acons dn (acons ds (acons (dtup (acons di anil)) (acons (dfrz (dlst (acons di anil))) (acons (dpow di di) (acons (dsub di (dv 1)) (acons (dadd (dv 1) di) (acons ddict0 anil)))))))))))))) (dfrz (dcnC 0 D_law_take (hr.mono (by decide)) hA (acons di anil))))))), fun as Q h => ?_⟩
  unfold S_law_no_log at h
  split at h
  · unfold q_law_no_log at h
    rename_i x0 x1
    refine at_env (b := [.cel true x0, .dat x1]) rfl ?_
    exact Eq.mp (by kernel_rfl) h
  · exact h.elim
theorem ok_law_no_log (T : Tp K mg) (D_law_take : Dn P w K mg base "_law_take" 1 ["_law_pot_here", "_law_many"] S_law_take) : Dn P w K mg base "_law_no_log" 2 ["_law_pot_here", "_law_logs"] S_law_no_log := by
  obtain ⟨kV, doc, pm, an, cdv, ct, Fn⟩ := T.fun_ "_law_no_log" (top 68) 33 119
  exact ⟨⟨_, fg_law_no_log T D_law_take Fn, Fn.binds (ps := ["_law_pot_here", "_law_logs"]) fun _ _ _ _ _ _ us hl => match us, hl with | [_, _], _ => rfl⟩, T.glo "_law_no_log" 53, T.keep "_law_no_log" 119⟩
def kk_law_no_columns : RT → (PyData → List PyData → Prop) := fun R v c => R (.dat v) [.cel true c]
def em_law_no_columns_1 (i : List PyData × PyData) (s : Unit) : List SD := [.cel true i.1, .dat i.2, .un, .un, .un, .un, .un]
def de_law_no_columns_1 : List SD → Option ((List PyData × PyData) × (Unit))
  | [.cel true x0, .dat x1, .un, .un, .un, .un, .un] => some ((x0, x1), ())
  | _ => none
theorem hde_law_no_columns_1 : ∀ env i s, de_law_no_columns_1 env = some (i, s) → env = em_law_no_columns_1 i s := by
  intro env i s h
  unfold de_law_no_columns_1 at h
  split at h
  · cases h; rfl
  · cases h
def em_law_no_columns_2 (i : List PyData × PyData × PyData) (s : List PyData) : List SD := [.cel true i.1, .un, .dat i.2.1, .cel false s, .dat i.2.2, .un, .un]
def de_law_no_columns_2 : List SD → Option ((List PyData × PyData × PyData) × (List PyData))
  | [.cel true x0, .un, .dat x2, .cel false x3, .dat x4, .un, .un] => some ((x0, x2, x4), x3)
  | _ => none
theorem hde_law_no_columns_2 : ∀ env i s, de_law_no_columns_2 env = some (i, s) → env = em_law_no_columns_2 i s := by
  intro env i s h
  unfold de_law_no_columns_2 at h
  split at h
  · cases h; rfl
  · cases h
def S_law_no_columns : DSp := fun as Q => match as with
  | [.cel true x0, .dat x1] => q_law_no_columns x0 x1 (kk_law_no_columns Q)
  | _ => False
theorem len_law_no_columns (as : List SD) (Q : SD → List SD → Prop) (h : S_law_no_columns as Q) : as.length = 2 := by
  unfold S_law_no_columns at h
  split at h
  · rfl
  · exact h.elim
theorem cels_law_no_columns : CelsIn 1 S_law_no_columns := by
  intro as Q h i p xs e
  unfold S_law_no_columns at h
  split at h
  · exact cels1 (ds := [_]) e
  · exact h.elim
def N_law_no_columns : List Str := ["_law_pot_here", "_law_sights_here", "_law_good", "_law_some", "_law_at", "_law_odd", "_law_table_here"]
theorem sc_law_no_columns : FnScope N_law_no_columns ["_law_pot_here", "_law_sights_here"] (defScope (top 69)) := ⟨rfl, rfl, rfl, by decide +kernel, rfl, by decide +kernel, by decide +kernel⟩
theorem fg_law_no_columns (T : Tp K mg) (D_law_take : Dn P w K mg base "_law_take" 1 ["_law_pot_here", "_law_many"] S_law_take) {fd : FuncData} (Fn : Fun K "_law_no_columns" "_law_no_columns" (top 69) (He.ga K "_law_no_columns") fd) : FnG P w K mg base 2 (He.ga K "_law_no_columns") fd ["_law_pot_here", "_law_sights_here"] S_law_no_columns := by
  refine dfn 1 Fn sc_law_no_columns len_law_no_columns cels_law_no_columns fun cdv A outer s H hr hA => ⟨_, (scons (sset 2 sc_law_no_columns.nd (dx (dtupleOf (m_tuple T) (acons (dfrz (dlc (dec := de_law_no_columns_1) (emb := em_law_no_columns_1) (qb := qb_law_no_columns_1) [("_law_table_here", 6)] (.one 6) hde_law_no_columns_1 rfl sc_law_no_columns.nd (iseq (dixP (dv 1) di)) (blkOk_by (own := [("_law_table_here", 6)]) (N := N_law_no_columns) (sc := defScope (top 69)) (by decide +kernel)) (fun _ _ _ _ _ => pg_name (i := 6) sc_law_no_columns.nd rfl (Or.inl rfl)) (fun _ _ _ _ _ => tyes) (fun _ _ _ _ _ => di) (fun d i s sk yd h => Eq.mp (by kernel_rfl) h))) anil)))) (scons (sset 3 sc_law_no_columns.nd (dlst (acons (dadd (dv 2) (dtup (acons di anil))) (acons (dfrz (dlistOf (m_list T) (acons (dv 2) anil))) (acons dn (acons di (acons ds (acons ddict0 (acons (dadd (dv 2) (dtup (acons dn anil))) anil))))))))) (scons (sif (dcmpT (op_empN hr.units) opd_emp (dv 2) (dtup anil) (nomark _)) (scons (sset 4 sc_law_no_columns.nd (dcnC 0 D_law_take (hr.mono (by decide)) hA (acons (dlen (m_len T) (acons (dv 2) anil)) anil))) (scons (sforQ [1, 5] de_law_no_columns_2 em_law_no_columns_2 kk_law_no_columns qb_law_no_columns_2 hde_law_no_columns_2 PassesOwn.never rfl (iseq (dtup (acons (dneg di) (acons db (acons db (acons dn (acons ds (acons (dtup (acons di anil)) (acons (dlen (m_len T) (acons (dixP (dixP (dixP (dv 1) di) (dv 4)) di) anil)) (acons (dpow di di) anil)))))))))) (gn 5 sc_law_no_columns.nd) (sone (sapp 3 (dadd (dadd (dsl (dv 2) so_none (so_some (dv 4))) (dtup (acons (dv 5) anil))) (dsl (dv 2) (so_some (dadd (dv 4) di)) so_none)))) (fun R d i s nx bk h => Eq.mp (by kernel_rfl) h)) (sone (sapp 3 (dsl (dv 2) (so_some di) so_none))))) snil) (ssforget [1, 4] (sone (sret (m := 1) (dx (dixC 3 (dfrz (dcnC 0 D_law_take (hr.mono (by decide)) hA (acons (dlenC 3 (m_len T)) anil))))))))))), fun as Q h => ?_⟩
  unfold S_law_no_columns at h
  split at h
  · unfold q_law_no_columns at h
    rename_i x0 x1
    refine at_env (b := [.cel true x0, .dat x1, .un, .un, .un, .un, .un]) rfl ?_
    exact Eq.mp (by kernel_rfl) h
  · exact h.elim
theorem ok_law_no_columns (T : Tp K mg) (D_law_take : Dn P w K mg base "_law_take" 1 ["_law_pot_here", "_law_many"] S_law_take) : Dn P w K mg base "_law_no_columns" 2 ["_law_pot_here", "_law_sights_here"] S_law_no_columns := by
  obtain ⟨kV, doc, pm, an, cdv, ct, Fn⟩ := T.fun_ "_law_no_columns" (top 69) 34 120
  exact ⟨⟨_, fg_law_no_columns T D_law_take Fn, Fn.binds (ps := ["_law_pot_here", "_law_sights_here"]) fun _ _ _ _ _ _ us hl => match us, hl with | [_, _], _ => rfl⟩, T.glo "_law_no_columns" 54, T.keep "_law_no_columns" 120⟩
def kk_law_asked : RT → (PyData → Prop) := fun R v => R (.dat v) []
def S_law_asked : DSp := fun as Q => match as with
  | [.dat x0, .dat x1] => q_law_asked x0 x1 (kk_law_asked Q)
  | _ => False
theorem len_law_asked (as : List SD) (Q : SD → List SD → Prop) (h : S_law_asked as Q) : as.length = 2 := by
  unfold S_law_asked at h
  split at h
  · rfl
  · exact h.elim
theorem cels_law_asked : CelsIn 0 S_law_asked := by
  intro as Q h i p xs e
  unfold S_law_asked at h
  split at h
  · exact absurd e (no_cel (ds := [_, _]) i p xs)
  · exact h.elim
def N_law_asked : List Str := ["_law_door", "_law_handed", "_law_sights_here", "_law_one", "_law_other", "e"]
theorem sc_law_asked : FnScope N_law_asked ["_law_door", "_law_handed"] (defScope (top 70)) := ⟨rfl, rfl, rfl, by decide +kernel, rfl, by decide +kernel, by decide +kernel⟩
theorem fg_law_asked (T : Tp K mg) (D_law_sort : DnB P w K mg base "_law_sort" 1 ["_law_caught"] S_law_sort) (D_all_sets : DnX P w K mg base "all_sets" 5 ["sights"] S_all_sets) (D_can : DnX P w K mg base "can" 5 ["sights"] S_can) (D_can_by : DnX P w K mg base "can_by" 5 ["sights", "log"] S_can_by) (D_how_many : DnX P w K mg base "how_many" 5 ["sights", "ships"] S_how_many) (D_may_be : DnX P w K mg base "may_be" 5 ["sights", "ships"] S_may_be) (D_must : DnX P w K mg base "must" 5 ["sights"] S_must) (D_must_by : DnX P w K mg base "must_by" 5 ["sights", "log"] S_must_by) (D_set_of : DnX P w K mg base "set_of" 5 ["sights", "log", "columns"] S_set_of) (D_shows_set : DnX P w K mg base "shows_set" 5 ["sights", "ships", "thing"] S_shows_set) {fd : FuncData} (Fn : Fun K "_law_asked" "_law_asked" (top 70) (He.ga K "_law_asked") fd) : FnG P w K mg base 6 (He.ga K "_law_asked") fd ["_law_door", "_law_handed"] S_law_asked := by
  refine dfn 0 Fn sc_law_asked len_law_asked cels_law_asked fun cdv A outer s H hr hA => ⟨_, (scons (sasg (dv 1) (gseq (gl_cons gok_n (gl_cons gok_n (gl_cons gok_n gl_nil))) rfl (gcons (gn 2 sc_law_asked.nd) (gcons (gn 3 sc_law_asked.nd) (gcons (gn 4 sc_law_asked.nd) gnil))))) (ssforget [1] (scons (stry 5 (gl_PrizeError T) sc_law_asked.nd (fun Ed pn xe tk1 po1 => (scons (sif (dcmpT (op_eqE hr.units) opd_eq (dv 0) di (nomark _)) (sone (sexpr (dcnE D_set_of (hr.mono (by decide)) hA tk1 (acons (dv 2) (acons (dv 3) (acons (dv 4) anil)))))) snil) (scons (sif (dcmpT (op_eqE hr.units) opd_eq (dv 0) di (nomark _)) (sone (sexpr (dcnE D_may_be (hr.mono (by decide)) hA tk1 (acons (dv 2) (acons (dv 3) anil))))) snil) (scons (sif (dcmpT (op_eqE hr.units) opd_eq (dv 0) di (nomark _)) (sone (sexpr (dcnE D_how_many (hr.mono (by decide)) hA tk1 (acons (dv 2) (acons (dv 3) anil))))) snil) (scons (sif (dcmpT (op_eqE hr.units) opd_eq (dv 0) di (nomark _)) (sone (sexpr (dcnE D_shows_set (hr.mono (by decide)) hA tk1 (acons (dv 2) (acons (dv 3) (acons (dv 4) anil)))))) snil) (ssforget [4] (scons (sif (dcmpT (op_eqE hr.units) opd_eq (dv 0) di (nomark _)) (sone (sexpr (dcnE D_must_by (hr.mono (by decide)) hA tk1 (acons (dv 2) (acons (dv 3) anil))))) snil) (scons (sif (dcmpT (op_eqE hr.units) opd_eq (dv 0) di (nomark _)) (sone (sexpr (dcnE D_can_by (hr.mono (by decide)) hA tk1 (acons (dv 2) (acons (dv 3) anil))))) snil) (ssforget [3] (scons (sif (dcmpT (op_eqE hr.units) opd_eq (dv 0) di (nomark _)) (sone (sexpr (dcnE D_all_sets (hr.mono (by decide)) hA tk1 (acons (dv 2) anil)))) snil) (scons (sif (dcmpT (op_eqE hr.units) opd_eq (dv 0) di (nomark _)) (sone (sexpr (dcnE D_must (hr.mono (by decide)) hA tk1 (acons (dv 2) anil)))) snil) (sone (sif (dcmpT (op_eqE hr.units) opd_eq (dv 0) di (nomark _)) (sone (sexpr (dcnE D_can (hr.mono (by decide)) hA tk1 (acons (dv 2) anil)))) snil))))))))))))) (fun a pn => (sone (sret (m := 0) (dx (dfrz (dcnB D_law_sort (hr.mark.mono (by decide)) hA (acons (dv 5) anil)))))))) (sone (sret (m := 0) (dx dn)))))), fun as Q h => ?_⟩
  unfold S_law_asked at h
  split at h
  · unfold q_law_asked at h
    rename_i x0 x1
    refine at_env (b := [.dat x0, .dat x1, .un, .un, .un, .un]) rfl ?_
    exact Eq.mp (by kernel_rfl) h
  · exact h.elim
theorem ok_law_asked (T : Tp K mg) (D_law_sort : DnB P w K mg base "_law_sort" 1 ["_law_caught"] S_law_sort) (D_all_sets : DnX P w K mg base "all_sets" 5 ["sights"] S_all_sets) (D_can : DnX P w K mg base "can" 5 ["sights"] S_can) (D_can_by : DnX P w K mg base "can_by" 5 ["sights", "log"] S_can_by) (D_how_many : DnX P w K mg base "how_many" 5 ["sights", "ships"] S_how_many) (D_may_be : DnX P w K mg base "may_be" 5 ["sights", "ships"] S_may_be) (D_must : DnX P w K mg base "must" 5 ["sights"] S_must) (D_must_by : DnX P w K mg base "must_by" 5 ["sights", "log"] S_must_by) (D_set_of : DnX P w K mg base "set_of" 5 ["sights", "log", "columns"] S_set_of) (D_shows_set : DnX P w K mg base "shows_set" 5 ["sights", "ships", "thing"] S_shows_set) : Dn P w K mg base "_law_asked" 6 ["_law_door", "_law_handed"] S_law_asked := by
  obtain ⟨kV, doc, pm, an, cdv, ct, Fn⟩ := T.fun_ "_law_asked" (top 70) 35 121
  exact ⟨⟨_, fg_law_asked T D_law_sort D_all_sets D_can D_can_by D_how_many D_may_be D_must D_must_by D_set_of D_shows_set Fn, Fn.binds (ps := ["_law_door", "_law_handed"]) fun _ _ _ _ _ _ us hl => match us, hl with | [_, _], _ => rfl⟩, T.glo "_law_asked" 55, T.keep "_law_asked" 121⟩
def kk_law_right : RT → (PyData → List PyData → Prop) := fun R v c => R (.dat v) [.cel true c]
def em_law_right_1 (i : List PyData × PyData × PyData × PyData) (s : Unit) : List SD := [.cel true i.1, .dat i.2.1, .dat i.2.2.1, .dat i.2.2.2, .un, .un, .un, .un, .un, .un, .un, .un]
def de_law_right_1 : List SD → Option ((List PyData × PyData × PyData × PyData) × (Unit))
  | [.cel true x0, .dat x1, .dat x2, .dat x3, .un, .un, .un, .un, .un, .un, .un, .un] => some ((x0, x1, x2, x3), ())
  | _ => none
theorem hde_law_right_1 : ∀ env i s, de_law_right_1 env = some (i, s) → env = em_law_right_1 i s := by
  intro env i s h
  unfold de_law_right_1 at h
  split at h
  · cases h; rfl
  · cases h
def em_law_right_2 (i : PyData × PyData × List PyData × PyData) (s : List PyData) : List SD := [.cel true s, .un, .dat i.1, .un, .dat i.2.1, .cel false i.2.2.1, .dat i.2.2.2, .un, .un, .un, .un, .un]
def de_law_right_2 : List SD → Option ((PyData × PyData × List PyData × PyData) × (List PyData))
  | [.cel true x0, .un, .dat x2, .un, .dat x4, .cel false x5, .dat x6, .un, .un, .un, .un, .un] => some ((x2, x4, x5, x6), x0)
  | _ => none
theorem hde_law_right_2 : ∀ env i s, de_law_right_2 env = some (i, s) → env = em_law_right_2 i s := by
  intro env i s h
  unfold de_law_right_2 at h
  split at h
  · cases h; rfl
  · cases h
def em_law_right_3 (i : PyData × PyData × List PyData × PyData × PyData × List PyData) (s : List PyData) : List SD := [.cel true s, .un, .dat i.1, .un, .dat i.2.1, .cel false i.2.2.1, .dat i.2.2.2.1, .dat i.2.2.2.2.1, .cel false i.2.2.2.2.2, .un, .un, .un]
def de_law_right_3 : List SD → Option ((PyData × PyData × List PyData × PyData × PyData × List PyData) × (List PyData))
  | [.cel true x0, .un, .dat x2, .un, .dat x4, .cel false x5, .dat x6, .dat x7, .cel false x8, .un, .un, .un] => some ((x2, x4, x5, x6, x7, x8), x0)
  | _ => none
theorem hde_law_right_3 : ∀ env i s, de_law_right_3 env = some (i, s) → env = em_law_right_3 i s := by
  intro env i s h
  unfold de_law_right_3 at h
  split at h
  · cases h; rfl
  · cases h
def em_law_right_4 (i : List PyData × PyData × PyData × List PyData × PyData × PyData) (s : List PyData) : List SD := [.cel true i.1, .un, .dat i.2.1, .un, .dat i.2.2.1, .cel false i.2.2.2.1, .dat i.2.2.2.2.1, .dat i.2.2.2.2.2, .cel false s, .un, .un, .un]
def de_law_right_4 : List SD → Option ((List PyData × PyData × PyData × List PyData × PyData × PyData) × (List PyData))
  | [.cel true x0, .un, .dat x2, .un, .dat x4, .cel false x5, .dat x6, .dat x7, .cel false x8, .un, .un, .un] => some ((x0, x2, x4, x5, x6, x7), x8)
  | _ => none
theorem hde_law_right_4 : ∀ env i s, de_law_right_4 env = some (i, s) → env = em_law_right_4 i s := by
  intro env i s h
  unfold de_law_right_4 at h
  split at h
  · cases h; rfl
  · cases h
def S_law_right : DSp := fun as Q => match as with
  | [.cel true x0, .dat x1, .dat x2] => q_law_right x0 x1 x2 (kk_law_right Q)
  | _ => False
theorem len_law_right (as : List SD) (Q : SD → List SD → Prop) (h : S_law_right as Q) : as.length = 3 := by
  unfold S_law_right at h
  split at h
  · rfl
  · exact h.elim
theorem cels_law_right : CelsIn 1 S_law_right := by
  intro as Q h i p xs e
  unfold S_law_right at h
  split at h
  · exact cels1 (ds := [_, _]) e
  · exact h.elim
def N_law_right : List Str := ["_law_pot_here", "_law_sights_here", "_law_door", "_law_many", "_law_good", "_law_odd", "_law_sorts", "_law_which", "_law_handed", "_law_at", "_law_kept", "_law_table_here"]
theorem sc_law_right : FnScope N_law_right ["_law_pot_here", "_law_sights_here", "_law_door"] (defScope (top 71)) := ⟨rfl, rfl, rfl, by decide +kernel, rfl, by decide +kernel, by decide +kernel⟩
theorem fg_law_right (T : Tp K mg) (D_law_asked : Dn P w K mg base "_law_asked" 6 ["_law_door", "_law_handed"] S_law_asked) (D_law_no_columns : Dn P w K mg base "_law_no_columns" 2 ["_law_pot_here", "_law_sights_here"] S_law_no_columns) (D_law_no_log : Dn P w K mg base "_law_no_log" 2 ["_law_pot_here", "_law_logs"] S_law_no_log) (D_law_no_set : Dn P w K mg base "_law_no_set" 2 ["_law_pot_here", "_law_many"] S_law_no_set) (D_law_no_sights : Dn P w K mg base "_law_no_sights" 3 ["_law_pot_here", "_law_sights_here"] S_law_no_sights) (D_law_take : Dn P w K mg base "_law_take" 1 ["_law_pot_here", "_law_many"] S_law_take) {fd : FuncData} (Fn : Fun K "_law_right" "_law_right" (top 71) (He.ga K "_law_right") fd) : FnG P w K mg base 7 (He.ga K "_law_right") fd ["_law_pot_here", "_law_sights_here", "_law_door"] S_law_right := by
  refine dfn 1 Fn sc_law_right len_law_right cels_law_right fun cdv A outer s H hr hA => ⟨_, (scons (sset 3 sc_law_right.nd (dx (dlen (m_len T) (acons (dixP (dv 1) di) anil)))) (scons (sset 4 sc_law_right.nd (dx (dfrz (dlst (acons (dv 1) (acons di (acons (dtupleOf (m_tuple T) (acons (dfrz (dlc (dec := de_law_right_1) (emb := em_law_right_1) (qb := qb_law_right_1) [("_law_table_here", 11)] (.one 11) hde_law_right_1 rfl sc_law_right.nd (iseq (dixP (dv 1) di)) (blkOk_by (own := [("_law_table_here", 11)]) (N := N_law_right) (sc := defScope (top 71)) (by decide +kernel)) (fun _ _ _ _ _ => pg_name (i := 11) sc_law_right.nd rfl (Or.inl rfl)) (fun _ _ _ _ _ => tyes) (fun _ _ _ _ _ => di) (fun d i s sk yd h => Eq.mp (by kernel_rfl) h))) anil)) anil))))))) (scons (sset 5 sc_law_right.nd (dlst (acons (dfrz (dcnC 0 D_law_no_sights (hr.mono (by decide)) hA (acons (dv 1) anil))) (acons (dfrz (dcnC 0 D_law_no_log (hr.mono (by decide)) hA (acons (dixP (dv 1) di) anil))) (acons (dfrz (dcnC 0 D_law_no_columns (hr.mono (by decide)) hA (acons (dv 1) anil))) anil))))) (scons (sset 6 sc_law_right.nd (dx (dfrz (dlst (acons ds (acons ds (acons ds anil))))))) (scons (sif (tin hr (dv 2) (dtup (acons di (acons di (acons di anil))))) (scons (sset 4 sc_law_right.nd (dx (dfrz (dlst (acons (dv 1) (acons (dtup anil) (acons dn anil))))))) (sone (sasg (dtup (acons (dfrz (dcnC 0 D_law_no_set (hr.mono (by decide)) hA (acons (dv 3) anil))) (acons (dfrz (dlst (acons ds (acons ds anil)))) anil))) (gtup (gl_cons gok_s (gl_cons gok_n gl_nil)) rfl (gcons (gsub 5) (gcons (gn 6 sc_law_right.nd) gnil)))))) snil) (ssforget [1, 3] (scons (sif (tin hr (dv 2) (dtup (acons di (acons di anil)))) (sone (sset 6 sc_law_right.nd (dx (dfrz (dlst (acons ds (acons ds anil))))))) snil) (scons (sif (dcmpT op_gt opr_gt (dv 2) di (nomark _)) (sone (sset 6 sc_law_right.nd (dx (dfrz (dlst (acons ds anil)))))) snil) (scons (sforQ [7, 8, 9, 10] de_law_right_2 em_law_right_2 kk_law_right qb_law_right_2 hde_law_right_2 PassesOwn.never rfl (irange1 (m_range T) (acons (dlen (m_len T) (acons (dv 6) anil)) anil)) (gn 7 sc_law_right.nd) (scons (sset 8 sc_law_right.nd (dlistOf (m_list T) (acons (dv 4) anil))) (scons (sforQ [9] de_law_right_4 em_law_right_4 kk_law_right qb_law_right_4 hde_law_right_4 PassesOwn.never rfl (iseq (dadd (dfrz (dlst (acons (dv 7) anil))) (dfrz (dlc (dec := de_law_right_3) (emb := em_law_right_3) (qb := qb_law_right_3) [("_law_at", 9)] (.one 9) hde_law_right_3 rfl sc_law_right.nd (irange1 (m_range T) (acons (dlen (m_len T) (acons (dv 6) anil)) anil)) (blkOk_by (own := [("_law_at", 9)]) (N := N_law_right) (sc := defScope (top 71)) (by decide +kernel)) (fun _ _ _ _ _ => pg_name (i := 9) sc_law_right.nd rfl (Or.inl rfl)) (fun _ _ _ _ _ => tif1 (tand (dcmpT op_gt opr_gt (dv 9) (dv 7) (nomark _)) (tand1 (dcmpT (op_eqE hr.units) opd_eq (dfrz (dcnC 0 D_law_take (hr.mono (by decide)) hA (acons di anil))) di (nomark _)))).pt) (fun _ _ _ _ _ => (dv 9)) (fun d i s sk yd h => Eq.mp (by kernel_rfl) h))))) (gn 9 sc_law_right.nd) (sone (ssetC 8 (dixC 5 (dv 9)) (dv 9))) (fun R d i s nx bk h => Eq.mp (by kernel_rfl) h)) (ssfreeze2 8 (scons (sset 10 sc_law_right.nd (dx (drepr (SysB.out (base := base)) (m_repr T) hr hA (acons (dv 8) anil)))) (sone (sif (tor (dcmpT (op_neE hr.units) opd_ne (dfrz (dcn D_law_asked (hr.mono (by decide)) hA (acons (dv 2) (acons (dv 8) anil)))) (dixP (dv 6) (dv 7)) (nomark _)) (tor1 (dcmpT (op_neE hr.units) opd_ne (drepr (SysB.out (base := base)) (m_repr T) hr hA (acons (dv 8) anil)) (dv 10) (nomark _)))).pt (sone (sret (m := 1) (dx db))) snil)))))) (fun R d i s nx bk h => Eq.mp (by kernel_rfl) h)) (sone (sret (m := 1) (dx (disN (dfrz (dcn D_law_asked (hr.mono (by decide)) hA (acons (dv 2) (acons (dv 4) anil))))))))))))))))), fun as Q h => ?_⟩
  unfold S_law_right at h
  split at h
  · unfold q_law_right at h
    rename_i x0 x1 x2
    refine at_env (b := [.cel true x0, .dat x1, .dat x2, .un, .un, .un, .un, .un, .un, .un, .un, .un]) rfl ?_
    exact Eq.mp (by kernel_rfl) h
  · exact h.elim
theorem ok_law_right (T : Tp K mg) (D_law_asked : Dn P w K mg base "_law_asked" 6 ["_law_door", "_law_handed"] S_law_asked) (D_law_no_columns : Dn P w K mg base "_law_no_columns" 2 ["_law_pot_here", "_law_sights_here"] S_law_no_columns) (D_law_no_log : Dn P w K mg base "_law_no_log" 2 ["_law_pot_here", "_law_logs"] S_law_no_log) (D_law_no_set : Dn P w K mg base "_law_no_set" 2 ["_law_pot_here", "_law_many"] S_law_no_set) (D_law_no_sights : Dn P w K mg base "_law_no_sights" 3 ["_law_pot_here", "_law_sights_here"] S_law_no_sights) (D_law_take : Dn P w K mg base "_law_take" 1 ["_law_pot_here", "_law_many"] S_law_take) : Dn P w K mg base "_law_right" 7 ["_law_pot_here", "_law_sights_here", "_law_door"] S_law_right := by
  obtain ⟨kV, doc, pm, an, cdv, ct, Fn⟩ := T.fun_ "_law_right" (top 71) 36 122
  exact ⟨⟨_, fg_law_right T D_law_asked D_law_no_columns D_law_no_log D_law_no_set D_law_no_sights D_law_take Fn, Fn.binds (ps := ["_law_pot_here", "_law_sights_here", "_law_door"]) fun _ _ _ _ _ _ us hl => match us, hl with | [_, _, _], _ => rfl⟩, T.glo "_law_right" 56, T.keep "_law_right" 122⟩
def kk_law : RT → (PyData → Prop) := fun R v => R (.dat v) []
def em_law_1 (i : PyData) (s : Unit) : List SD := [.dat i, .un, .un, .un, .un, .un, .un, .un, .un]
def de_law_1 : List SD → Option ((PyData) × (Unit))
  | [.dat x0, .un, .un, .un, .un, .un, .un, .un, .un] => some (x0, ())
  | _ => none
theorem hde_law_1 : ∀ env i s, de_law_1 env = some (i, s) → env = em_law_1 i s := by
  intro env i s h
  unfold de_law_1 at h
  split at h
  · cases h; rfl
  · cases h
def em_law_2 (i : PyData) (s : List PyData) : List SD := [.dat i, .un, .cel false s, .un, .un, .un, .un, .un, .un]
def de_law_2 : List SD → Option ((PyData) × (List PyData))
  | [.dat x0, .un, .cel false x2, .un, .un, .un, .un, .un, .un] => some (x0, x2)
  | _ => none
theorem hde_law_2 : ∀ env i s, de_law_2 env = some (i, s) → env = em_law_2 i s := by
  intro env i s h
  unfold de_law_2 at h
  split at h
  · cases h; rfl
  · cases h
def em_law_3 (i : PyData × PyData) (s : List PyData) : List SD := [.dat i.1, .un, .cel false s, .un, .dat i.2, .un, .un, .un, .un]
def de_law_3 : List SD → Option ((PyData × PyData) × (List PyData))
  | [.dat x0, .un, .cel false x2, .un, .dat x4, .un, .un, .un, .un] => some ((x0, x4), x2)
  | _ => none
theorem hde_law_3 : ∀ env i s, de_law_3 env = some (i, s) → env = em_law_3 i s := by
  intro env i s h
  unfold de_law_3 at h
  split at h
  · cases h; rfl
  · cases h
def em_law_4 (i : Unit) (s : Unit) : List SD := [.un, .un, .un, .un, .un, .un, .un, .un, .un]
def de_law_4 : List SD → Option ((Unit) × (Unit))
  | [.un, .un, .un, .un, .un, .un, .un, .un, .un] => some ((), ())
  | _ => none
theorem hde_law_4 : ∀ env i s, de_law_4 env = some (i, s) → env = em_law_4 i s := by
  intro env i s h
  unfold de_law_4 at h
  split at h
  · cases h; rfl
  · cases h
def em_law_5 (i : PyData) (s : Unit) : List SD := [.un, .un, .un, .un, .un, .un, .un, .dat i, .un]
def de_law_5 : List SD → Option ((PyData) × (Unit))
  | [.un, .un, .un, .un, .un, .un, .un, .dat x7, .un] => some (x7, ())
  | _ => none
theorem hde_law_5 : ∀ env i s, de_law_5 env = some (i, s) → env = em_law_5 i s := by
  intro env i s h
  unfold de_law_5 at h
  split at h
  · cases h; rfl
  · cases h
def em_law_6 (i : PyData × PyData) (s : Unit) : List SD := [.un, .un, .un, .un, .un, .un, .un, .dat i.1, .dat i.2]
def de_law_6 : List SD → Option ((PyData × PyData) × (Unit))
  | [.un, .un, .un, .un, .un, .un, .un, .dat x7, .dat x8] => some ((x7, x8), ())
  | _ => none
theorem hde_law_6 : ∀ env i s, de_law_6 env = some (i, s) → env = em_law_6 i s := by
  intro env i s h
  unfold de_law_6 at h
  split at h
  · cases h; rfl
  · cases h
def S_law : DSp := fun as Q => match as with
  | [.dat x0] => q_law x0 (kk_law Q)
  | _ => False
theorem len_law (as : List SD) (Q : SD → List SD → Prop) (h : S_law as Q) : as.length = 1 := by
  unfold S_law at h
  split at h
  · rfl
  · exact h.elim
theorem cels_law : CelsIn 0 S_law := by
  intro as Q h i p xs e
  unfold S_law at h
  split at h
  · exact absurd e (no_cel (ds := [_]) i p xs)
  · exact h.elim
def N_law : List Str := ["_law_script", "_law_k", "_law_pot_here", "_law_turn", "_law_sights_here", "_law_door", "_law_due", "_law_lone", "_law_ships"]
theorem sc_law : FnScope N_law ["_law_script"] (defScope (top 72)) := ⟨rfl, rfl, rfl, by decide +kernel, rfl, by decide +kernel, by decide +kernel⟩
theorem fg_law (T : Tp K mg) (D_law_asked : Dn P w K mg base "_law_asked" 6 ["_law_door", "_law_handed"] S_law_asked) (D_law_pot : Dn P w K mg base "_law_pot" 1 ["_law_script", "_law_k"] S_law_pot) (D_law_right : Dn P w K mg base "_law_right" 7 ["_law_pot_here", "_law_sights_here", "_law_door"] S_law_right) (D_law_sights : Dn P w K mg base "_law_sights" 3 ["_law_pot_here", "_law_most"] S_law_sights) {fd : FuncData} (Fn : Fun K "law" "law" (top 72) (He.ga K "law") fd) : FnG P w K mg base 8 (He.ga K "law") fd ["_law_script"] S_law := by
  refine dfn 0 Fn sc_law len_law cels_law fun cdv A outer s H hr hA => ⟨_, (scons (sforQ [1, 2, 3, 4, 5] de_law_1 em_law_1 kk_law qb_law_1 hde_law_1 PassesOwn.never rfl (irange1 (m_range T) (acons (dmax2 (m_max T) rfl (acons di (acons (dmin2 (m_min T) rfl (acons di (acons (dlen (m_len T) (acons (dv 0) anil)) anil))) anil))) anil)) (gn 1 sc_law.nd) (scons (sset 2 sc_law.nd (dcn D_law_pot (hr.mono (by decide)) hA (acons (dv 0) (acons (dv 1) anil)))) (ssforget [1] (sone (sforQ [3, 4, 5] de_law_2 em_law_2 kk_law qb_law_2 hde_law_2 PassesOwn.never rfl (irange1 (m_range T) (acons di anil)) (gn 3 sc_law.nd) (scons (sset 4 sc_law.nd (dcnC 2 D_law_sights (hr.mono (by decide)) hA (acons di anil))) (ssforget [3] (sone (sforQ [5] de_law_3 em_law_3 kk_law qb_law_3 hde_law_3 PassesOwn.never rfl (irange1 (m_range T) (acons di anil)) (gn 5 sc_law.nd) (sone (sif (tnot (dtest (dfrz (dcnC 2 D_law_right (hr.mono (by decide)) hA (acons (dv 4) (acons (dv 5) anil)))))) (sone (sret (m := 0) (dx db))) snil)) (fun R d i s nx bk h => Eq.mp (by kernel_rfl) h))))) (fun R d i s nx bk h => Eq.mp (by kernel_rfl) h))))) (fun R d i s nx bk h => Eq.mp (by kernel_rfl) h)) (ssforget [0] (scons (sforQ [5, 6] de_law_4 em_law_4 kk_law qb_law_4 hde_law_4 PassesOwn.never rfl (iseq (dtup (acons (dtup (acons di (acons ds anil))) (acons (dtup (acons di (acons ds anil))) (acons (dtup (acons di (acons ds anil))) (acons (dtup (acons di (acons ds anil))) (acons (dtup (acons di (acons ds anil))) (acons (dtup (acons di (acons ds anil))) anil)))))))) (gtup (gl_cons gok_n (gl_cons gok_n gl_nil)) rfl (gcons (gn 5 sc_law.nd) (gcons (gn 6 sc_law.nd) gnil))) (sone (sif (tor (dcmpT (op_neE hr.units) opd_ne (dfrz (dcn D_law_asked (hr.mono (by decide)) hA (acons (dv 5) (acons (dfrz (dlst (acons (dtup (acons di (acons (dtup anil) anil))) (acons (dfrz (dlst (acons di anil))) (acons dn anil))))) anil)))) (dv 6) (nomark _)) (tor1 (dcmpT (op_neE hr.units) opd_ne (dfrz (dcn D_law_asked (hr.mono (by decide)) hA (acons (dv 5) (acons (dfrz (dlst (acons (dtup (acons di (acons (dtup anil) anil))) (acons (dfrz (dlst (acons di anil))) (acons dn anil))))) anil)))) ds (nomark _)))).pt (sone (sret (m := 0) (dx db))) snil)) (fun R d i s nx bk h => Eq.mp (by kernel_rfl) h)) (scons (sset 7 sc_law.nd (dx (dtup (acons di (acons (dtup (acons (dtup (acons (dtup (acons db anil)) anil)) anil)) anil))))) (scons (sforQ [8] de_law_5 em_law_5 kk_law qb_law_5 hde_law_5 PassesOwn.never rfl (iseq (dtup (acons (dtup (acons di (acons di anil))) (acons (dtup (acons di anil)) (acons (dtup (acons db anil)) (acons (dtup (acons db anil)) anil)))))) (gn 8 sc_law.nd) (sone (sif (dcmpT (op_neE hr.units) opd_ne (dfrz (dlc (dec := de_law_6) (emb := em_law_6) (qb := qb_law_6) [("_law_door", 5)] (.one 5) hde_law_6 rfl sc_law.nd (iseq (dtup (acons di (acons di (acons di anil))))) (blkOk_by (own := [("_law_door", 5)]) (N := N_law) (sc := defScope (top 72)) (by decide +kernel)) (fun _ _ _ _ _ => pg_name (i := 5) sc_law.nd rfl (Or.inl rfl)) (fun _ _ _ _ _ => tyes) (fun _ _ _ _ _ => (dfrz (dcn D_law_asked (hr.mono (by decide)) hA (acons (dv 5) (acons (dfrz (dlst (acons (dv 7) (acons (dv 8) (acons dn anil))))) anil))))) (fun d i s sk yd h => Eq.mp (by kernel_rfl) h))) (dfrz (drep ds di)) (nomark _)) (sone (sret (m := 0) (dx db))) snil)) (fun R d i s nx bk h => Eq.mp (by kernel_rfl) h)) (sone (sret (m := 0) (dx db)))))))), fun as Q h => ?_⟩
  unfold S_law at h
  split at h
  · unfold q_law at h
    rename_i x0
    refine at_env (b := [.dat x0, .un, .un, .un, .un, .un, .un, .un, .un]) rfl ?_
    exact Eq.mp (by kernel_rfl) h
  · exact h.elim
theorem ok_law (T : Tp K mg) (D_law_asked : Dn P w K mg base "_law_asked" 6 ["_law_door", "_law_handed"] S_law_asked) (D_law_pot : Dn P w K mg base "_law_pot" 1 ["_law_script", "_law_k"] S_law_pot) (D_law_right : Dn P w K mg base "_law_right" 7 ["_law_pot_here", "_law_sights_here", "_law_door"] S_law_right) (D_law_sights : Dn P w K mg base "_law_sights" 3 ["_law_pot_here", "_law_most"] S_law_sights) : Dn P w K mg base "law" 8 ["_law_script"] S_law := by
  obtain ⟨kV, doc, pm, an, cdv, ct, Fn⟩ := T.fun_ "law" (top 72) 37 123
  exact ⟨⟨_, fg_law T D_law_asked D_law_pot D_law_right D_law_sights Fn, Fn.binds (ps := ["_law_script"]) fun _ _ _ _ _ _ us hl => match us, hl with | [_], _ => rfl⟩, T.glo "law" 57, T.keep "law" 123⟩
theorem law_imp (as : List SD) (Q : SD → List SD → Prop) (h : lawS 63 as Q) : S_law as Q := by
  unfold lawS at h
  split at h
  · obtain ⟨⟨ns, rfl, hn⟩, h⟩ := h
    exact the_law ns hn _ (h [])
  · exact h.elim

end
theorem facts {P : Program} {w : World} {K : PySem.W.Frag} {h : Heap} {mg : Str → Option Value} {f : Addr} (X : K.In h) (G : h.Ns mainGlobals mg) (hfa : mg ("law" : Str) = some (.ref f)) (c : He.SaysE fa fn K) (cx : FxSays fx K) :
    ∃ fd : FuncData, (∀ (s : Shared) (v : Value), BindsTo s fd ⟨[v], []⟩ [("_law_script", v)]) ∧ ∀ base : Heap, K.In base → base.Ns mainGlobals mg → SysD base → FnG P w K mg base 8 f fd ["_law_script"] (lawS 63) := by
  have T : Tp K mg := ⟨⟨c, h, X, G⟩, cx⟩
  have e := hfa.symm.trans (T.glo "law" 57)
  cases e
  obtain ⟨kV, doc, pm, an, cdv, ct, Fn⟩ := T.fun_ "law" (top 72) 37 123
  refine ⟨PySem.W.fnOf "law" "law" (defArgs (top 72)) (defBody (top 72)) (defScope (top 72)) .none kV doc pm an cdv ct, fun s v => .of_eq rfl, fun base _ _ BD => ?_⟩
  haveI : SysB base := ⟨BD⟩
  have D_is_whole : Dn P w K mg base "is_whole" 1 ["thing"] S_is_whole := ok_is_whole T 
  have D_is_number : Dn P w K mg base "is_number" 2 ["thing", "many"] S_is_number := ok_is_number T D_is_whole
  have D_is_row : Dn P w K mg base "is_row" 1 ["thing"] S_is_row := ok_is_row T 
  have D_is_table : Dn P w K mg base "is_table" 2 ["thing"] S_is_table := ok_is_table T D_is_row
  have D_are_sights : Dn P w K mg base "are_sights" 3 ["thing"] S_are_sights := ok_are_sights T D_is_number D_is_table
  have D_need_sights : DnX P w K mg base "need_sights" 4 ["thing"] S_need_sights := ok_need_sights T D_are_sights
  have D_need_set : DnX P w K mg base "need_set" 3 ["sights", "thing"] S_need_set := ok_need_set T D_is_number
  have D_need_log : DnX P w K mg base "need_log" 3 ["sights", "thing"] S_need_log := ok_need_log T D_is_number
  have D_is_choice : Dn P w K mg base "is_choice" 3 ["sights", "log", "columns"] S_is_choice := ok_is_choice T D_is_number
  have D_chosen : Dn P w K mg base "chosen" 1 ["sights", "log", "columns"] S_chosen := ok_chosen T 
  have D_set_of : DnX P w K mg base "set_of" 5 ["sights", "log", "columns"] S_set_of := ok_set_of T D_chosen D_is_choice D_need_sights
  have D_is_barred : Dn P w K mg base "is_barred" 1 ["sights", "ships", "log", "ship"] S_is_barred := ok_is_barred T 
  have D_bars_by : Dn P w K mg base "bars_by" 2 ["sights", "ships", "log"] S_bars_by := ok_bars_by T D_is_barred
  have D_columns_by : Dn P w K mg base "columns_by" 1 ["sights", "ships", "log"] S_columns_by := ok_columns_by T 
  have D_may_be : DnX P w K mg base "may_be" 5 ["sights", "ships"] S_may_be := ok_may_be T D_bars_by D_columns_by D_need_set D_need_sights
  have D_are_bars : Dn P w K mg base "are_bars" 3 ["sights", "ships", "thing"] S_are_bars := ok_are_bars T D_is_barred D_is_number
  have D_shows_set : DnX P w K mg base "shows_set" 5 ["sights", "ships", "thing"] S_shows_set := ok_shows_set T D_are_bars D_chosen D_is_choice D_need_set D_need_sights
  have D_sure_by : Dn P w K mg base "sure_by" 1 ["sights", "log"] S_sure_by := ok_sure_by T 
  have D_some_by : Dn P w K mg base "some_by" 1 ["sights", "log"] S_some_by := ok_some_by T 
  have D_sets_by : Dn P w K mg base "sets_by" 2 ["sights", "log"] S_sets_by := ok_sets_by T D_some_by D_sure_by
  have D_all_sets : DnX P w K mg base "all_sets" 5 ["sights"] S_all_sets := ok_all_sets T D_need_sights D_sets_by
  have D_how_many : DnX P w K mg base "how_many" 5 ["sights", "ships"] S_how_many := ok_how_many T D_need_set D_need_sights
  have D_must : DnX P w K mg base "must" 5 ["sights"] S_must := ok_must T D_need_sights D_sure_by
  have D_can : DnX P w K mg base "can" 5 ["sights"] S_can := ok_can T D_need_sights D_some_by
  have D_must_by : DnX P w K mg base "must_by" 5 ["sights", "log"] S_must_by := ok_must_by T D_need_log D_need_sights D_sure_by
  have D_can_by : DnX P w K mg base "can_by" 5 ["sights", "log"] S_can_by := ok_can_by T D_need_log D_need_sights D_some_by
  have D_law_pot : Dn P w K mg base "_law_pot" 1 ["_law_script", "_law_k"] S_law_pot := ok_law_pot T 
  have D_law_take : Dn P w K mg base "_law_take" 1 ["_law_pot_here", "_law_many"] S_law_take := ok_law_take T 
  have D_law_table : Dn P w K mg base "_law_table" 2 ["_law_pot_here", "_law_rows"] S_law_table := ok_law_table T D_law_take
  have D_law_sights : Dn P w K mg base "_law_sights" 3 ["_law_pot_here", "_law_most"] S_law_sights := ok_law_sights T D_law_table D_law_take
  have D_law_sort : DnB P w K mg base "_law_sort" 1 ["_law_caught"] S_law_sort := ok_law_sort T 
  have D_law_no_sights : Dn P w K mg base "_law_no_sights" 3 ["_law_pot_here", "_law_sights_here"] S_law_no_sights := ok_law_no_sights T D_law_table D_law_take
  have D_law_no_set : Dn P w K mg base "_law_no_set" 2 ["_law_pot_here", "_law_many"] S_law_no_set := ok_law_no_set T D_law_take
  have D_law_no_log : Dn P w K mg base "_law_no_log" 2 ["_law_pot_here", "_law_logs"] S_law_no_log := ok_law_no_log T D_law_take
  have D_law_no_columns : Dn P w K mg base "_law_no_columns" 2 ["_law_pot_here", "_law_sights_here"] S_law_no_columns := ok_law_no_columns T D_law_take
  have D_law_asked : Dn P w K mg base "_law_asked" 6 ["_law_door", "_law_handed"] S_law_asked := ok_law_asked T D_law_sort D_all_sets D_can D_can_by D_how_many D_may_be D_must D_must_by D_set_of D_shows_set
  have D_law_right : Dn P w K mg base "_law_right" 7 ["_law_pot_here", "_law_sights_here", "_law_door"] S_law_right := ok_law_right T D_law_asked D_law_no_columns D_law_no_log D_law_no_set D_law_no_sights D_law_take
  exact (fg_law T D_law_asked D_law_pot D_law_right D_law_sights Fn).imp law_imp
/-! ### the head -/
abbrev R : PySem.W.OpenRow := PySem.W.OpenLaw.row PySem.Challenge.rw_prizelog_k28_sets_refused
abbrev hk : PySem.W.Hook := hookX 5 fa fn fx
def ob (s : PySem.W.SharedT) : He.Al × Bool × Bool := (He.obsG 5 fa fn (HandSHeadRun.getT s), sysB (HandSHeadRun.getT s), fxG 5 fx (HandSHeadRun.getT s))
theorem ob_eq (s : PySem.W.SharedT) : ob s = hk.obs s.abs := obsX_eq (HandSHeadRun.getT_eq s)
def loose : List Str := "PrizeError" :: "NoWeights" :: "NoPart" :: "NoNumber" :: "NoLog" :: "NoChase" :: "NoMiles" :: "NoLogs" :: "NoTable" :: "NoSights" :: "NoSet" :: "NoRoll" :: "NoName" :: "NoHour" :: "NoScheme" :: "NoCrew" :: "NoMan" :: "NoSale" :: "NoCrews" :: "NoPages" :: "NoPage" :: "NoPrize" :: "NoBalances" :: "NoMoney" :: "NoChange" :: "TooMany" :: "NoText" :: "NoRow" :: "is_whole" :: "MOST_LOGS" :: "is_number" :: "is_row" :: "is_table" :: "MOST_SHIPS" :: "are_sights" :: "need_sights" :: "need_set" :: "need_log" :: "is_choice" :: "chosen" :: "set_of" :: "is_barred" :: "bars_by" :: "columns_by" :: "may_be" :: "are_bars" :: "shows_set" :: "sure_by" :: "some_by" :: "sets_by" :: "all_sets" :: "how_many" :: "must" :: "can" :: "must_by" :: "can_by" :: "_law_pot" :: "_law_take" :: "_law_table" :: "_law_sights" :: "_law_sort" :: "_law_no_sights" :: "_law_no_set" :: "_law_no_log" :: "_law_no_columns" :: "_law_asked" :: "_law_right" :: []
theorem run (w : World) : HandSHeadRun.RunEq R (PySem.W.view R.prog [72]) hk ob 20000 loose w := by
  intro os
  kernel_rfl
end K28
open PySem PySem.W PySem.Calls PyProof.Rows
set_option maxHeartbeats 0 in
theorem PySem.Challenge.cw_prizelog_k28_sets_refused_holds : PySem.Challenge.rw_prizelog_k28_sets_refused.Holds := by
  w_on; o_law
  refine HandSHeadRun.head_any (r := K28.R) (q := view K28.R.prog [72]) (H := K28.hk) (ob := K28.ob) (M := 20000) (loose := K28.loose) (d := HandSHeadRun.topDef K28.R.prog 72) (kwd := []) K28.ob_eq
    (by kernel_rfl) (fun s => by kernel_rfl) K28.run (by kernel_rfl) (by kernel_rfl) (by kernel_rfl) (by rfl) (by first | assumption | decide +kernel) (by decide +kernel) ⟨rfl, rfl, rfl, rfl, rfl, by decide +kernel⟩ ?hw ?hc
  case hw => w_witness2
  case hc =>
    refine DL.walk_dataE (l := PySem.Challenge.rw_prizelog_k28_sets_refused) (n := 63) (k := 8) (x := "_law_script") rfl (by decide) (by kernel_rfl) ⟨rfl, by decide, by decide⟩ ?F
    intro w mg fa h Y G hmg0
    obtain ⟨⟨K, KX, c, cx⟩, hsys⟩ := Y
    have hmg : mg ("law" : PySem.Str) = some (.ref fa) := by
      have e : (HandSHeadRun.topDef K28.R.prog 72).name = ("law" : PySem.Str) := by kernel_rfl
      rw [← e]
      exact hmg0
    obtain ⟨fd, hb, hF⟩ := K28.facts (P := (PySem.Challenge.rw_prizelog_k28_sets_refused).prog) (w := w) KX G hmg c cx
    exact ⟨K, fd, KX, hsys, hb, hF⟩
